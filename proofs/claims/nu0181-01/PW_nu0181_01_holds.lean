import PyProof.Rows.All
import Wide.All
import OpenK.AllK
import Wide.FinOn
import PyProof.AttrMissHeap
import PySem.Challenge.RW_nu0181_01
open PySem PySem.W PyProof.Rows PySem.Calls
set_option Elab.async false
set_option maxRecDepth 100000
set_option maxHeartbeats 8000000
set_option linter.all false
set_option compiler.extract_closed false
namespace Mine
local macro_rules | `(tactic| omega) => `(tactic| lia)
local macro_rules | `(tactic| k_qdec) => `(tactic| decide +kernel)

section
structure Wd (KK : Params → Frag) where
  prog : Program
  w : World
  B : Heap
  mg : Str → Option Value
  mb : Str → Option Value
  X : (KK w.params).In B
  Tg : B.Ns mainGlobals mg
  Tb : B.Ns builtinsNs mb
  nolimit : B.NoLimit
  bi : ∀ x : Str, x ≠ "__name__" → mb x = bootBuiltins x

abbrev Gh := Addr → Option Obj
abbrev Lm := List (Str × Value)

structure In {KK : Params → Frag} (W : Wd KK) (fr g : Gh) (L : Addr) (l : Lm) (h : Heap) : Prop where
  sub : ∀ b o, g b = some o → h.get? b = some o
  fsub : ∀ b o, fr b = some o → h.get? b = some o
  apart : ∀ b o, fr b = some o → g b = none
  base : ∀ b o, W.B.get? b = some o → g b = some o
  off : g L = none
  foff : fr L = none
  above : W.B.objs.size ≤ L
  ns : ∃ m, h.Ns L m ∧ ∀ x v, l.lookup x = some v → m x = some v

structure Ok (A : Around) (n : Nat) : Prop where
  hh : A.handled = none
  depth : A.depth + n < 500
  units : A.units + 8 * n < 8000

structure EnvOk (env : Env) : Prop where
  kind : env.scope.kind = .function
  globals : env.globals = mainGlobals
  builtins : env.builtins = builtinsNs

def Same (s s' : Shared) : Prop := s' = { s with heap := s'.heap, toks := s'.toks }
theorem Same.refl (s : Shared) : Same s s := rfl
theorem Same.mk' (s : Shared) (h : Heap) (t : Nat) : Same s { s with heap := h, toks := t } := rfl
theorem Same.trans {a b c : Shared} (x : Same a b) (y : Same b c) : Same a c := by
  unfold Same at *
  rw [y, x]

def R {α : Type} {KK : Params → Frag} (W : Wd KK) (n : Nat) (env : Env) (g : Gh) (l : Lm) (t : Sem α) (Q : α → Gh → Lm → Prop) : Prop :=
  ∀ (A : Around) (s : Shared) (E : Value → Shared → Prop) (fr : Gh), Ok A n → In W fr g env.locals l s.heap →
    wpAny (model W.prog W.w) A t (fun v s' => ∃ g' l', In W fr g' env.locals l' s'.heap ∧ Same s s' ∧ Q v g' l') E s

section
variable {α β : Type} {KK : Params → Frag} {W : Wd KK} {n : Nat} {env : Env} {g : Gh} {l : Lm}

theorem R.next {t : Sem α} {Q : α → Gh → Lm → Prop} (h : R W n env g l t Q) {A : Around} {s : Shared} {E : Value → Shared → Prop} {fr : Gh} (ok : Ok A n) (i : In W fr g env.locals l s.heap)
    {P : α → Shared → Prop} (k : ∀ v s' g' l', In W fr g' env.locals l' s'.heap → Same s s' → Q v g' l' → P v s') : wpAny (model W.prog W.w) A t P E s :=
  wpAny_mono (h A s E fr ok i) (fun v s' ⟨g', l', i', e, q⟩ => k v s' g' l' i' e q) fun _ _ e => e

theorem R.go {t : Sem α} {Q : α → Gh → Lm → Prop} (h : R W n env g l t Q) {A : Around} {s s₀ : Shared} {E : Value → Shared → Prop} {fr : Gh} (ok : Ok A n) (i : In W fr g env.locals l s.heap) (e₀ : Same s₀ s) :
    wpAny (model W.prog W.w) A t (fun v s' => ∃ g' l', In W fr g' env.locals l' s'.heap ∧ Same s₀ s' ∧ Q v g' l') E s :=
  h.next ok i fun _ _ g' l' i' e q => ⟨g', l', i', e₀.trans e, q⟩

theorem R_pure {v : α} {Q : α → Gh → Lm → Prop} (h : Q v g l) : R W n env g l (pure v) Q := fun _ s _ _ _ i => wpAny_pure ⟨g, l, i, Same.refl s, h⟩

theorem R_mono {t : Sem α} {Q Q' : α → Gh → Lm → Prop} (h : R W n env g l t Q) (k : ∀ v g' l', Q v g' l' → Q' v g' l') : R W n env g l t Q' :=
  fun _ _ _ _ ok i => h.next ok i fun v _ g' l' i' e q => ⟨g', l', i', e, k v g' l' q⟩

theorem R_bind {t : Sem α} {f : α → Sem β} {Q : β → Gh → Lm → Prop} (h : R W n env g l t fun v g' l' => R W n env g' l' (f v) Q) : R W n env g l (t >>= f) Q :=
  fun _ _ _ _ ok i => wpAny_bind (h.next ok i fun _ _ _ _ i' e q => q.go ok i' e)

theorem R_hold {vs : List Value} {t : Sem α} {Q : α → Gh → Lm → Prop} (h : R W n env g l t Q) : R W n env g l (holding vs t) Q :=
  fun A s E fr ok i => wpAny_holding (h A s E fr ok i)

theorem R_less {t : Sem α} {Q : α → Gh → Lm → Prop} {k : Nat} (h : R W k env g l t Q) (hk : k ≤ n := by omega) : R W n env g l t Q :=
  fun A s E fr ok i => h A s E fr ⟨ok.hh, by have := ok.depth; omega, by have := ok.units; omega⟩ i

theorem R_forget {t : Sem α} {Q : α → Gh → Lm → Prop} (l' : Lm) (hl : ∀ x v, l'.lookup x = some v → l.lookup x = some v) (h : R W n env g l' t Q) : R W n env g l t Q :=
  fun A s E fr ok i => h A s E fr ok ⟨i.sub, i.fsub, i.apart, i.base, i.off, i.foff, i.above, let ⟨m, a, b⟩ := i.ns; ⟨m, a, fun x v e => b x v (hl x v e)⟩⟩

theorem R_base {t : Sem α} {Q : α → Gh → Lm → Prop} (h : (∀ b o, W.B.get? b = some o → g b = some o) → R W n env g l t Q) : R W n env g l t Q :=
  fun A s E fr ok i => h i.base A s E fr ok i

theorem R_nil {Q : Flow → Gh → Lm → Prop} (h : Q .next g l) : R W n env g l (execs [] env) Q := fun _ s _ _ _ i => wpAny_execs_nil ⟨g, l, i, Same.refl s, h⟩

def Then {KK : Params → Frag} (W : Wd KK) (n : Nat) (env : Env) (rest : List Stmt) (Q : Flow → Gh → Lm → Prop) (f : Flow) (g : Gh) (l : Lm) : Prop := match f with
  | .next => R W n env g l (execs rest env) Q
  | f => Q f g l

theorem R_cons {st : Stmt} {rest : List Stmt} {Q : Flow → Gh → Lm → Prop} (h : R W n env g l (exec st env) (Then W n env rest Q)) : R W n env g l (execs (st :: rest) env) Q := by
  intro A s E fr ok i
  rw [execs_cons]
  refine wpAny_bind (h.next ok i fun f s' g' l' i' e q => ?_)
  cases f <;> first | exact R.go q ok i' e | exact wpAny_pure ⟨g', l', i', e, q⟩

theorem R_if {test : Expr} {body orelse : List Stmt} {pos : Pos} {Q : Flow → Gh → Lm → Prop}
    (h : R W n env g l (isTrue test env (eval test env)) fun b g' l' => (b = true → R W n env g' l' (execs body env) Q) ∧ (b = false → R W n env g' l' (execs orelse env) Q)) :
    R W n env g l (exec (.If test body orelse pos) env) Q := fun A s E fr ok i =>
  wpAny_If (h.next ok i fun b s' g' l' i' e q => by cases b <;> first | exact (q.1 rfl).go ok i' e | exact (q.2 rfl).go ok i' e)

theorem R_return {e : Expr} {pos : Pos} {Q : Flow → Gh → Lm → Prop} (h : R W n env g l (eval e env) fun v => Q (.ret v)) : R W n env g l (exec (.Return (some e) pos) env) Q :=
  fun A s E fr ok i => wpAny_Return_some (h A s E fr ok i)
theorem R_return0 {pos : Pos} {Q : Flow → Gh → Lm → Prop} (h : Q (.ret .none) g l) : R W n env g l (exec (.Return none pos) env) Q :=
  fun _ s _ _ _ i => wpAny_Return_none ⟨g, l, i, Same.refl s, h⟩

theorem R_int {k : Int} {x : Nat} {pos : Pos} {Q : Value → Gh → Lm → Prop} (h : ∀ t, Q (.int k t) g l) : R W n env g l (eval (.Constant (.int k) x pos) env) Q :=
  fun _ s _ _ _ i => wpAny_Constant_int ⟨g, l, i, Same.mk' s _ _, h _⟩
theorem R_str {x : Str} {k : Nat} {pos : Pos} {Q : Value → Gh → Lm → Prop} (h : ∀ t, Q (.str x t) g l) : R W n env g l (eval (.Constant (.str x) k pos) env) Q :=
  fun _ s _ _ _ i => wpAny_Constant_str ⟨g, l, i, Same.mk' s _ _, h _⟩
theorem R_bool {b : Bool} {k : Nat} {pos : Pos} {Q : Value → Gh → Lm → Prop} (h : Q (.bool b) g l) : R W n env g l (eval (.Constant (.bool b) k pos) env) Q :=
  fun _ s _ _ _ i => wpAny_Constant_bool ⟨g, l, i, Same.refl s, h⟩
theorem R_none {k : Nat} {pos : Pos} {Q : Value → Gh → Lm → Prop} (h : Q .none g l) : R W n env g l (eval (.Constant .none k pos) env) Q :=
  fun _ s _ _ _ i => wpAny_Constant_none ⟨g, l, i, Same.refl s, h⟩

theorem R_local {x : Str} {pos : Pos} {v : Value} {Q : Value → Gh → Lm → Prop} (hk : env.scope.kind = .function) (hx : env.kindOf x = some .local) (hd : (x == ("__debug__" : Str)) = false) (hv : l.lookup x = some v) (h : Q v g l) :
    R W n env g l (eval (.Name x pos) env) Q := fun _ s _ _ _ i =>
  let ⟨_, hn, hm⟩ := i.ns
  wpAny_Name (wpAny_loadName_local hk hx hn (hm x v hv) ⟨g, l, i, Same.refl s, h⟩) hd
theorem R_global {x : Str} {pos : Pos} {v : Value} {Q : Value → Gh → Lm → Prop} (he : EnvOk env) (hx : env.kindOf x = some .globalImplicit) (hd : (x == ("__debug__" : Str)) = false) (hv : nsIn (KK W.w.params) mainGlobals x = some (some v)) (h : Q v g l) :
    R W n env g l (eval (.Name x pos) env) Q := fun _ s _ _ _ i =>
  Name_function_global he.kind hx (loadGlobal_global (mg := W.mg) (by rw [he.globals]; exact W.Tg.keeps fun b o e => i.sub b o (i.base b o e)) (mg_of W.X W.Tg hv) ⟨g, l, i, Same.refl s, h⟩) hd
theorem R_builtin {x : Str} {pos : Pos} {v : Value} {Q : Value → Gh → Lm → Prop} (he : EnvOk env) (hx : env.kindOf x = some .globalImplicit) (hd : (x == ("__debug__" : Str)) = false) (hv : nsIn (KK W.w.params) mainGlobals x = some none)
    (hb : bootBuiltins x = some v) (hn : x ≠ "__name__") (h : Q v g l) :
    R W n env g l (eval (.Name x pos) env) Q := fun _ s _ _ _ i =>
  Name_function_global he.kind hx (loadGlobal_builtin (mg := W.mg) (mb := W.mb) (by rw [he.globals]; exact W.Tg.keeps fun b o e => i.sub b o (i.base b o e)) (mg_none_of W.X W.Tg hv)
    (by rw [he.builtins]; exact W.Tb.keeps fun b o e => i.sub b o (i.base b o e)) ((W.bi x hn).trans hb) ⟨g, l, i, Same.refl s, h⟩) hd

def cellObj (v : Option Value) : Obj := { cls := .type "cell", data := .cell v }
theorem R_cell {x : Str} {pos : Pos} {v : Value} {c : Addr} {o : Obj} {Q : Value → Gh → Lm → Prop} (hk : env.scope.kind = .function) (hx : env.kindOf x = some .cell) (hd : (x == ("__debug__" : Str)) = false) (hc : env.cells.lookup x = some c)
    (ho : g c = some o) (hv : o.data = .cell (some v)) (h : Q v g l) : R W n env g l (eval (.Name x pos) env) Q := fun _ s _ _ _ i =>
  wpAny_Name (wpAny_loadName_cell hk hx hc ⟨o, i.sub _ _ ho, hv⟩ ⟨g, l, i, Same.refl s, h⟩) hd
theorem R_free {x : Str} {pos : Pos} {v : Value} {c : Addr} {o : Obj} {Q : Value → Gh → Lm → Prop} (hk : env.scope.kind = .function) (hx : env.kindOf x = some .free) (hd : (x == ("__debug__" : Str)) = false) (hcd : (x == ("__classdict__" : Str)) = false) (hc : env.cells.lookup x = some c)
    (ho : g c = some o) (hv : o.data = .cell (some v)) (h : Q v g l) : R W n env g l (eval (.Name x pos) env) Q := fun _ s _ _ _ i =>
  wpAny_Name (wpAny_loadName_free hk hx hc ⟨o, i.sub _ _ ho, hv⟩ ⟨g, l, i, Same.refl s, h⟩ hcd) hd

theorem In.tok {fr : Gh} {L : Addr} {h : Heap} (i : In W fr g L l h) : In W fr g L l h := i

theorem In.store {fr : Gh} {L : Addr} {h h' : Heap} {m : Str → Option Value} {x : Str} {v : Value} (i : In W fr g L l h) (_hn : h.Ns L m) (hm : ∀ x v, l.lookup x = some v → m x = some v) (hn' : h'.Ns L (fun y => if y = x then some v else m y)) (hs : Heap.SameBut L h h') :
    In W fr g L ((x, v) :: l) h' where
  sub b o e := (hs.2 b (fun q => by rw [q, i.off] at e; cases e)).trans (i.sub b o e)
  fsub b o e := (hs.2 b (fun q => by rw [q, i.foff] at e; cases e)).trans (i.fsub b o e)
  apart := i.apart
  base := i.base
  off := i.off
  foff := i.foff
  above := i.above
  ns := ⟨_, hn', fun y u e => by
    rw [List.lookup_cons] at e
    by_cases q : y = x
    · subst q; rw [if_pos rfl]; simpa using e
    · rw [if_neg q]; rw [beq_false_of_ne q] at e; exact hm y u e⟩

def up (g : Gh) (a : Addr) (o : Obj) : Gh := fun b => if b = a then some o else g b
theorem up_same {a : Addr} {o : Obj} : up g a o a = some o := if_pos rfl
theorem up_ne {a b : Addr} {o : Obj} (h : b ≠ a) : up g a o b = g b := if_neg h
theorem up_old {a b : Addr} {o o' : Obj} (ha : g a = none) (hb : g b = some o') : up g a o b = some o' := by
  rw [up_ne fun q => by rw [q, ha] at hb; cases hb]; exact hb

theorem In.push {fr : Gh} {L : Addr} {h : Heap} {o : Obj} (i : In W fr g L l h) (hf : o.isFreed = false) :
    g h.objs.size = none ∧ W.B.get? h.objs.size = none ∧ h.objs.size ≠ L ∧ In W fr (up g h.objs.size o) L l (h.push o) := by
  have hg : g h.objs.size = none := by
    cases e : g h.objs.size with
    | none => rfl
    | some o' => exact absurd (Heap.lt_size (i.sub _ _ e)) (Nat.lt_irrefl _)
  have hB : W.B.get? h.objs.size = none := by
    cases e : W.B.get? h.objs.size with
    | none => rfl
    | some o' => rw [i.base _ _ e] at hg; cases hg
  obtain ⟨m, hn, hm⟩ := i.ns
  have hL : h.objs.size ≠ L := fun q => by
    obtain ⟨oL, _, _, hL, _⟩ := hn
    exact absurd (Heap.lt_size hL) (by rw [← q]; exact Nat.lt_irrefl _)
  refine ⟨hg, hB, hL, ?_⟩
  exact {
    sub := fun b o' e => by
      by_cases q : b = h.objs.size
      · subst q; rw [up_same] at e; cases e; exact Heap.get?_push_size _ hf
      · rw [up_ne q] at e; exact Heap.get?_push_of_some _ (i.sub b o' e)
    fsub := fun b o' e => Heap.get?_push_of_some _ (i.fsub b o' e)
    apart := fun b o' e => by
      rw [up_ne fun q => absurd (Heap.lt_size (i.fsub b o' e)) (by rw [q]; exact Nat.lt_irrefl _)]; exact i.apart b o' e
    base := fun b o' e => up_old hg (i.base b o' e)
    off := by rw [up_ne (Ne.symm hL)]; exact i.off
    foff := i.foff
    above := i.above
    ns := ⟨m, hn.push _, hm⟩ }

theorem In.change {fr : Gh} {L : Addr} {h h' : Heap} {a : Addr} {o o' : Obj} (i : In W fr g L l h) (ha : g a = some o) (hB : W.B.get? a = none) (hs : Heap.SameBut a h h') (h2 : h'.get? a = some o') : In W fr (up g a o') L l h' := by
  have hL : L ≠ a := fun q => by rw [← q, i.off] at ha; cases ha
  obtain ⟨m, hn, hm⟩ := i.ns
  exact {
    sub := fun b x e => by
      by_cases q : b = a
      · subst q; rw [up_same] at e; cases e; exact h2
      · rw [up_ne q] at e; exact (hs.2 b q).trans (i.sub b x e)
    fsub := fun b x e => (hs.2 b (fun q => by have := i.apart b x e; rw [q, ha] at this; cases this)).trans (i.fsub b x e)
    apart := fun b x e => by
      rw [up_ne fun q => by have := i.apart b x e; rw [q, ha] at this; cases this]; exact i.apart b x e
    base := fun b x e => by rw [up_ne fun q => by rw [q, hB] at e; cases e]; exact i.base b x e
    off := by rw [up_ne hL]; exact i.off
    foff := i.foff
    above := i.above
    ns := ⟨m, hn.sameBut hs hL, hm⟩ }

theorem R_assign {x : Str} {pos' pos : Pos} {e : Expr} {Q : Flow → Gh → Lm → Prop} (hk : env.scope.kind = .function) (hx : env.kindOf x = some .local) (hs : swapsWith e (some (.Name x pos')) pos.line env = pure false)
    (h : R W n env g l (eval e env) fun v g' l' => Q .next g' ((x, v) :: l')) : R W n env g l (exec (.Assign [.Name x pos'] e pos) env) Q := fun A s E fr ok i =>
  wpAny_Assign_Name (h.next ok i fun v s' g' l' i' e' q =>
    let ⟨m, hn, hm⟩ := i'.ns
    wpAny_storeName_local hx hn (fun h' hn' hs' => ⟨g', _, i'.store hn hm hn' hs', e'.trans (Same.mk' s' _ _), q⟩) (by rw [hk]; rfl)) hs

theorem R_assignCell {x : Str} {pos' pos : Pos} {e : Expr} {Q : Flow → Gh → Lm → Prop} {c : Addr} (hk : env.scope.kind = .function) (hx : env.kindOf x = some .cell) (hc : env.cells.lookup x = some c) (hs : swapsWith e (some (.Name x pos')) pos.line env = pure false)
    (h : R W n env g l (eval e env) fun v g' l' => W.B.get? c = none ∧ ∃ o v₀, g' c = some o ∧ o.data = .cell v₀ ∧ ∀ o', o'.data = .cell (some v) → Q .next (up g' c o') l') : R W n env g l (exec (.Assign [.Name x pos'] e pos) env) Q := fun A s E fr ok i =>
  wpAny_Assign_Name (h.next ok i fun v s' g' l' i' e' q =>
    let ⟨hB, o, v₀, ho, hd, q⟩ := q
    wpAny_storeName_cell hk hx hc ⟨o, i'.sub _ _ ho, hd⟩ fun h' hv hs' =>
      let ⟨o', ho', hd'⟩ := hv
      ⟨_, l', i'.change ho hB hs' ho', e'.trans (Same.mk' s' _ _), q o' hd'⟩) hs
end
end

section
section
variable {α β : Type} {KK : Params → Frag} {W : Wd KK} {n : Nat} {env : Env} {g : Gh} {l : Lm}

theorem R_binop {a b : Expr} {op : Operator} {pos : Pos} {Q : Value → Gh → Lm → Prop}
    (h : R W n env g l (eval a env) fun x g' l' => R W n env g' l' (eval b env) fun y g' l' => R W n env g' l' (binaryOp op x y) Q) : R W n env g l (eval (.BinOp a op b pos) env) Q :=
  fun A s E fr ok i => wpAny_BinOp (h.next ok i fun _ _ _ _ i e q => q.next ok i fun _ _ _ _ i e' q => q.go ok i (e.trans e'))
theorem R_unop {a : Expr} {op : UnaryOp} {pos : Pos} {Q : Value → Gh → Lm → Prop} (h : R W n env g l (eval a env) fun x g' l' => R W n env g' l' (unaryOp op x) Q) : R W n env g l (eval (.UnaryOp op a pos) env) Q :=
  fun A s E fr ok i => wpAny_UnaryOp (h.next ok i fun _ _ _ _ i e q => q.go ok i e)
theorem R_ifexp {test a b : Expr} {pos : Pos} {Q : Value → Gh → Lm → Prop}
    (h : R W n env g l (isTrue test env (eval test env)) fun c g' l' => (c = true → R W n env g' l' (eval a env) Q) ∧ (c = false → R W n env g' l' (eval b env) Q)) : R W n env g l (eval (.IfExp test a b pos) env) Q :=
  fun A s E fr ok i => wpAny_IfExp (h.next ok i fun c s' g' l' i' e q => by cases c <;> first | exact (q.1 rfl).go ok i' e | exact (q.2 rfl).go ok i' e)
theorem R_cmp {a b : Expr} {op : CmpOp} {pos : Pos} {Q : Value → Gh → Lm → Prop} (hm : behindInMarks op b = false)
    (h : R W n env g l (eval a env) fun x g' l' => R W n env g' l' (eval b env) fun y g' l' => R W n env g' l' (compareOp op x y) Q) : R W n env g l (eval (.Compare a [op] [b] pos) env) Q :=
  fun A s E fr ok i => wpAny_Compare1 (h.next ok i fun _ _ _ _ i e q => q.next ok i fun _ _ _ _ i e' q => q.go ok i (e.trans e')) hm
theorem R_isCmp {a b : Expr} {op : CmpOp} {pos : Pos} {whole : Sem Value} {Q : Bool → Gh → Lm → Prop} (hm : behindInMarks op b = false)
    (h : R W n env g l (eval a env) fun x g' l' => R W n env g' l' (eval b env) fun y g' l' => R W n env g' l' (compareOp op x y) fun c g' l' => R W n env g' l' (truthy c) Q) : R W n env g l (isTrue (.Compare a [op] [b] pos) env whole) Q :=
  fun A s E fr ok i => wpAny_isTrue_Compare1 (h.next ok i fun _ _ _ _ i e q => q.next ok i fun _ _ _ _ i e' q => q.next ok i fun _ _ _ _ i e'' q => q.go ok i ((e.trans e').trans e'')) hm
theorem R_isNot {x : Expr} {pos : Pos} {whole : Sem Value} {Q : Bool → Gh → Lm → Prop} (h : R W n env g l (isTrue x env (eval x env)) fun b => Q (!b)) : R W n env g l (isTrue (.UnaryOp .Not x pos) env whole) Q :=
  fun A s E fr ok i => wpAny_isTrue_Not (h A s E fr ok i)
theorem R_isValue {e : Expr} {whole : Sem Value} {Q : Bool → Gh → Lm → Prop} (hi : isTrue e env whole = do let v ← whole; standAt e.pos; holding [v] (truthy v))
    (h : R W n env g l whole fun v g' l' => R W n env g' l' (truthy v) Q) : R W n env g l (isTrue e env whole) Q :=
  fun A s E fr ok i => wpAny_isTrue_value (h.next ok i fun _ _ _ _ i e q => q.go ok i e) hi
theorem R_isBool {op : BoolOp} {es : List Expr} {pos : Pos} {whole : Sem Value} {Q : Bool → Gh → Lm → Prop} (h : R W n env g l (allTrue op es env) Q) : R W n env g l (isTrue (.BoolOp op es pos) env whole) Q :=
  fun A s E fr ok i => wpAny_isTrue_BoolOp (h A s E fr ok i)
theorem R_andNil {Q : Bool → Gh → Lm → Prop} (h : Q true g l) : R W n env g l (allTrue .And [] env) Q := fun _ s _ _ _ i => wpAny_allTrue_And_nil ⟨g, l, i, Same.refl s, h⟩
theorem R_orNil {Q : Bool → Gh → Lm → Prop} (h : Q false g l) : R W n env g l (allTrue .Or [] env) Q := fun _ s _ _ _ i => wpAny_allTrue_Or_nil ⟨g, l, i, Same.refl s, h⟩
theorem R_andCons {x : Expr} {es : List Expr} {Q : Bool → Gh → Lm → Prop} (h : R W n env g l (isTrue x env (eval x env)) fun b g' l' => (b = true → R W n env g' l' (allTrue .And es env) Q) ∧ (b = false → Q false g' l')) :
    R W n env g l (allTrue .And (x :: es) env) Q :=
  fun A s E fr ok i => wpAny_allTrue_And_cons (h.next ok i fun b s' g' l' i' e q => by cases b <;> first | exact (q.1 rfl).go ok i' e | exact ⟨_, _, i', e, q.2 rfl⟩)
theorem R_orCons {x : Expr} {es : List Expr} {Q : Bool → Gh → Lm → Prop} (h : R W n env g l (isTrue x env (eval x env)) fun b g' l' => (b = false → R W n env g' l' (allTrue .Or es env) Q) ∧ (b = true → Q true g' l')) :
    R W n env g l (allTrue .Or (x :: es) env) Q :=
  fun A s E fr ok i => wpAny_allTrue_Or_cons (h.next ok i fun b s' g' l' i' e q => by cases b <;> first | exact (q.1 rfl).go ok i' e | exact ⟨_, _, i', e, q.2 rfl⟩)
theorem R_or2 {x y : Expr} {pos : Pos} {Q : Value → Gh → Lm → Prop} (h : R W n env g l (eval x env) fun v g' l' => R W n env g' l' (truthy v) fun b g' l' => (b = true → Q v g' l') ∧ (b = false → R W n env g' l' (eval y env) Q)) :
    R W n env g l (eval (.BoolOp .Or [x, y] pos) env) Q :=
  fun A s E fr ok i => wpAny_Or2 (h.next ok i fun _ _ _ _ i e q => q.next ok i fun b _ _ _ i e' q => by cases b <;> first | exact (q.2 rfl).go ok i (e.trans e') | exact ⟨_, _, i, e.trans e', q.1 rfl⟩)
theorem R_and2 {x y : Expr} {pos : Pos} {Q : Value → Gh → Lm → Prop} (h : R W n env g l (eval x env) fun v g' l' => R W n env g' l' (truthy v) fun b g' l' => (b = false → Q v g' l') ∧ (b = true → R W n env g' l' (eval y env) Q)) :
    R W n env g l (eval (.BoolOp .And [x, y] pos) env) Q :=
  fun A s E fr ok i => wpAny_And2 (h.next ok i fun _ _ _ _ i e q => q.next ok i fun b _ _ _ i e' q => by cases b <;> first | exact (q.2 rfl).go ok i (e.trans e') | exact ⟨_, _, i, e.trans e', q.1 rfl⟩)
theorem R_isChain {a b c : Expr} {op op' : CmpOp} {pos : Pos} {whole : Sem Value} {Q : Bool → Gh → Lm → Prop} (hm : lastMarks [op, op'] [b, c] = false)
    (h : R W n env g l (eval a env) fun x g' l' => R W n env g' l' (eval b env) fun y g' l' => R W n env g' l' (compareOp op x y) fun d g' l' => R W n env g' l' (truthy d) fun t g' l' =>
      (t = true → R W n env g' l' (eval c env) fun z g' l' => R W n env g' l' (compareOp op' y z) fun d g' l' => R W n env g' l' (truthy d) Q) ∧ (t = false → Q false g' l')) : R W n env g l (isTrue (.Compare a [op, op'] [b, c] pos) env whole) Q :=
  fun A s E fr ok i => isTrue_chain (ops := []) (rs := []) (h.next ok i fun x s₁ g₁ l₁ i e q => by
    show wpAny _ _ (testChain pos x [op, op'] [eval b env, eval c env]) _ _ _
    unfold testChain
    refine wpAny_bind (wpAny_holding (q.next ok i fun y s₂ g₂ l₂ i e₂ q => wpAny_bind (wpAny_standAt (wpAny_bind (wpAny_holding (q.next ok i fun d s₃ g₃ l₃ i e₃ q => wpAny_bind (wpAny_release (wpAny_bind (wpAny_holding (q.next ok i fun t s₄ g₄ l₄ i e₄ q => ?_))))))))))
    have e' := ((e.trans e₂).trans e₃).trans e₄
    cases t with
    | false => simp only [Bool.false_eq_true, if_false]; exact wpAny_pure ⟨_, _, i, e', q.2 rfl⟩
    | true =>
      simp only [if_true]
      show wpAny _ _ (testChain pos y [op'] [eval c env]) _ _ _
      unfold testChain
      refine wpAny_bind (wpAny_holding ((q.1 rfl).next ok i fun z s₅ g₅ l₅ i e₅ q => wpAny_bind (wpAny_standAt (wpAny_bind (wpAny_operateT (q.next ok i fun d s₆ g₆ l₆ i e₆ q => wpAny_holding (q.go ok i ((e'.trans e₅).trans e₆))))))))) hm

theorem R_itNil {pos : Pos} {Q : List Value → Gh → Lm → Prop} (h : Q [] g l) : R W n env g l (spliced (backTo pos (starEach [] env))) Q := fun _ s _ _ _ i => wpAny_items_nil ⟨g, l, i, Same.refl s, h⟩
theorem R_itCons {pos : Pos} {e : Expr} {rest : List Expr} {Q : List Value → Gh → Lm → Prop} (hs : starEach (e :: rest) env = (false, eval e env) :: starEach rest env)
    (h : R W n env g l (eval e env) fun v g' l' => R W n env g' l' (spliced (backTo pos (starEach rest env))) fun vs => Q (v :: vs)) : R W n env g l (spliced (backTo pos (starEach (e :: rest) env))) Q :=
  fun A s E fr ok i => wpAny_items_cons (h.next ok i fun _ _ _ _ i e q => q.go ok i e) hs

def tupO (vs : List Value) : Obj := { cls := .type "tuple", data := .seq vs.toArray }
def lstO (vs : List Value) (k : Nat) : Obj := { cls := .type "list", data := .seq vs.toArray k }
def TU (g : Gh) (a : Addr) (vs : List Value) : Prop := ∃ k, g a = some { cls := .type "tuple", data := .seq vs.toArray k }
def LI (g : Gh) (a : Addr) (vs : List Value) : Prop := ∃ k, g a = some (lstO vs k)

theorem R_alloc {o : Obj} {t : Sem Value} {Q : Value → Gh → Lm → Prop} (ht : ∀ (A : Around) (s : Shared) (E : Value → Shared → Prop) (P : Value → Shared → Prop), P (.ref s.heap.objs.size) { s with heap := s.heap.push o } → wpAny (model W.prog W.w) A t P E s) (hf : o.isFreed = false)
    (h : ∀ a, g a = none → W.B.get? a = none → Q (.ref a) (up g a o) l) : R W n env g l t Q := fun A s E fr ok i =>
  let ⟨hg, hB, _, i'⟩ := i.push hf
  ht A s E _ ⟨_, l, i', Same.mk' s _ _, h _ hg hB⟩
theorem R_newTuple {vs : List Value} {Q : Value → Gh → Lm → Prop} (hsz : vs.length ≤ sizeLine) (h : ∀ a, g a = none → W.B.get? a = none → Q (.ref a) (up g a (tupO vs)) l) : R W n env g l (newTuple vs) Q :=
  R_alloc (fun A s E P p => wpAny_newObj_type p (by show vs.toArray.size ≤ sizeLine; rw [List.size_toArray]; exact hsz)) rfl h
theorem R_newList {vs : List Value} {Q : Value → Gh → Lm → Prop} (hsz : vs.length ≤ sizeLine) (h : ∀ a, g a = none → W.B.get? a = none → Q (.ref a) (up g a (lstO vs 0)) l) : R W n env g l (newList vs) Q :=
  R_alloc (fun A s E P p => wpAny_newObj_type p (by show vs.toArray.size ≤ sizeLine; rw [List.size_toArray]; exact hsz)) rfl h
theorem R_tuple {es : List Expr} {k : Nat} {pos : Pos} {Q : Value → Gh → Lm → Prop} (h : R W n env g l (spliced (backTo pos (starEach es env))) fun vs g' l' => vs.length ≤ sizeLine ∧ ∀ a, g' a = none → W.B.get? a = none → Q (.ref a) (up g' a (tupO vs)) l') :
    R W n env g l (eval (.Tuple es k pos) env) Q := fun A s E fr ok i =>
  Tuple_ (h.next ok i fun vs _ _ _ i e q => (R_newTuple q.1 q.2).go ok i e)
theorem R_list {es : List Expr} {pos : Pos} {Q : Value → Gh → Lm → Prop} (h : R W n env g l (spliced (backTo pos (starEach es env))) fun vs g' l' => vs.length ≤ sizeLine ∧ ∀ a, g' a = none → W.B.get? a = none → Q (.ref a) (up g' a (lstO vs 0)) l') :
    R W n env g l (eval (.List es pos) env) Q := fun A s E fr ok i =>
  List_ (h.next ok i fun vs _ _ _ i e q => (R_newList q.1 q.2).go ok i e)

theorem R_add {a b : Int} {t u : Tok} {Q : Value → Gh → Lm → Prop} (h : ∀ t, Q (.int (a + b) t) g l) : R W n env g l (binaryOp .Add (.int a t) (.int b u)) Q := fun _ s _ _ _ i => add_int ⟨g, l, i, Same.mk' s _ _, h _⟩
theorem R_sub {a b : Int} {t u : Tok} {Q : Value → Gh → Lm → Prop} (h : ∀ t, Q (.int (a - b) t) g l) : R W n env g l (binaryOp .Sub (.int a t) (.int b u)) Q := fun _ s _ _ _ i => sub_int ⟨g, l, i, Same.mk' s _ _, h _⟩
theorem R_mul {a b : Int} {t u : Tok} {Q : Value → Gh → Lm → Prop} (hm : IntMulOk a b) (h : ∀ t, Q (.int (a * b) t) g l) : R W n env g l (binaryOp .Mult (.int a t) (.int b u)) Q := fun _ s _ _ _ i => mul_int ⟨g, l, i, Same.mk' s _ _, h _⟩ hm
theorem R_mod {a b : Int} {t u : Tok} {Q : Value → Gh → Lm → Prop} (hb : b ≠ 0) (h : ∀ t, Q (.int (a.fmod b) t) g l) : R W n env g l (binaryOp .Mod (.int a t) (.int b u)) Q := fun _ s _ _ _ i => mod_int' hb ⟨g, l, i, Same.mk' s _ _, h _⟩
theorem R_div {a b : Int} {t u : Tok} {Q : Value → Gh → Lm → Prop} (hb : b ≠ 0) (hp : b.natAbs.log2 < 9000) (h : ∀ t, Q (.int (a.fdiv b) t) g l) : R W n env g l (binaryOp .FloorDiv (.int a t) (.int b u)) Q :=
  fun _ s _ _ _ i => floordiv_int hb ⟨g, l, i, Same.mk' s _ _, h _⟩ (.inl (PyProof.noPylong_of_log2 hp))
theorem R_and {a b : Int} {t u : Tok} {Q : Value → Gh → Lm → Prop} (h : ∀ t, Q (.int (Builtin.bitAnd a b) t) g l) : R W n env g l (binaryOp .BitAnd (.int a t) (.int b u)) Q := fun _ s _ _ _ i => and_int ⟨g, l, i, Same.mk' s _ _, h _⟩
theorem R_pow {a b : Int} {t u : Tok} {Q : Value → Gh → Lm → Prop} (h0 : 0 ≤ b) (h1 : b ≤ 1000000) (h2 : a.natAbs < 2 ^ 64) (h : ∀ t, Q (.int (a ^ b.toNat) t) g l) : R W n env g l (binaryOp .Pow (.int a t) (.int b u)) Q :=
  fun _ s _ _ _ i => pow_int_small h0 h1 h2 ⟨g, l, i, Same.mk' s _ _, h _⟩
theorem R_neg {a : Int} {t : Tok} {Q : Value → Gh → Lm → Prop} (h : ∀ t, Q (.int (-a) t) g l) : R W n env g l (unaryOp .USub (.int a t)) Q := fun _ s _ _ _ i => neg_int ⟨g, l, i, Same.mk' s _ _, h _⟩
theorem R_lt {a b : Int} {t u : Tok} {Q : Value → Gh → Lm → Prop} (h : Q (.bool (decide (a < b))) g l) : R W n env g l (compareOp .Lt (.int a t) (.int b u)) Q := fun _ s _ _ _ i => wpAny_lt_int ⟨g, l, i, Same.refl s, h⟩
theorem R_gt {a b : Int} {t u : Tok} {Q : Value → Gh → Lm → Prop} (h : Q (.bool (decide (b < a))) g l) : R W n env g l (compareOp .Gt (.int a t) (.int b u)) Q := fun _ s _ _ _ i => gt_int ⟨g, l, i, Same.refl s, h⟩
theorem R_le {a b : Int} {t u : Tok} {Q : Value → Gh → Lm → Prop} (h : Q (.bool (decide (a ≤ b))) g l) : R W n env g l (compareOp .LtE (.int a t) (.int b u)) Q := fun _ s _ _ _ i => le_int ⟨g, l, i, Same.refl s, h⟩
theorem R_ge {a b : Int} {t u : Tok} {Q : Value → Gh → Lm → Prop} (h : Q (.bool (decide (b ≤ a))) g l) : R W n env g l (compareOp .GtE (.int a t) (.int b u)) Q := fun _ s _ _ _ i => ge_int ⟨g, l, i, Same.refl s, h⟩
theorem R_eqI {a b : Int} {t u : Tok} {Q : Value → Gh → Lm → Prop} (h : Q (.bool (a == b)) g l) : R W n env g l (compareOp .Eq (.int a t) (.int b u)) Q := fun _ s _ _ _ i => eq_int ⟨g, l, i, Same.refl s, h⟩
theorem R_neI {a b : Int} {t u : Tok} {Q : Value → Gh → Lm → Prop} (h : Q (.bool (a != b)) g l) : R W n env g l (compareOp .NotEq (.int a t) (.int b u)) Q := fun _ s _ _ _ i => ne_int ⟨g, l, i, Same.refl s, h⟩
theorem R_eqS {a b : Str} {t u : Tok} {Q : Value → Gh → Lm → Prop} (h : Q (.bool (a == b)) g l) : R W n env g l (compareOp .Eq (.str a t) (.str b u)) Q := fun _ s _ _ _ i => eq_str ⟨g, l, i, Same.refl s, h⟩
theorem R_isNone {v : Value} {Q : Value → Gh → Lm → Prop} (h : Q (.bool (v == .none)) g l) : R W n env g l (compareOp .Is v .none) Q := fun _ s _ _ _ i => is_none ⟨g, l, i, Same.refl s, h⟩
theorem R_trB {b : Bool} {Q : Bool → Gh → Lm → Prop} (h : Q b g l) : R W n env g l (truthy (.bool b)) Q := fun _ s _ _ _ i => wpAny_truthy_bool ⟨g, l, i, Same.refl s, h⟩
theorem R_trI {a : Int} {t : Tok} {Q : Bool → Gh → Lm → Prop} (h : Q (a != 0) g l) : R W n env g l (truthy (.int a t)) Q := fun _ s _ _ _ i => truthy_int ⟨g, l, i, Same.refl s, h⟩
theorem R_not {v : Value} {Q : Value → Gh → Lm → Prop} (h : R W n env g l (truthy v) fun b => Q (.bool (!b))) : R W n env g l (unaryOp .Not v) Q := fun A s E fr ok i => not_value (h A s E fr ok i)

theorem R_expr {e : Expr} {pos : Pos} {Q : Flow → Gh → Lm → Prop} (hi : interactive env = false) (hs : swapsWith e none pos.line env = pure false) (h : R W n env g l (eval e env) fun v g' l' => v = .none ∧ Q .next g' l') : R W n env g l (exec (.Expr e pos) env) Q :=
  fun A s E fr ok i => wpAny_Expr (h.next ok i fun v _ _ _ i e q => by rw [q.1]; exact ⟨_, _, i, e, q.2⟩) hi hs

theorem R_attr {value : Expr} {attr : Str} {pos : Pos} {Q : Value → Gh → Lm → Prop}
    (he : eval (.Attribute value attr pos) env = do { let o ← eval value env; standAt pos.atName; let r ← holding [o] (getAttr o attr true); letTemporaryGo value o r; pure r })
    (h : R W n env g l (eval value env) fun o g' l' => R W n env g' l' (getAttr o attr true) Q) : R W n env g l (eval (.Attribute value attr pos) env) Q :=
  fun A s E fr ok i => Attribute_any_ (h.next ok i fun _ _ _ _ i e q => q.go ok i e) he
theorem R_subs {value slice : Expr} {pos : Pos} {Q : Value → Gh → Lm → Prop}
    (h : R W n env g l (eval value env) fun o g' l' => R W n env g' l' (eval slice env) fun k g' l' => R W n env g' l' (subscriptTail value slice o k) Q) : R W n env g l (eval (.Subscript value slice pos) env) Q :=
  fun A s E fr ok i => Subscript_ (h.next ok i fun _ _ _ _ i e q => q.next ok i fun _ _ _ _ i e' q => q.go ok i (e.trans e'))
theorem R_assignAttr {o value : Expr} {attr : Str} {pos' pos : Pos} {Q : Flow → Gh → Lm → Prop} (hs : swapsWith value (some (.Attribute o attr pos')) pos.line env = pure false)
    (h : R W n env g l (eval value env) fun v g' l' => R W n env g' l' (eval o env) fun ov g' l' => R W n env g' l' (setAttr ov attr v) fun _ => Q .next) : R W n env g l (exec (.Assign [.Attribute o attr pos'] value pos) env) Q :=
  fun A s E fr ok i => plainObj_wpAny_Assign_Attribute (h.next ok i fun _ _ _ _ i e q => q.next ok i fun _ _ _ _ i e' q => q.go ok i (e.trans e')) hs
theorem R_assignSub {o k value : Expr} {pos' pos : Pos} {Q : Flow → Gh → Lm → Prop} (hs : swapsWith value (some (.Subscript o k pos')) pos.line env = pure false)
    (h : R W n env g l (eval value env) fun v g' l' => R W n env g' l' (eval o env) fun ov g' l' => R W n env g' l' (eval k env) fun kv g' l' => R W n env g' l' (setItem ov kv v) fun _ => Q .next) : R W n env g l (exec (.Assign [.Subscript o k pos'] value pos) env) Q :=
  fun A s E fr ok i => wpAny_Assign_Subscript (h.next ok i fun _ _ _ _ i e q => q.next ok i fun _ _ _ _ i e' q => q.next ok i fun _ _ _ _ i e'' q => q.go ok i ((e.trans e').trans e'')) hs

theorem R_call {f : Expr} {args : List Expr} {pos : Pos} {Q : Value → Gh → Lm → Prop} (hf : ∀ o a p, f ≠ .Attribute o a p)
    (h : R W n env g l (eval f env) fun v g' l' => R W n env g' l' (callWith pos v [] (backTo pos (starEach args env)) []) Q) : R W n env g l (eval (.Call f args [] pos) env) Q := by
  have he : eval (.Call f args [] pos) env = (do callWith pos (← eval f env) [] (backTo pos (starEach args env)) []) := by
    cases f <;> first | rfl | exact absurd rfl (hf _ _ _)
  intro A s E fr ok i
  rw [he]
  exact wpAny_bind (h.next ok i fun _ _ _ _ i e q => q.go ok i e)
theorem R_callArgs {f : Value} {first : List Value} {e : Expr} {rest : List Expr} {pos : Pos} {Q : Value → Gh → Lm → Prop} (hk : keepIn (KK W.w.params) f = true)
    (he : starEach (e :: rest) env = (false, eval e env) :: starEach rest env) (hplain : (backTo pos (starEach rest env)).any (·.1) = false)
    (h : R W n env g l (spliced (backTo pos (starEach (e :: rest) env))) fun vs g' l' => R W n env g' l' (call f (first ++ vs)) Q) : R W n env g l (callWith pos f first (backTo pos (starEach (e :: rest) env)) []) Q :=
  fun A s E fr ok i => callWith_K W.X hk (h.next ok i fun _ _ _ _ i e q => ⟨W.X.keeps fun b o x => i.sub b o (i.base b o x), q.go ok i e⟩) he hplain
theorem R_callArgs0 {f : Value} {first : List Value} {pos : Pos} {Q : Value → Gh → Lm → Prop} (hk : keepIn (KK W.w.params) f = true)
    (h : R W n env g l (call f (first ++ [])) Q) : R W n env g l (callWith pos f first (backTo pos (starEach [] env)) []) Q :=
  fun A s E fr ok i => callWith_K0 (W.X.keeps fun b o x => i.sub b o (i.base b o x)) hk (h A s E fr ok i)
theorem R_meth {o : Expr} {name : Str} {apos pos : Pos} {args : List Expr} {pl : Sem Bool} {Q : Value → Gh → Lm → Prop}
    (he : eval (.Call (.Attribute o name apos) args [] pos) env = do { let ov ← eval o env; standAt apos.atName; let (f, first) ← holding [ov] (getMethod ov name pl); callWith pos f first (backTo pos (starEach args env)) (backToKw pos (keywordEach [] env)) })
    (h : R W n env g l (eval o env) fun ov g' l' => R W n env g' l' (getMethod ov name pl) fun fx g' l' => R W n env g' l' (callWith pos fx.1 fx.2 (backTo pos (starEach args env)) []) Q) : R W n env g l (eval (.Call (.Attribute o name apos) args [] pos) env) Q :=
  fun A s E fr ok i => methodCall_KW (h.next ok i fun _ _ _ _ i e q => q.next ok i fun _ _ _ _ i e' q => q.go ok i (e.trans e')) he
end
end

section
section
variable {α β : Type} {KK : Params → Frag} {W : Wd KK} {n : Nat} {env : Env} {g : Gh} {l : Lm}

theorem lts {h : Heap} {a : Nat} {o : Obj} (e : h.get? a = some o) : @LT.lt Nat _ a h.objs.size := Heap.lt_size e
theorem les {a b : Nat} (e : a ≤ b) : @LE.le Nat _ a b := e

def retOf : Flow → Value
  | .ret v => v
  | _ => .none

theorem Ok.deeper {A : Around} (ok : Ok A (n + 1)) (e : Env) : Ok (A.deeper e) n := ⟨ok.hh, by have := ok.depth; show A.depth + 1 + n < 500; omega, by have := ok.units; show A.units + 3 + 8 * n < 8000; omega⟩
theorem Ok.room {A : Around} (ok : Ok A n) : A.depth < recursionLimit := by have := ok.depth; show A.depth < 1000; omega
theorem Ok.cRoom {A : Around} (ok : Ok A n) : A.units < cLine := by have := ok.units; show A.units < 9900; omega

theorem In.enter {fr : Gh} {L L' : Addr} {h h₁ : Heap} {m' : Str → Option Value} {l' : Lm} (i : In W fr g L l h) (hk : ∀ b o, h.get? b = some o → h₁.get? b = some o) (hn : h₁.Ns L' m') (hm : ∀ x v, l'.lookup x = some v → m' x = some v) (hL : h.objs.size ≤ L') :
    ∃ oL, h.get? L = some oL ∧ In W (up fr L oL) g L' l' h₁ := by
  obtain ⟨m, hns, hml⟩ := i.ns
  obtain ⟨oL, es, ep, hoL, r⟩ := hns
  replace hL := les hL
  have ne : L' ≠ L := fun q => by have := lts hoL; rw [← q] at this; omega
  have none' : ∀ b, h.get? b = none → L' = b → True := fun _ _ _ => trivial
  have off' : g L' = none := by
    cases e : g L' with
    | none => rfl
    | some o => have := lts (i.sub _ _ e); omega
  have foff' : fr L' = none := by
    cases e : fr L' with
    | none => rfl
    | some o => have := lts (i.fsub _ _ e); omega
  refine ⟨oL, hoL, ?_⟩
  exact {
    sub := fun b o e => hk b o (i.sub b o e)
    fsub := fun b o e => by
      by_cases q : b = L
      · subst q; rw [up_same] at e; cases e; exact hk _ _ hoL
      · rw [up_ne q] at e; exact hk b o (i.fsub b o e)
    apart := fun b o e => by
      by_cases q : b = L
      · subst q; exact i.off
      · rw [up_ne q] at e; exact i.apart b o e
    base := i.base
    off := off'
    foff := by rw [up_ne ne]; exact foff'
    above := by have := les i.above; have := lts hoL; exact (by omega : @LE.le Nat _ W.B.objs.size L')
    ns := ⟨m', hn, hm⟩ }

theorem In.leave {fr g' : Gh} {L L' : Addr} {h h₂ : Heap} {oL : Obj} {l' : Lm} (i : In W fr g L l h) (hoL : h.get? L = some oL) (i' : In W (up fr L oL) g' L' l' h₂) : In W fr g' L l h₂ := by
  obtain ⟨m, hns, hml⟩ := i.ns
  obtain ⟨o, es, ep, ho, r⟩ := hns
  have hL2 : h₂.get? L = some oL := i'.fsub L oL up_same
  rw [hoL] at ho
  cases ho
  exact {
    sub := i'.sub
    fsub := fun b x e => i'.fsub b x (by rw [up_ne fun q => by rw [q, i.foff] at e; cases e]; exact e)
    apart := fun b x e => i'.apart b x (by rw [up_ne fun q => by rw [q, i.foff] at e; cases e]; exact e)
    base := i'.base
    off := i'.apart L oL up_same
    foff := i.foff
    above := i.above
    ns := ⟨m, ⟨oL, es, ep, hL2, r⟩, hml⟩ }

def RC (W : Wd KK) (n : Nat) (L : Addr) (l : Lm) (g : Gh) (c : Code) (Q : Value → Gh → Prop) : Prop :=
  ∀ (A : Around) (s : Shared) (fr : Gh), Ok A n → In W fr g L l s.heap →
    codeAny (model W.prog W.w) A c (fun r s' => ∃ v g', r = .ok (.ret v) ∧ In W fr g' L l s'.heap ∧ Same s s' ∧ Q v g') s

theorem R_ofRC {f : Value} {args : List Value} {Q : Value → Gh → Lm → Prop} (h : RC W n env.locals l g (.call f ⟨args, []⟩) fun v g' => Q v g' l) : R W n env g l (call f args) Q :=
  fun A s E fr ok i => wpAny_call (codeAny_mono (h A s fr ok i) fun r s' ⟨v, g', hr, i', e, q⟩ => by subst hr; exact ⟨g', l, i', e, q⟩)

section
variable {L : Addr} {name qual : Str} {params : Arguments} {body : List Stmt} {scope : Scope} {dV kV doc pm cdv ct oc : Value} {an od : Option Addr} {osl : Array (Option Value)} {f : Addr} {args : List Value} {binds : List (Str × Value)} {Q : Value → Gh → Prop}
theorem RC_def (ho : (KK W.w.params).lookup f = some ⟨oc, od, .func (fnOf name qual params body scope dV kV doc pm an cdv ct), osl⟩) (hcd : codeIn (KK W.w.params) cdv qual = true)
    (hbind : ∀ s : Shared, (KK W.w.params).In s.heap → BindsTo s (fnOf name qual params body scope dV kV doc pm an cdv ct) ⟨args, []⟩ binds)
    (hloc : (binds.all fun x => decide (scope.names.lookup x.1 = some .local)) = true) (hcell : (scope.names.all fun x => decide (x.2 ≠ .cell)) = true)
    (hco : scope.isCoroutine = false) (hgen : scope.isGenerator = false) (hk : scope.kind = .function)
    (h : ∀ L', R W n (envX qual scope L' f cdv []) g binds.reverse (execs body (envX qual scope L' f cdv [])) fun fl g' _ => Q (retOf fl) g') :
    RC W (n + 1) L l g (.call (.ref f) ⟨args, []⟩) Q := by
  intro A s fr ok i
  have X : (KK W.w.params).In s.heap := W.X.keeps fun b o e => i.sub b o (i.base b o e)
  refine codeAny_call_def (fd := fnOf name qual params body scope dV kV doc pm an cdv ct) (body := body) (binds := binds) ok.room (X _ _ ho) rfl (W.nolimit.keeps fun b o e => i.sub b o (i.base b o e)) (codeRec_of X hcd) rfl (hbind s X)
    (fun x hx => of_decide_eq_true (List.all_eq_true.mp hcell x hx)) (fun x hx => of_decide_eq_true (List.all_eq_true.mp hloc x hx)) (fun h₁ hns hk₁ => ?_) hco hgen hk
  obtain ⟨oL, hoL, i₁⟩ := i.enter hk₁ hns (fun _ _ e => e) (Nat.le_refl _)
  exact (h s.heap.objs.size).next (ok.deeper _) i₁ fun fl s' g' l' i' e q => ⟨retOf fl, g', by cases fl <;> rfl, i.leave hoL i', (Same.mk' s _ _).trans e, q⟩

theorem callsOk_cells {names : List (Str × NameKind)} (e : ((cellsFrom 0 names []).map (·.1)).Nodup) (k : Nat) : ((cellsFrom k names []).map (·.1)).Nodup := (cellsFrom_names names 0 k [] [] rfl) ▸ e

def CellsIn (W : Wd KK) (cm : Str → Option Value) (g g' : Gh) : List (Str × Addr) → Prop
  | [] => True
  | (x, c) :: r => (g c = none ∧ W.B.get? c = none ∧ (∃ o, g' c = some o ∧ o.data = .cell (cm x))) ∧ CellsIn W cm g g' r

theorem CellsIn.of {cm : Str → Option Value} {g g' : Gh} : ∀ {cs : List (Str × Addr)}, (∀ x c, (x, c) ∈ cs → g c = none ∧ W.B.get? c = none ∧ ∃ o, g' c = some o ∧ o.data = .cell (cm x)) → CellsIn W cm g g' cs
  | [], _ => trivial
  | (x, c) :: _, h => ⟨h x c (.head _), CellsIn.of fun x' c' hm => h x' c' (.tail _ hm)⟩

theorem RC_defC (l' : Lm) (ho : (KK W.w.params).lookup f = some ⟨oc, od, .func (fnOf name qual params body scope dV kV doc pm an cdv ct), osl⟩) (hcd : codeIn (KK W.w.params) cdv qual = true)
    (hbind : ∀ s : Shared, (KK W.w.params).In s.heap → BindsTo s (fnOf name qual params body scope dV kV doc pm an cdv ct) ⟨args, []⟩ binds)
    (hkind : (binds.all fun y => scope.names.lookup y.1 == some .local || scope.names.lookup y.1 == some .cell) = true)
    (hnd : ((cellsFrom 0 scope.names []).map (·.1)).Nodup)
    (hco : scope.isCoroutine = false) (hgen : scope.isGenerator = false) (hk : scope.kind = .function)
    (hl : ∀ L', ∀ p ∈ l', bindL (envOfC qual scope L' f cdv).kindOf binds (fun _ => none) p.1 = some p.2)
    (h : ∀ L' g', (∀ b o, g b = some o → g' b = some o) → CellsIn W (bindC (envOfC qual scope L' f cdv).kindOf binds fun _ => none) g g' (cellsFrom (L' + 1) scope.names []) →
      R W n (envOfC qual scope L' f cdv) g' l' (execs body (envOfC qual scope L' f cdv)) fun fl g'' _ => Q (retOf fl) g'') :
    RC W (n + 1) L l g (.call (.ref f) ⟨args, []⟩) Q := by
  intro A s fr ok i
  have X : (KK W.w.params).In s.heap := W.X.keeps fun b o e => i.sub b o (i.base b o e)
  refine codeAny_call_function (fd := fnOf name qual params body scope dV kV doc pm an cdv ct) ok.room (X _ _ ho) rfl hco hgen rfl (codeRec_of X hcd) (hbind s X _ _ _ _ ?_)
  refine wpAny_newFunctionEnv_cells hk (kindsX hkind _) fun env' he s' x => ?_
  subst he
  refine ⟨(W.nolimit.keeps fun b o e => i.sub b o (i.base b o e)).keeps x.toInCall.keep, codeAny_func ?_⟩
  obtain ⟨h₁, tk, rfl, _⟩ := x.done
  have hk₁ := x.toInCall.keep
  have facts : ∀ y c, (y, c) ∈ cellsFrom (s.heap.objs.size + 1) scope.names [] → h₁.IsCell c (bindC (envOfC qual scope s.heap.objs.size f cdv).kindOf binds (fun _ => none) y) ∧ s.heap.objs.size < c := fun y c hm =>
    ⟨x.cell y c (lookup_of_mem_nodup (callsOk_cells hnd _) hm), x.above y c hm⟩
  have hlm : ∀ y v, l'.lookup y = some v → bindL (envOfC qual scope s.heap.objs.size f cdv).kindOf binds (fun _ => none) y = some v := by
    intro y v e
    have : (y, v) ∈ l' := by
      clear hl h
      induction l' with
      | nil => cases e
      | cons p r ih =>
        rw [List.lookup_cons] at e
        by_cases q : y = p.1
        · subst q; simp at e; subst e; exact .head _
        · rw [beq_false_of_ne q] at e; exact .tail _ (ih e)
    exact hl _ _ this
  obtain ⟨oL, hoL, i₁⟩ := i.enter (h₁ := h₁) hk₁ x.toInCall.ns hlm (Nat.le_refl _)
  -- the cells beside
  let cs := cellsFrom (s.heap.objs.size + 1) scope.names []
  let g' : Gh := fun b => if b ∈ cs.map (·.2) then h₁.get? b else g b
  have gnone : ∀ b, s.heap.objs.size < b → g b = none := fun b hb => by
    cases e : g b with
    | none => rfl
    | some o => exact absurd (Nat.lt_trans (Heap.lt_size (i.sub _ _ e)) hb) (Nat.lt_irrefl _)
  have fnone : ∀ b, s.heap.objs.size < b → up fr L oL b = none := fun b hb => by
    cases e : up fr L oL b with
    | none => rfl
    | some o =>
      exfalso
      by_cases q : b = L
      · subst q; exact absurd (Nat.lt_trans (Heap.lt_size hoL) hb) (Nat.lt_irrefl _)
      · rw [up_ne q] at e; exact absurd (Nat.lt_trans (Heap.lt_size (i.fsub _ _ e)) hb) (Nat.lt_irrefl _)
  have isIn : ∀ b, b ∈ cs.map (·.2) → s.heap.objs.size < b := fun b hb => by
    obtain ⟨p, hp, rfl⟩ := List.mem_map.mp hb
    exact (facts p.1 p.2 hp).2
  have old : ∀ b o, g b = some o → g' b = some o := fun b o e => by
    show (if b ∈ cs.map (·.2) then h₁.get? b else g b) = some o
    split
    · exact hk₁ b o (i.sub b o e)
    · exact e
  have i₂ : In W (up fr L oL) g' s.heap.objs.size l' h₁ := {
    sub := fun b o e => by
      by_cases q : b ∈ cs.map (·.2)
      · simpa only [g', if_pos q] using e
      · simp only [g', if_neg q] at e; exact i₁.sub b o e
    fsub := i₁.fsub
    apart := fun b o e => by
      by_cases q : b ∈ cs.map (·.2)
      · rw [fnone b (isIn b q)] at e; cases e
      · show (if b ∈ cs.map (·.2) then h₁.get? b else g b) = none
        rw [if_neg q]; exact i₁.apart b o e
    base := fun b o e => old b o (i₁.base b o e)
    off := by
      show (if s.heap.objs.size ∈ cs.map (·.2) then h₁.get? s.heap.objs.size else g s.heap.objs.size) = none
      rw [if_neg fun q => absurd (isIn _ q) (Nat.lt_irrefl _)]; exact i₁.off
    foff := i₁.foff
    above := i₁.above
    ns := i₁.ns }
  refine (h s.heap.objs.size g' old (CellsIn.of fun y c hm => ?_)).next (ok.deeper _) i₂ fun fl s' g'' l'' i' e q => ⟨retOf fl, g'', by cases fl <;> rfl, i.leave hoL i', (Same.mk' s _ _).trans e, q⟩
  obtain ⟨⟨o, ho', hd⟩, hlt⟩ := facts y c hm
  have hin : c ∈ cs.map (·.2) := List.mem_map.mpr ⟨(y, c), hm, rfl⟩
  refine ⟨gnone c hlt, ?_, o, by show (if c ∈ cs.map (·.2) then h₁.get? c else g c) = some o; rw [if_pos hin]; exact ho', hd⟩
  cases e : W.B.get? c with
  | none => rfl
  | some o' => have := i.base c o' e; rw [gnone c hlt] at this; cases this
end
end
end

section
section
variable {α β : Type} {KK : Params → Frag} {W : Wd KK} {n : Nat} {env : Env} {g : Gh} {l : Lm}

def led (B h : Heap) (L : Addr) : List (Addr × Obj) := (List.range h.objs.size).filterMap fun b => if b = L then none else match B.get? b with
  | some _ => none
  | none => (h.get? b).map fun o => (b, o)
theorem mem_led {B h : Heap} {L b : Addr} {o : Obj} : (b, o) ∈ led B h L ↔ b ≠ L ∧ B.get? b = none ∧ h.get? b = some o := by
  unfold led
  rw [List.mem_filterMap]
  constructor
  · rintro ⟨c, _, hc⟩
    by_cases q : c = L
    · rw [if_pos q] at hc; cases hc
    · rw [if_neg q] at hc
      cases e : B.get? c with
      | some x => rw [e] at hc; cases hc
      | none =>
        rw [e] at hc
        simp only [Option.map_eq_some_iff] at hc
        obtain ⟨o', ho, hp⟩ := hc
        cases hp
        exact ⟨q, e, ho⟩
  · rintro ⟨h1, h2, h3⟩
    refine ⟨b, List.mem_range.mpr (Heap.lt_size h3), ?_⟩
    rw [if_neg h1, h2, h3]; rfl
theorem led_nodup {B h : Heap} {L : Addr} : ((led B h L).map (·.1)).Nodup := by
  have : ∀ (r : List Nat), r.Nodup → ((r.filterMap fun b => if b = L then none else match B.get? b with | some _ => none | none => (h.get? b).map fun o => (b, o)).map (·.1)).Nodup ∧
      ∀ p ∈ (r.filterMap fun b => if b = L then none else match B.get? b with | some _ => none | none => (h.get? b).map fun o => (b, o)), p.1 ∈ r := by
    intro r
    induction r with
    | nil => intro _; exact ⟨List.nodup_nil, fun _ h => by cases h⟩
    | cons c r ih =>
      intro hn
      obtain ⟨h1, h2⟩ := List.nodup_cons.mp hn
      obtain ⟨i1, i2⟩ := ih h2
      rw [List.filterMap_cons]
      split
      · exact ⟨i1, fun p hp => .tail _ (i2 p hp)⟩
      · rename_i p e
        have hp1 : p.1 = c := by
          split at e
          · cases e
          · split at e
            · cases e
            · simp only [Option.map_eq_some_iff] at e
              obtain ⟨_, _, e⟩ := e
              rw [← e]
        refine ⟨?_, fun q hq => ?_⟩
        · rw [List.map_cons, List.nodup_cons]
          refine ⟨fun hm => ?_, i1⟩
          obtain ⟨q, hq, e⟩ := List.mem_map.mp hm
          have := i2 q hq
          rw [e, hp1] at this
          exact h1 this
        · rcases List.mem_cons.mp hq with rfl | hq
          · rw [hp1]; exact .head _
          · exact .tail _ (i2 q hq)
  exact (this _ List.nodup_range).1
theorem upd_split {d : Addr} {o o' : Obj} : ∀ {ls : List (Addr × Obj)}, (ls.map (·.1)).Nodup → (d, o) ∈ ls → ∃ ls', Upd d o o' ls ls' ∧ (d, o') ∈ ls' ∧ ∀ p ∈ ls, p.1 ≠ d → p ∈ ls'
  | [], _, h => by cases h
  | p :: r, hn, h => by
    obtain ⟨h1, h2⟩ := List.nodup_cons.mp hn
    rcases List.mem_cons.mp h with rfl | h
    · exact ⟨(d, o') :: r, .head fun q hq e => h1 (List.mem_map.mpr ⟨q, hq, e⟩), .head _, fun q hq e => by
        rcases List.mem_cons.mp hq with rfl | hq
        · exact absurd rfl e
        · exact .tail _ hq⟩
    · obtain ⟨ls', u, m, k⟩ := upd_split h2 h
      exact ⟨p :: ls', .tail (fun e => h1 (by rw [List.mem_map]; exact ⟨_, h, e.symm⟩)) u, .tail _ m, fun q hq e => by
        rcases List.mem_cons.mp hq with rfl | hq
        · exact .head _
        · exact .tail _ (k q hq e)⟩

theorem In.fr' {fr : Gh} {L : Addr} {h : Heap} (i : In W fr g L l h) : ∃ m, Fr W.B L h m ∧ ∀ x v, l.lookup x = some v → m x = some v :=
  let ⟨m, hn, hm⟩ := i.ns
  ⟨m, ⟨hn, fun b o e => i.sub b o (i.base b o e), i.above⟩, hm⟩
theorem In.news {fr : Gh} {L : Addr} {h : Heap} (_ : In W fr g L l h) : News W.B L h (led W.B h L) := fun p hp =>
  let ⟨a, b, c⟩ := mem_led.mp hp
  ⟨c, a, b⟩
theorem In.inLed {fr : Gh} {L b : Addr} {h : Heap} {o : Obj} (i : In W fr g L l h) (hb : g b = some o) (hB : W.B.get? b = none) : (b, o) ∈ led W.B h L :=
  mem_led.mpr ⟨(fun q => by rw [q, i.off] at hb; cases hb), hB, i.sub b o hb⟩
theorem In.frB {fr : Gh} {L b : Addr} {h : Heap} {o : Obj} (i : In W fr g L l h) (hb : fr b = some o) : W.B.get? b = none := by
  cases e : W.B.get? b with
  | none => rfl
  | some x => have := i.base b x e; rw [i.apart b o hb] at this; cases this
theorem In.frLed {fr : Gh} {L b : Addr} {h : Heap} {o : Obj} (i : In W fr g L l h) (hb : fr b = some o) : (b, o) ∈ led W.B h L :=
  mem_led.mpr ⟨(fun q => by rw [q, i.foff] at hb; cases hb), i.frB hb, i.fsub b o hb⟩

theorem In.kept {fr : Gh} {L : Addr} {h h' : Heap} {m : Str → Option Value} {ls : List (Addr × Obj)} (i : In W fr g L l h) (hm : ∀ x v, l.lookup x = some v → m x = some v) (F : Fr W.B L h' m) (N : News W.B L h' ls) (hs : ∀ p ∈ led W.B h L, p ∈ ls) : In W fr g L l h' where
  sub b o e := by
    cases q : W.B.get? b with
    | some x => have := i.base b x q; rw [e] at this; cases this; exact F.keep _ _ q
    | none => exact (N _ (hs _ (i.inLed e q))).1
  fsub b o e := (N _ (hs _ (i.frLed e))).1
  apart := i.apart
  base := i.base
  off := i.off
  foff := i.foff
  above := i.above
  ns := ⟨m, F.ns, hm⟩

theorem In.changed {fr : Gh} {L a : Addr} {h h' : Heap} {m : Str → Option Value} {ls : List (Addr × Obj)} {o o' : Obj} (i : In W fr g L l h) (ha : g a = some o) (hB : W.B.get? a = none) (hm : ∀ x v, l.lookup x = some v → m x = some v)
    (F : Fr W.B L h' m) (N : News W.B L h' ls) (h2 : (a, o') ∈ ls) (hs : ∀ p ∈ led W.B h L, p.1 ≠ a → p ∈ ls) : In W fr (up g a o') L l h' := by
  have hL : L ≠ a := fun q => by rw [← q, i.off] at ha; cases ha
  exact {
    sub := fun b x e => by
      by_cases q : b = a
      · subst q; rw [up_same] at e; cases e; exact (N _ h2).1
      · rw [up_ne q] at e
        cases z : W.B.get? b with
        | some y => have := i.base b y z; rw [e] at this; cases this; exact F.keep _ _ z
        | none => exact (N _ (hs _ (i.inLed e z) q)).1
    fsub := fun b x e => (N _ (hs _ (i.frLed e) fun q => by have := i.apart b x e; rw [show b = a from q, ha] at this; cases this)).1
    apart := fun b x e => by
      rw [up_ne fun q => by have := i.apart b x e; rw [q, ha] at this; cases this]; exact i.apart b x e
    base := fun b x e => by rw [up_ne fun q => by rw [q, hB] at e; cases e]; exact i.base b x e
    off := by rw [up_ne hL]; exact i.off
    foff := i.foff
    above := i.above
    ns := ⟨m, F.ns, hm⟩ }

def DSo (k : Nat) (m : Str → Option Value) (o : Obj) : Prop := ∃ es c, o = dictOf es c ∧ es.length ≤ k ∧ ∀ x, getL x es = some (m x)
def DS (g : Gh) (d : Addr) (k : Nat) (m : Str → Option Value) : Prop := ∃ o, g d = some o ∧ DSo k m o
def IS (g : Gh) (x C d : Addr) : Prop := g x = some (instObj C d)

theorem DSo.nil : DSo 0 (fun _ => none) (dictOf [] 0) := ⟨[], 0, rfl, Nat.le_refl _, fun _ => rfl⟩

theorem any_putL (name : Str) (hsh : Int) (t : Tok) (v : Value) : ∀ es : List DictEntry, es.any (·.refKey) = false → (putL name hsh (.str name t) v es).any (·.refKey) = false
  | [], _ => rfl
  | e :: r, h => by
    rw [List.any_cons, Bool.or_eq_false_iff] at h
    unfold putL
    split
    · rw [List.any_cons, Bool.or_eq_false_iff]; exact ⟨h.1, h.2⟩
    · rw [List.any_cons, Bool.or_eq_false_iff]; exact ⟨h.1, any_putL name hsh t v r h.2⟩
theorem isStr_same {k : Value} {x y : Str} (h : k.isStr x = true) (h' : k.isStr y = true) : x = y := by
  cases k <;> simp only [Value.isStr] at h h' <;> first | cases h | skip
  rename_i s t
  have h1 := beq_iff_eq.mp h
  have h2 := beq_iff_eq.mp h'
  rw [← h1, ← h2]
theorem find_putL (name : Str) (hsh : Int) (t : Tok) (v : Value) (x : Str) : ∀ es : List DictEntry, ((putL name hsh (.str name t) v es).find? (·.key.isStr x)).map (·.val) = if x = name then some v else (es.find? (·.key.isStr x)).map (·.val)
  | [] => by
    unfold putL
    by_cases q : x = name
    · subst q; simp [Value.isStr]
    · rw [if_neg q]
      have : (Value.str name t).isStr x = false := by
        cases e : (Value.str name t).isStr x with
        | false => rfl
        | true => exact absurd (beq_iff_eq.mp e).symm q
      simp [this]
  | e :: r => by
    have ih := find_putL name hsh t v x r
    unfold putL
    cases h : e.key.isStr name with
    | true =>
      simp only [if_true, List.find?_cons]
      by_cases q : x = name
      · subst q; rw [h]; simp
      · rw [if_neg q]
        have : e.key.isStr x = false := by
          cases z : e.key.isStr x with
          | false => rfl
          | true => exact absurd (isStr_same z h) q
        rw [this]
    | false =>
      simp only [Bool.false_eq_true, if_false, List.find?_cons]
      by_cases q : x = name
      · subst q; rw [h]; rw [ih]
      · cases z : e.key.isStr x with
        | true => simp [q]
        | false => rw [ih]
theorem len_putL (name : Str) (hsh : Int) (key v : Value) : ∀ es : List DictEntry, (putL name hsh key v es).length ≤ es.length + 1
  | [] => Nat.le_refl _
  | e :: r => by
    unfold putL
    split
    · exact Nat.le_succ _
    · exact Nat.succ_le_succ (len_putL name hsh key v r)
theorem len_putL' (name : Str) (hsh : Int) (key v : Value) : ∀ es : List DictEntry, (es.find? (·.key.isStr name)).isSome = true → (putL name hsh key v es).length = es.length
  | [], h => by cases h
  | e :: r, h => by
    unfold putL
    cases q : e.key.isStr name with
    | true => rfl
    | false =>
      rw [List.find?_cons, q] at h
      simp only [Bool.false_eq_true, if_false, List.length_cons]
      rw [len_putL' name hsh key v r h]
theorem getL_some {x : Str} {es : List DictEntry} {r : Option Value} (h : getL x es = some r) : r = (es.find? (·.key.isStr x)).map (·.val) := by
  unfold getL at h
  split at h
  · rename_i e he; rw [he]; cases h; rfl
  · rename_i he; rw [he]; split at h <;> cases h; rfl
theorem getL_of {x : Str} {es : List DictEntry} (h : es.any (·.refKey) = false) : getL x es = some ((es.find? (·.key.isStr x)).map (·.val)) := by
  unfold getL
  cases es.find? (·.key.isStr x) with
  | some e => rfl
  | none => simp [h]
theorem allGot {es : List DictEntry} (h : ∀ x, (getL x es).isSome = true) : es.any (·.refKey) = false := by
  -- a name that no key bears
  cases q : es.any (·.refKey) with
  | false => rfl
  | true =>
    exfalso
    have key : ∀ x, (es.find? (·.key.isStr x)).isSome = true := fun x => by
      have := h x
      unfold getL at this
      cases e : es.find? (·.key.isStr x) with
      | some _ => rfl
      | none => rw [e, q] at this; cases this
    -- infinitely many names, finitely many keys
    have far : ∃ x : Str, ∀ e ∈ es, e.key.isStr x = false := by
      have : ∃ N : Nat, ∀ e ∈ es, ∀ s t, e.key = .str s t → s.cps.size < N := by
        clear h q key
        induction es with
        | nil => exact ⟨0, fun _ h => by cases h⟩
        | cons e r ih =>
          obtain ⟨N, hN⟩ := ih
          cases hk : e.key with
          | str s t =>
            refine ⟨max N (s.cps.size + 1), fun e' he' s' t' hk' => ?_⟩
            rcases List.mem_cons.mp he' with rfl | he'
            · rw [hk] at hk'; cases hk'; omega
            · have := hN e' he' s' t' hk'; omega
          | _ => exact ⟨N, fun e' he' s' t' hk' => by
              rcases List.mem_cons.mp he' with rfl | he'
              · rw [hk] at hk'; cases hk'
              · exact hN e' he' s' t' hk'⟩
      obtain ⟨N, hN⟩ := this
      refine ⟨⟨Array.replicate N 0⟩, fun e he => ?_⟩
      cases z : e.key.isStr ⟨Array.replicate N 0⟩ with
      | false => rfl
      | true =>
        exfalso
        cases hk : e.key with
        | str s t =>
          rw [hk] at z
          have h1 : s = ⟨Array.replicate N 0⟩ := beq_iff_eq.mp z
          have := hN e he s t hk
          rw [h1] at this
          simp at this
        | _ => rw [hk] at z; cases z
    obtain ⟨x, hx⟩ := far
    have := key x
    rw [List.find?_eq_none.mpr fun e he => by rw [hx e he]; exact Bool.false_ne_true] at this
    cases this

theorem DSo.put {k : Nat} {m : Str → Option Value} {es : List DictEntry} {c' : Nat} {name : Str} {hsh : Int} {t : Tok} {v : Value} (hl : es.length ≤ k) (hg : ∀ x, getL x es = some (m x)) :
    DSo (if (m name).isSome then k else k + 1) (fun y => if y = name then some v else m y) (dictOf (putL name hsh (.str name t) v es) c') := by
  have ha := allGot (es := es) fun x => by rw [hg x]; rfl
  refine ⟨_, _, rfl, ?_, fun x => ?_⟩
  · split
    · rename_i h
      rw [len_putL' _ _ _ _ _ (by have := getL_some (hg name); rw [this, Option.isSome_map] at h; exact h)]; exact hl
    · exact Nat.le_trans (len_putL ..) (Nat.succ_le_succ hl)
  · rw [getL_of (any_putL name hsh t v es ha), find_putL]
    have := getL_some (hg x)
    rw [← this]

theorem instAt {fr : Gh} {L x C d : Addr} {h : Heap} {es : List DictEntry} {c : Nat} (i : In W fr g L l h) (hx : IS g x C d) (hd : g d = some (dictOf es c)) : _root_.PySem.W.InstAt h x (instObj C d) C (some (dictOf es c)) := ⟨i.sub _ _ hx, rfl, rfl, i.sub _ _ hd⟩

theorem R_getOwn {x C d : Addr} {k : Nat} {m : Str → Option Value} {name : Str} {v : Value} {attr : Option Value} {e : Bool} {Q : Value → Gh → Lm → Prop} (hx : IS g x C d) (hd : DS g d k m)
    (hg : plainGet (KK W.w.params) C name = true) (hh : hasDictIn (KK W.w.params) C = true) (ha : findIn (KK W.w.params) (.ref C) name = some attr) (hn : noGet (KK W.w.params) attr = true)
    (hv : m name = some v) (hi : handedIn v = true) (h : Q v g l) : R W n env g l (getAttr (.ref x) name e) Q := fun A s E fr ok i => by
  obtain ⟨o, ho, es, c, rfl, _, hes⟩ := hd
  obtain ⟨mm, F, _⟩ := i.fr'
  exact get_own F W.X (instAt i hx ho) hg hh ha hn (by rw [hes, hv]) hi ⟨g, l, i, Same.mk' s _ _, h⟩

theorem R_getMeth {x C d f : Addr} {k : Nat} {m : Str → Option Value} {name : Str} {pl : Sem Bool} {Q : Value × List Value → Gh → Lm → Prop} (hx : IS g x C d) (hd : DS g d k m)
    (hg : plainGet (KK W.w.params) C name = true) (hf : findIn (KK W.w.params) (.ref C) name = some (some (.ref f))) (ht : isFn (KK W.w.params) (.ref f) = true) (hv : m name = none)
    (h : Q (.ref f, [.ref x]) g l) : R W n env g l (getMethod (.ref x) name pl) Q := fun A s E fr ok i => by
  obtain ⟨o, ho, es, c, rfl, _, hes⟩ := hd
  obtain ⟨mm, F, _⟩ := i.fr'
  exact method_inst F W.X (instAt i hx ho) hg hf ht (by rw [hes, hv]) ⟨g, l, i, Same.refl s, h⟩

theorem R_setOwn {x C d : Addr} {k : Nat} {m : Str → Option Value} {name : Str} {v : Value} {Q : Unit → Gh → Lm → Prop} (hx : IS g x C d) (hd : DS g d k m) (hB : W.B.get? d = none) (hk : k ≤ 900)
    (hs : findIn (KK W.w.params) (.ref C) "__setattr__" = some (some (.builtin "object.__setattr__"))) (hp : plainOver (KK W.w.params) C = true) (ht : takerIn (KK W.w.params) C name = some none) (hh : hasDictIn (KK W.w.params) C = true)
    (h : ∀ o', DSo (if (m name).isSome then k else k + 1) (fun y => if y = name then some v else m y) o' → Q () (up g d o') l) : R W n env g l (setAttr (.ref x) name v) Q := fun A s E fr ok i => by
  obtain ⟨o, ho, es, c, rfl, hlen, hes⟩ := hd
  obtain ⟨mm, F, hm⟩ := i.fr'
  have hlen' := len_putL name (PyData.keyHash W.w.params name) (.str name (s.toks + 1)) v es
  obtain ⟨ls', U, hmem, hrest⟩ := upd_split (o' := dictOf (putL name (PyData.keyHash W.w.params name) (.str name (s.toks + 1)) v es) (putN name es c)) led_nodup (i.inLed ho hB)
  refine set_dict F W.X i.news (instAt i hx ho) rfl hs hp ht hh (by rw [hes]; rfl) rfl U (by omega) fun h' F' N' => ?_
  exact ⟨_, l, i.changed ho hB hm F' N' hmem hrest, Same.mk' s _ _, h _ (DSo.put hlen hes)⟩

theorem R_new {C fI : Addr} {args : List Value} {Q : Value → Gh → Lm → Prop} (hm : makesIn (KK W.w.params) C = true) (hi : findIn (KK W.w.params) (.ref C) "__init__" = some (some (.ref fI))) (hf : isFn (KK W.w.params) (.ref fI) = true)
    (h : ∀ x d, g x = none → g d = none → W.B.get? x = none → W.B.get? d = none → x ≠ d →
      RC W n env.locals l (up (up g d (dictOf [] 0)) x (instObj C d)) (.call (.ref fI) ⟨.ref x :: args, []⟩) fun v g' => v = .none ∧ Q (.ref x) g' l) : R W (n + 1) env g l (call (.ref C) args) Q := fun A s E fr ok i => by
  obtain ⟨mm, F, hml⟩ := i.fr'
  refine call_cls F W.X i.news hm hi hf fun x d h' F' N' hlt hdx => ?_
  have Nx := N' _ (.head _)
  have Nd := N' _ (.tail _ (.head _))
  have ok' : Ok (A.under (.builtin "type.__call__" ⟨.ref C :: args, []⟩)) n :=
    ⟨ok.hh, by have := ok.depth; show A.depth + 1 + n < 500; omega, by have := ok.units; show A.units + 1 + 8 * n < 8000; omega⟩
  have gx : g x = none := by
    cases e : g x with
    | none => rfl
    | some o => exact absurd (hlt _ (i.inLed e Nx.2.2)) (Nat.lt_asymm hdx)
  have gd : g d = none := by
    cases e : g d with
    | none => rfl
    | some o => exact absurd (hlt _ (i.inLed e Nd.2.2)) (Nat.lt_irrefl _)
  have fx : fr x = none := by
    cases e : fr x with
    | none => rfl
    | some o => exact absurd (hlt _ (i.frLed e)) (Nat.lt_asymm hdx)
  have fd : fr d = none := by
    cases e : fr d with
    | none => rfl
    | some o => exact absurd (hlt _ (i.frLed e)) (Nat.lt_irrefl _)
  have ne : x ≠ d := Nat.ne_of_gt hdx
  have i₁ : In W fr g env.locals l h' := i.kept hml F' N' fun p hp => .tail _ (.tail _ hp)
  have i₂ : In W fr (up (up g d (dictOf [] 0)) x (instObj C d)) env.locals l h' := {
    sub := fun b o e => by
      by_cases q : b = x
      · subst q; rw [up_same] at e; cases e; exact Nx.1
      · rw [up_ne q] at e
        by_cases q' : b = d
        · subst q'; rw [up_same] at e; cases e; exact Nd.1
        · rw [up_ne q'] at e; exact i₁.sub b o e
    fsub := i₁.fsub
    apart := fun b o e => by
      have n1 : b ≠ x := fun q => by rw [q, fx] at e; cases e
      have n2 : b ≠ d := fun q => by rw [q, fd] at e; cases e
      rw [up_ne n1, up_ne n2]; exact i₁.apart b o e
    base := fun b o e => up_old (by rw [up_ne ne]; exact gx) (up_old gd (i₁.base b o e))
    off := by rw [up_ne (Ne.symm Nx.2.1), up_ne (Ne.symm Nd.2.1)]; exact i₁.off
    foff := i₁.foff
    above := i₁.above
    ns := i₁.ns }
  refine codeAny_mono (h x d gx gd Nx.2.2 Nd.2.2 ne _ { s with heap := h' } fr ok' i₂) fun r s' ⟨v, g', hr, i', e, hv, q⟩ => ?_
  subst hr
  exact ⟨hv, g', l, i', (Same.mk' s h' s.toks).trans e, q⟩
end
section
variable {α β : Type} {KK : Params → Frag} {W : Wd KK} {n : Nat} {env : Env} {g : Gh} {l : Lm}
theorem up_up {d : Addr} {o o' : Obj} : up (up g d o) d o' = up g d o' := by
  funext b
  by_cases q : b = d
  · subst q; rw [up_same, up_same]
  · rw [up_ne q, up_ne q, up_ne q]
theorem R_setOwn2 {x C d : Addr} {k : Nat} {m : Str → Option Value} {o : Obj} {name : Str} {v : Value} {Q : Unit → Gh → Lm → Prop} (hd : DSo k m o) (hx : IS (up g d o) x C d) (hB : W.B.get? d = none) (hk : k ≤ 900)
    (hs : findIn (KK W.w.params) (.ref C) "__setattr__" = some (some (.builtin "object.__setattr__"))) (hp : plainOver (KK W.w.params) C = true) (ht : takerIn (KK W.w.params) C name = some none) (hh : hasDictIn (KK W.w.params) C = true)
    (h : ∀ o', DSo (if (m name).isSome then k else k + 1) (fun y => if y = name then some v else m y) o' → Q () (up g d o') l) : R W n env (up g d o) l (setAttr (.ref x) name v) Q :=
  R_setOwn hx ⟨o, up_same, hd⟩ hB hk hs hp ht hh fun o' ho => by rw [up_up]; exact h o' ho
theorem ne_get {a b : Addr} {o : Obj} (ha : g a = some o) (hb : g b = none) : a ≠ b := fun q => by rw [q, hb] at ha; cases ha
theorem ne_obj {a b : Addr} {o o' : Obj} (ha : g a = some o) (hb : g b = some o') (h : o ≠ o') : a ≠ b := fun q => by rw [q, hb] at ha; exact h (Option.some.inj ha).symm
theorem Then_next {rest : List Stmt} {Q : Flow → Gh → Lm → Prop} (h : R W n env g l (execs rest env) Q) : Then W n env rest Q .next g l := h
theorem Then_ret {rest : List Stmt} {Q : Flow → Gh → Lm → Prop} {v : Value} (h : Q (.ret v) g l) : Then W n env rest Q (.ret v) g l := h
end
end

section
section
variable {α β : Type} {KK : Params → Frag} {W : Wd KK} {n : Nat} {env : Env} {g : Gh} {l : Lm}

theorem In.drop {fr : Gh} {L a : Addr} {h : Heap} {o : Obj} (i : In W fr (up g a o) L l h) (ha : g a = none) (hB : W.B.get? a = none) : In W fr g L l h where
  sub b x e := i.sub b x (up_old ha e)
  fsub := i.fsub
  apart b x e := by
    have := i.apart b x e
    by_cases q : b = a
    · rw [q]; exact ha
    · rw [up_ne q] at this; exact this
  base b x e := by
    have := i.base b x e
    rw [up_ne fun q => by rw [q, hB] at e; cases e] at this; exact this
  off := by
    have := i.off
    by_cases q : L = a
    · rw [q]; exact ha
    · rw [up_ne q] at this; exact this
  foff := i.foff
  above := i.above
  ns := i.ns
theorem In.dropF {fr : Gh} {L a : Addr} {h : Heap} {o : Obj} (i : In W (up fr a o) g L l h) (ha : fr a = none) : In W fr g L l h where
  sub := i.sub
  fsub b x e := i.fsub b x (up_old ha e)
  apart b x e := i.apart b x (up_old ha e)
  base := i.base
  off := i.off
  foff := by
    have := i.foff
    by_cases q : L = a
    · rw [q]; exact ha
    · rw [up_ne q] at this; exact this
  above := i.above
  ns := i.ns
theorem In.step {fr : Gh} {L I : Addr} {h h' : Heap} {o : Obj} (i : In W fr g L l h) (gI : g I = none) (fI : fr I = none) (IL : I ≠ L) (hk : ∀ b o, b ≠ I → h.get? b = some o → h'.get? b = some o) (ho : h'.get? I = some o) : In W (up fr I o) g L l h' where
  sub b x e := hk b x (ne_get e gI) (i.sub b x e)
  fsub b x e := by
    by_cases q : b = I
    · subst q; rw [up_same] at e; cases e; exact ho
    · rw [up_ne q] at e; exact hk b x q (i.fsub b x e)
  apart b x e := by
    by_cases q : b = I
    · rw [q]; exact gI
    · rw [up_ne q] at e; exact i.apart b x e
  base := i.base
  off := i.off
  foff := by rw [up_ne (Ne.symm IL)]; exact i.foff
  above := i.above
  ns := let ⟨m, hn, hm⟩ := i.ns; ⟨m, hn.at' fun o e => hk L o (Ne.symm IL) e, hm⟩
theorem In.step0 {fr : Gh} {L I : Addr} {h h' : Heap} (i : In W fr g L l h) (gI : g I = none) (fI : fr I = none) (IL : I ≠ L) (hk : ∀ b o, b ≠ I → h.get? b = some o → h'.get? b = some o) : In W fr g L l h' where
  sub b x e := hk b x (ne_get e gI) (i.sub b x e)
  fsub b x e := hk b x (ne_get e fI) (i.fsub b x e)
  apart := i.apart
  base := i.base
  off := i.off
  foff := i.foff
  above := i.above
  ns := let ⟨m, hn, hm⟩ := i.ns; ⟨m, hn.at' fun o e => hk L o (Ne.symm IL) e, hm⟩

def Src (W : Wd KK) (n : Nat) (g : Gh) (v : Value) (N : Nat) (P : Nat → Value → Prop) (S : Addr → Prop) : Prop :=
  ∀ (A : Around) (s : Shared) (E : Value → Shared → Prop) (fr : Gh) (L : Addr) (l : Lm) (Q : Value → Shared → Prop), Ok A n → In W fr g L l s.heap →
    (∀ (I : Addr) (src : List Addr) (St : Nat → Heap → Prop) (h' : Heap) (tk : Nat), g I = none → W.B.get? I = none → fr I = none → I ≠ L → In W fr g L l h' →
      Walks W.prog W.w A I (I :: src) [I] N P St → (∀ b ∈ src, S b) → St 0 h' → (∀ i h, St i h → ∃ o, h.get? I = some o) →
      (∀ (target : Expr) (v : Value) (i : Nat) (s : Shared) (E : Value → Shared → Prop) (Q : Unit → Shared → Prop), St i s.heap → Q () s → wpAny (model W.prog W.w) A (letOwnedTupleGo target (.ref I) v) Q E s) →
      Q (.ref I) { s with heap := h', toks := tk }) → wpAny (model W.prog W.w) A (pyIter v) Q E s

theorem let_plain {M : Model} {A : Around} {E : Value → Shared → Prop} {s : Shared} {Q : Unit → Shared → Prop} {I : Addr} {o : Obj} {T : String} {vs : Array Value} (ho : s.heap.get? I = some o) (hc : o.cls = .type T) (hd : o.data = .fields vs)
    (hT : (["enumerate", "zip", "dict_itemiterator", "dict_reverseitemiterator", "odict_iterator", "itertools.zip_longest", "itertools.pairwise"] : List String).contains T = false) (target : Expr) (v : Value) (h : Q () s) : wpAny M A (letOwnedTupleGo target (.ref I) v) Q E s := by
  unfold letOwnedTupleGo
  split
  · split
    · rename_i e
      cases e
      refine wpAny_bind (wpAny_load ho ?_)
      rw [hc, hd]
      dsimp only
      rw [hT]
      simp only [Bool.false_and, Bool.false_eq_true, if_false]
      exact wpAny_pure h
    · exact wpAny_pure h
  · split
    · rename_i e
      cases e
      refine wpAny_bind (wpAny_load ho ?_)
      rw [hc, hd]
      dsimp only
      rw [hT]
      simp only [Bool.false_and, Bool.false_eq_true, if_false]
      exact wpAny_pure h
    · exact wpAny_pure h
  · exact wpAny_pure h

theorem Src.mkI {fr : Gh} {L : Addr} {h : Heap} {o : Obj} (i : In W fr g L l h) (hf : o.isFreed = false) :
    g h.objs.size = none ∧ W.B.get? h.objs.size = none ∧ fr h.objs.size = none ∧ h.objs.size ≠ L ∧ In W fr g L l (h.push o) := by
  obtain ⟨a, b, c, d⟩ := i.push hf
  refine ⟨a, b, ?_, c, d.drop a b⟩
  cases e : fr h.objs.size with
  | none => rfl
  | some x => exact absurd (Heap.lt_size (i.fsub _ _ e)) (Nat.lt_irrefl _)

theorem Src.list {a : Addr} {vs : List Value} (hl : LI g a vs) : Src W n g (.ref a) vs.length (fun i v => vs[i]? = some v) (fun b => b = a) := by
  obtain ⟨k, hl⟩ := hl
  intro A s E fr L l Q ok i K
  have hls : s.heap.IsList a vs.toArray := ⟨_, i.sub _ _ hl, rfl, k, rfl⟩
  refine wpAny_pyIter_list hls ?_
  obtain ⟨h1, h2, h3, h4, h5⟩ := Src.mkI i (o := { cls := .type "list_iterator", data := .fields #[.ref a, .int 0 0] }) rfl
  have hne : a ≠ s.heap.objs.size := ne_get hl h1
  have Wk := Walks.list (prog := W.prog) (w := W.w) ok.hh s.heap.objs.size a hne vs.toArray
  simp only [List.size_toArray] at Wk
  exact K s.heap.objs.size [a] (fun i h => h.IsListIter s.heap.objs.size a i ∧ h.IsList a vs.toArray) _ s.toks h1 h2 h3 h4 h5 (by simpa using Wk) (fun b hb => List.mem_singleton.mp hb)
    ⟨⟨_, Heap.get?_push_size _ rfl, rfl, rfl⟩, hls.at fun o e => Heap.get?_push_of_some _ e⟩ (fun j h st => let ⟨o, ho, _⟩ := st.1; ⟨o, ho⟩)
    (fun target v j s E Q st q => let ⟨o, ho, hc, hd⟩ := st.1; let_plain ho hc hd (by decide) target v q)

theorem Src.tuple {a : Addr} {vs : List Value} (hl : TU g a vs) : Src W n g (.ref a) vs.length (fun i v => vs[i]? = some v) (fun b => b = a) := by
  obtain ⟨k, hl⟩ := hl
  intro A s E fr L l Q ok i K
  have hls : s.heap.IsTuple a vs.toArray := ⟨_, i.sub _ _ hl, rfl, k, rfl⟩
  refine wpAny_pyIter_tuple hls ?_
  obtain ⟨h1, h2, h3, h4, h5⟩ := Src.mkI i (o := { cls := .type "tuple_iterator", data := .fields #[.ref a, .int 0 0] }) rfl
  have hne : a ≠ s.heap.objs.size := ne_get hl h1
  have Wk := Walks.tuple (prog := W.prog) (w := W.w) ok.hh s.heap.objs.size a hne vs.toArray
  simp only [List.size_toArray] at Wk
  exact K s.heap.objs.size [a] (fun i h => h.IsTupleIter s.heap.objs.size a i ∧ h.IsTuple a vs.toArray) _ s.toks h1 h2 h3 h4 h5 (by simpa using Wk) (fun b hb => List.mem_singleton.mp hb)
    ⟨⟨_, Heap.get?_push_size _ rfl, rfl, rfl⟩, let ⟨o, ho, r⟩ := hls; ⟨o, Heap.get?_push_of_some _ ho, r⟩⟩ (fun j h st => let ⟨o, ho, _⟩ := st.1; ⟨o, ho⟩)
    (fun target v j s E Q st q => let ⟨o, ho, hc, hd⟩ := st.1; let_plain ho hc hd (by decide) target v q)

def Turn (Q : Flow → Gh → Lm → Prop) (J : Gh → Lm → Prop) (f : Flow) (g : Gh) (l : Lm) : Prop := match f with
  | .next | .cont => J g l
  | .brk => Q .next g l
  | .ret v => Q (.ret v) g l

theorem R_for {target iter : Expr} {body : List Stmt} {pos : Pos} {Q : Flow → Gh → Lm → Prop} (hs : ∀ x, foldedSetIterable iter env x = pure x)
    (h : R W n env g l (eval iter env) fun v g₁ l₁ => ∃ N P S, Src W n g₁ v N P S ∧ (∀ b, S b → ∃ o, g₁ b = some o) ∧ ∃ Inv : Nat → Gh → Lm → Prop, Inv 0 g₁ l₁ ∧ (∀ i g' l', Inv i g' l' → ∀ b o, S b → g₁ b = some o → g' b = some o) ∧
      (∀ i v g' l', i < N → P i v → Inv i g' l' → R W n env g' l' (assign target env v) fun _ g' l' => R W n env g' l' (execs body env) (Turn Q (Inv (i + 1)))) ∧
      ∀ g' l', Inv N g' l' → Q .next g' l') : R W n env g l (exec (.For target iter body [] pos) env) Q := by
  intro A s E fr ok i
  refine wpAny_For (h.next ok i fun v s₁ g₁ l₁ i₁ e₁ q => ?_) hs
  obtain ⟨N, P, S, hsrc, hSg, Inv, h0, hfr, step, done⟩ := q
  refine hsrc A s₁ _ fr _ _ _ ok i₁ fun I src St h' tk gI BI fI IL i₂ Wk hS st0 live hlet => ?_
  obtain ⟨o₀, ho₀⟩ := live 0 h' st0
  refine codeAny_forLoop_any (fun k s' => ∃ j g' l' o, k = N - j ∧ j ≤ N ∧ Same s s' ∧ In W (up fr I o) g' env.locals l' s'.heap ∧ St j s'.heap ∧ Inv j g' l') ?_ N
    ⟨0, g₁, l₁, o₀, rfl, Nat.zero_le _, e₁.trans (Same.mk' s₁ h' tk), i₂.step gI fI IL (fun _ _ _ e => e) ho₀, st0, h0⟩
  rintro k s' ⟨j, g', l', o, rfl, hj, e, iI, st, inv⟩
  have gI' : g' I = none := iI.apart I o up_same
  have iF : In W fr g' env.locals l' s'.heap := iI.dropF fI
  by_cases hlt : j < N
  · refine Wk.item j s' _ _ hlt st fun v h₂ tk₂ hP st₂ hk₂ => ?_
    obtain ⟨o₂, ho₂⟩ := live _ _ st₂
    have i₃ : In W (up fr I o₂) g' env.locals l' h₂ := iF.step gI' fI IL (fun b o hb e => hk₂ b o (fun hm => hb (List.mem_singleton.mp hm)) e) ho₂
    refine hlet target v (j + 1) { s' with heap := h₂, toks := tk₂ } _ _ st₂ ?_
    refine (step j v g' l' hlt hP inv).next (s := { s' with heap := h₂, toks := tk₂ }) ok i₃ fun _ s₃ g₃ l₃ i₄ e₃ q => q.next ok i₄ fun f s₄ g₄ l₄ i₅ e₄ q => ?_
    have es : Same s s₄ := ((e.trans (Same.mk' s' h₂ tk₂)).trans e₃).trans e₄
    have on : Inv (j + 1) g₄ l₄ → ∃ m, m < N - j ∧ ∃ j' g' l' o, m = N - j' ∧ j' ≤ N ∧ Same s s₄ ∧ In W (up fr I o) g' env.locals l' s₄.heap ∧ St j' s₄.heap ∧ Inv j' g' l' := fun q => by
      refine ⟨N - (j + 1), by omega, j + 1, g₄, l₄, o₂, rfl, hlt, es, i₅, Wk.frame _ _ _ st₂ fun b hb x hx => ?_, q⟩
      rcases List.mem_cons.mp hb with rfl | hb
      · rw [ho₂] at hx; cases hx; exact i₅.fsub _ _ up_same
      · obtain ⟨ob, hob⟩ := hSg b (hS b hb)
        have e1 := i₃.sub b ob (hfr _ _ _ inv b ob (hS b hb) hob)
        rw [hx] at e1; cases e1
        exact i₅.sub b x (hfr _ _ _ q b x (hS b hb) hob)
    cases f with
    | next => exact on q
    | cont => exact on q
    | brk => exact ⟨g₄, l₄, i₅.dropF fI, es, q⟩
    | ret v => exact ⟨g₄, l₄, i₅.dropF fI, es, q⟩
  · have hN : j = N := by omega
    subst hN
    refine Wk.done _ _ _ st fun h₂ tk₂ hk₂ => wpAny_execs_nil ?_
    exact ⟨g', l', iF.step0 gI' fI IL fun b o hb e => hk₂ b o (fun hm => hb (List.mem_singleton.mp hm)) e, e.trans (Same.mk' s' h₂ tk₂), done g' l' inv⟩
theorem R_forJ {target iter : Expr} {body : List Stmt} {pos : Pos} {Q : Flow → Gh → Lm → Prop} (hs : ∀ x, foldedSetIterable iter env x = pure x)
    (h : R W n env g l (eval iter env) fun v g₁ l₁ => ∃ N P S, Src W n g₁ v N P S ∧ (∀ b, S b → ∃ o, g₁ b = some o) ∧ ∃ Inv : Nat → Gh → Lm → Prop, Inv 0 g₁ l₁ ∧ (∀ i g' l', Inv i g' l' → ∀ b o, S b → g₁ b = some o → g' b = some o) ∧
      (∀ (J : Gh → Lm → Prop) i v g' l', i < N → P i v → Inv i g' l' → (∀ g l, Inv (i + 1) g l → J g l) → R W n env g' l' (assign target env v) fun _ g' l' => R W n env g' l' (execs body env) (Turn Q J)) ∧
      ∀ g' l', Inv N g' l' → Q .next g' l') : R W n env g l (exec (.For target iter body [] pos) env) Q :=
  R_for hs (R_mono h fun _ _ _ ⟨N, P, S, a, b, Inv, c, d, e, f⟩ => ⟨N, P, S, a, b, Inv, c, d, fun i v g' l' hi hv inv => e (Inv (i + 1)) i v g' l' hi hv inv fun _ _ q => q, f⟩)
theorem R_monoJ {t : Sem α} {Q Q' : α → Gh → Lm → Prop} (h : ∀ J : α → Gh → Lm → Prop, (∀ v g' l', Q v g' l' → J v g' l') → R W n env g l t J) (k : ∀ v g' l', Q v g' l' → Q' v g' l') : R W n env g l t Q' := h Q' k
end
end

section
section
variable {α β : Type} {KK : Params → Frag} {W : Wd KK} {n : Nat} {env : Env} {g : Gh} {l : Lm}

theorem In.forget {fr : Gh} {L : Addr} {h : Heap} {l' : Lm} (i : In W fr g L l h) (hl : ∀ x v, l'.lookup x = some v → l.lookup x = some v) : In W fr g L l' h :=
  ⟨i.sub, i.fsub, i.apart, i.base, i.off, i.foff, i.above, let ⟨m, a, b⟩ := i.ns; ⟨m, a, fun x v e => b x v (hl x v e)⟩⟩
theorem In.bare {fr : Gh} {L : Addr} {h : Heap} (i : In W fr g L l h) : In W fr g L [] h := i.forget fun _ _ e => by cases e
theorem In.take {fr : Gh} {L D : Addr} {h : Heap} {o : Obj} (i : In W (up fr D o) g L l h) (fD : fr D = none) (hB : W.B.get? D = none) : In W fr (up g D o) L l h := by
  have gD : g D = none := i.apart D o up_same
  have DL : D ≠ L := fun q => by have := i.foff; rw [← q, up_same] at this; cases this
  exact {
    sub := fun b x e => by
      by_cases q : b = D
      · subst q; rw [up_same] at e; cases e; exact i.fsub _ _ up_same
      · rw [up_ne q] at e; exact i.sub b x e
    fsub := fun b x e => i.fsub b x (up_old fD e)
    apart := fun b x e => by rw [up_ne (ne_get e fD)]; exact i.apart b x (up_old fD e)
    base := fun b x e => up_old gD (i.base b x e)
    off := by rw [up_ne (Ne.symm DL)]; exact i.off
    foff := by have := i.foff; rw [up_ne (Ne.symm DL)] at this; exact this
    above := i.above
    ns := i.ns }
theorem In.give {fr : Gh} {L D : Addr} {h : Heap} {o : Obj} (i : In W fr (up g D o) L l h) (gD : g D = none) (hB : W.B.get? D = none) : In W (up fr D o) g L l h := by
  have fD : fr D = none := by
    cases e : fr D with
    | none => rfl
    | some x => have := i.apart D x e; rw [up_same] at this; cases this
  have DL : D ≠ L := fun q => by have := i.off; rw [← q, up_same] at this; cases this
  have j := i.drop gD hB
  exact j.step gD fD DL (fun _ _ _ e => e) (i.sub _ _ up_same)

def tests (ifs : List Expr) (cenv : Env) : Sem Bool := forIn ifs true fun c r => if r = true then do let ok ← isTrue c cenv (eval c cenv); pure (ForInStep.yield ok) else pure (ForInStep.yield r)
theorem R_tests0 {cenv : Env} {Q : Bool → Gh → Lm → Prop} (h : Q true g l) : R W n env g l (tests [] cenv) Q := by
  show R W n env g l (pure true) Q
  exact R_pure h
theorem R_tests1 {c : Expr} {Q : Bool → Gh → Lm → Prop} (h : R W n env g l (isTrue c env (eval c env)) Q) : R W n env g l (tests [c] env) Q := by
  unfold tests
  rw [List.forIn_cons]
  simp only [if_true]
  refine R_bind (R_bind (R_mono h fun ok g' l' q => R_pure ?_))
  show R W n env g' l' (pure ok) Q
  exact R_pure q

structure CompOk (W : Wd KK) (n : Nat) (env : Env) (scope : Scope) (cl : List (Str × Addr)) (x : Str) (ifs : List Expr) (elt : Expr) (g₁ : Gh) (N : Nat) (P : Nat → Value → Prop) (S : Addr → Prop) (Inv : Nat → List Value → Gh → Prop) : Prop where
  start : Inv 0 [] g₁
  src : ∀ b, S b → ∃ o, g₁ b = some o
  keep : ∀ i ys g', Inv i ys g' → ∀ b o, S b → g₁ b = some o → g' b = some o
  turn : ∀ C i v ys g', i < N → P i v → Inv i ys g' → R W n (compEnvC scope cl C env) g' [(x, v)] (tests ifs (compEnvC scope cl C env)) fun ok g' l' =>
    (ok = true → R W n (compEnvC scope cl C env) g' l' (eval elt (compEnvC scope cl C env)) fun y g' _ => Inv (i + 1) (ys ++ [y]) g') ∧ (ok = false → Inv (i + 1) ys g')
  size : N ≤ sizeLine
  len : ∀ i ys g', Inv i ys g' → ys.length ≤ i

theorem comp_core {A : Around} {s₂ : Shared} {E : Value → Shared → Prop} {fr g₁ : Gh} {l₁ : Lm} {elt iter : Expr} {x : Str} {px : Pos} {ifs : List Expr} {scope : Scope} {cl : List (Str × Addr)} {pos : Pos} {I : Addr} {src : List Addr} {N : Nat} {P : Nat → Value → Prop} {S : Addr → Prop} {St : Nat → Heap → Prop}
    {Inv : Nat → List Value → Gh → Prop} {RR : Value → Addr → Result → Shared → Prop}
    (ok : Ok A n) (i₂ : In W fr g₁ env.locals l₁ s₂.heap) (gI : g₁ I = none) (BI : W.B.get? I = none) (fI : fr I = none) (IL : I ≠ env.locals)
    (Wk : Walks W.prog W.w A I (I :: src) [I] N P St) (hS : ∀ b ∈ src, S b) (st0 : St 0 s₂.heap) (live : ∀ i h, St i h → ∃ o, h.get? I = some o)
    (hcell : ∀ y ∈ scope.names, y.2 ≠ .cell) (hkind : scope.kind = .function) (hx : scope.names.lookup x = some .local)
    (H : CompOk W n env scope cl x ifs elt g₁ N P S Inv)
    (hRR : ∀ D C oC g' ys k s', In W (up fr C oC) (up g' D (lstO ys k)) env.locals l₁ s'.heap → s'.heap.Ns C (fun _ => none) ∨ (∃ m, s'.heap.Ns C m) → fr C = none → g' D = none → W.B.get? D = none → Same s₂ s' → Inv N ys g' → RR (.ref D) C (.ok .next) s') :
    wpAny (model W.prog W.w) A (newList []) (fun acc s₃ => wpAny (model W.prog W.w) A (newFunctionEnv scope env.globals cl [] env.qual none .none (some env)) (fun cenv s₄ =>
      codeAny (model W.prog W.w) A (.compStart (.ListComp elt [⟨.Name x px, iter, ifs, 0⟩] scope pos) 0 (.ref I) acc { cenv with scope := relabel scope env }) (RR acc cenv.locals) s₄) E s₃) E s₂ := by
  obtain ⟨oI, hoI⟩ := live 0 _ st0
  have i₃ := i₂.step gI fI IL (fun _ _ _ e => e) hoI
  refine wpAny_newObj_type (wpAny_newFunctionEnv hcell (by intro y hy; simp at hy) (fun h₁ hns₁ hsb₁ => ?_) hkind)
  -- the list D, the frame C
  obtain ⟨gD, BD, DL, i₄⟩ := i₃.push (o := lstO [] 0) rfl
  have i₅ := i₄.give gD BD
  have fD : up fr I oI s₂.heap.objs.size = none := by
    cases e : up fr I oI s₂.heap.objs.size with
    | none => rfl
    | some z => exact absurd (Heap.lt_size (i₃.fsub _ _ e)) (Nat.lt_irrefl _)
  dsimp only at hns₁ hsb₁ ⊢
  generalize hH2 : s₂.heap.push { cls := .type "list", dict := none, data := .seq ([] : List Value).toArray } = H2 at hns₁ hsb₁ ⊢
  have i₅ : In W (up (up fr I oI) s₂.heap.objs.size (lstO [] 0)) g₁ env.locals l₁ H2 := by rw [← hH2]; exact i₅
  generalize hD : s₂.heap.objs.size = D at *
  have keepH : ∀ b o, H2.get? b = some o → h₁.get? b = some o := fun b o e => hsb₁.extBut b o (Nat.ne_of_lt (Heap.lt_size e)) (Heap.get?_push_of_some _ e)
  obtain ⟨oL, hoL, i₆⟩ := i₅.enter (l' := []) keepH hns₁ (fun _ _ e => by cases e) (Nat.le_refl _)
  generalize hC : H2.objs.size = C at *
  have DI : D ≠ I := fun q => by rw [q, up_same] at fD; cases fD
  have LI' : env.locals ≠ I := Ne.symm IL
  have LD : env.locals ≠ D := Ne.symm DL
  have f2 : (up (up fr I oI) D (lstO [] 0)) C = none := by
    have := i₆.foff
    have q : C ≠ env.locals := fun q => by rw [q, up_same] at this; cases this
    rwa [up_ne q] at this
  have CD : C ≠ D := fun q => by rw [q, up_same] at f2; cases f2
  have CI : C ≠ I := fun q => by rw [q, up_ne (Ne.symm DI), up_same] at f2; cases f2
  have fC : fr C = none := by rwa [up_ne CD, up_ne CI] at f2
  have CL : C ≠ env.locals := fun q => by have := i₆.foff; rw [q, up_same] at this; cases this
  have st1 : St 0 h₁ := Wk.frame _ _ _ st0 fun b _ o e => keepH b o (hH2 ▸ Heap.get?_push_of_some _ e)
  -- the loop
  have loop : codeAny (model W.prog W.w) A (.compLoop (.ListComp elt [⟨.Name x px, iter, ifs, 0⟩] scope pos) 0 (.ref I) (.ref D) (compEnvC scope cl C env)) (RR (.ref D) C)
      { s₂ with heap := h₁, toks := s₂.toks + ([] : List (Str × Value)).length } := by
    refine codeAny_compLoop_tests (fun k s' => ∃ j g' ys c oI', k = N - j ∧ j ≤ N ∧ Same s₂ s' ∧ In W (up (up (up fr I oI') D (lstO ys c)) env.locals oL) g' C [] s'.heap ∧ St j s'.heap ∧ Inv j ys g') ?_ N
      ⟨0, g₁, [], 0, oI, rfl, Nat.zero_le _, Same.mk' s₂ h₁ _, i₆, st1, H.start⟩
    rintro k s' ⟨j, g', ys, c, oI', rfl, hj, e, iI, st, inv⟩
    have fI' : ∀ z, up (up fr D z) env.locals oL I = none := fun z => by rw [up_ne IL, up_ne (Ne.symm DI)]; exact fI
    have sw : ∀ a z, up (up (up fr I a) D z) env.locals oL = up (up (up fr D z) env.locals oL) I a := fun a z => by
      funext b
      by_cases q1 : b = I
      · subst q1; rw [up_ne IL, up_ne (Ne.symm DI), up_same, up_same]
      · by_cases q2 : b = env.locals
        · subst q2; rw [up_same, up_ne q1, up_same]
        · by_cases q3 : b = D
          · subst q3; rw [up_ne q2, up_same, up_ne q1, up_ne q2, up_same]
          · rw [up_ne q2, up_ne q3, up_ne q1, up_ne q1, up_ne q2, up_ne q3]
    have swD : ∀ a z, up (up (up fr I a) D z) env.locals oL = up (up (up fr I a) env.locals oL) D z := fun a z => by
      funext b
      by_cases q2 : b = env.locals
      · subst q2; rw [up_same, up_ne LD, up_same]
      · by_cases q3 : b = D
        · subst q3; rw [up_ne q2, up_same, up_same]
        · rw [up_ne q2, up_ne q3, up_ne q3, up_ne q2]
    rw [sw] at iI
    have gI' : g' I = none := iI.apart I oI' up_same
    have iF := iI.dropF (fI' _)
    by_cases hlt : j < N
    · refine Wk.item j s' _ _ hlt st fun v h₂ tk₂ hP st₂ hk₂ => ?_
      obtain ⟨o₂, ho₂⟩ := live _ _ st₂
      have i₇ : In W (up (up (up fr D (lstO ys c)) env.locals oL) I o₂) g' C [] h₂ := iF.step gI' (fI' _) (Ne.symm CI) (fun b o hb e => hk₂ b o (fun hm => hb (List.mem_singleton.mp hm)) e) ho₂
      obtain ⟨m₇, hn₇, _⟩ := i₇.ns
      refine wpAny_assign_Name (wpAny_storeName_local (lookup_relabel_local hx) hn₇ (fun h₃ hn₃ hs₃ => ?_) (by simp [compEnvC, relabel, hkind]))
      have i₈ := i₇.store hn₇ (fun _ _ e => by cases e) hn₃ hs₃
      have stk : ∀ {h' : Heap} {g'' : Gh} {l'' : Lm} {j' : Nat} {ys' : List Value}, In W (up (up (up fr D (lstO ys c)) env.locals oL) I o₂) g'' C l'' h' → Inv j' ys' g'' → St (j + 1) h' := fun {h' g'' l'' j' ys'} iz invz => Wk.frame _ _ _ st₂ fun b hb z hz => by
        rcases List.mem_cons.mp hb with rfl | hb
        · rw [ho₂] at hz; cases hz; exact iz.fsub _ _ up_same
        · obtain ⟨ob, hob⟩ := H.src b (hS b hb)
          have e1 := i₇.sub b ob (H.keep _ _ _ inv b ob (hS b hb) hob)
          rw [hz] at e1; cases e1
          exact iz.sub b z (H.keep _ _ _ invz b z (hS b hb) hob)
      refine (H.turn C j v ys g' hlt hP inv).next (s := { s' with heap := h₃, toks := tk₂ + 1 }) ok i₈ fun okb s₄ g₄ l₄ i₉ e₄ q => ?_
      have es : Same s₂ s₄ := (e.trans (Same.mk' s' h₃ (tk₂ + 1))).trans e₄
      cases okb with
      | false =>
        simp only [Bool.false_eq_true, if_false]
        exact ⟨N - (j + 1), by omega, j + 1, g₄, ys, c, o₂, rfl, hlt, es, by rw [sw]; exact i₉.bare, stk i₉ (q.2 rfl), q.2 rfl⟩
      | true =>
        simp only [if_true]
        refine (q.1 rfl).next ok i₉ fun y s₅ g₅ l₅ iA e₅ q => ?_
        have stA := stk iA q
        have iA' : In W (up (up (up fr I o₂) env.locals oL) D (lstO ys c)) g₅ C [] s₅.heap := by rw [← swD, sw]; exact iA.bare
        have gD' : g₅ D = none := iA'.apart D _ up_same
        have fD' : ∀ a, up (up fr I a) env.locals oL D = none := fun a => by
          rw [up_ne (Ne.symm LD), up_ne DI]
          rw [up_ne DI] at fD; exact fD
        have hys : ys.length ≤ sizeLine := Nat.le_trans (H.len _ _ _ inv) (Nat.le_trans (Nat.le_of_lt hlt) H.size)
        refine wpAny_list_append_plain (items := ys.toArray) (hsz := by rw [List.size_toArray]; exact hys) ⟨c, iA'.fsub _ _ up_same⟩ fun h₅ hl₅ hs₅ => ?_
        obtain ⟨c', hc'⟩ := hl₅
        have e1 : ys.toArray.push y = (ys ++ [y]).toArray := by simp
        rw [e1] at hc'
        have iB : In W (up (up (up fr I o₂) env.locals oL) D (lstO (ys ++ [y]) c')) g₅ C [] h₅ :=
          (iA'.dropF (fD' _)).step gD' (fD' _) (Ne.symm CD) (fun b o hb e => hs₅.extBut b o hb e) hc'
        refine ⟨N - (j + 1), by omega, j + 1, g₅, ys ++ [y], c', o₂, rfl, hlt, (es.trans e₅).trans (Same.mk' s₅ _ _), by rw [swD]; exact iB, ?_, q⟩
        refine Wk.frame _ _ _ stA fun b hb o e => hs₅.extBut b o (fun qd => ?_) e
        subst qd
        rcases List.mem_cons.mp hb with q1 | hb
        · exact DI q1
        · obtain ⟨ob, hob⟩ := H.src b (hS b hb)
          have := H.keep _ _ _ q b ob (hS b hb) hob
          rw [gD'] at this; cases this
    · have hN : j = N := by omega
      subst hN
      refine Wk.done _ _ _ st fun h₂ tk₂ hk₂ => ?_
      have iE : In W (up (up fr D (lstO ys c)) env.locals oL) g' C [] h₂ := iF.step0 gI' (fI' _) (Ne.symm CI) fun b o hb e => hk₂ b o (fun hm => hb (List.mem_singleton.mp hm)) e
      have hCm := iE.ns
      obtain ⟨mC, hnC, _⟩ := hCm
      obtain ⟨oC, _, _, hoC, _⟩ := id hnC
      -- the base of the enclosing frame
      have i₀ : In W (up fr D (lstO [] 0)) g₁ env.locals l₁ H2 := by
        have e0 : up (up fr I oI) D (lstO [] 0) = up (up fr D (lstO [] 0)) I oI := by
          funext b
          by_cases q1 : b = I
          · subst q1; rw [up_ne (Ne.symm DI), up_same, up_same]
          · by_cases q3 : b = D
            · subst q3; rw [up_same, up_ne q1, up_same]
            · rw [up_ne q3, up_ne q1, up_ne q1, up_ne q3]
        rw [e0] at i₅
        exact i₅.dropF (by rw [up_ne (Ne.symm DI)]; exact fI)
      have hn0 := i₀.ns
      obtain ⟨m0, ⟨o0, es0, ep0, ho0, r0⟩, hm0⟩ := hn0
      rw [hoL] at ho0
      cases ho0
      have fDD : fr D = none := by rw [up_ne DI] at fD; exact fD
      have iG : In W (up fr D (lstO ys c)) g' env.locals l₁ h₂ := {
        sub := iE.sub
        fsub := fun b z ez => iE.fsub b z (by
          rw [up_ne fun qb => by rw [qb, up_ne LD] at ez; have := i₀.foff; rw [up_ne LD] at this; rw [this] at ez; cases ez]; exact ez)
        apart := fun b z ez => iE.apart b z (by
          rw [up_ne fun qb => by rw [qb, up_ne LD] at ez; have := i₀.foff; rw [up_ne LD] at this; rw [this] at ez; cases ez]; exact ez)
        base := iE.base
        off := iE.apart env.locals oL up_same
        foff := by rw [up_ne LD]; have := i₀.foff; rw [up_ne LD] at this; exact this
        above := i₀.above
        ns := ⟨m0, ⟨oL, es0, ep0, iE.fsub _ _ up_same, r0⟩, hm0⟩ }
      have gD' : g' D = none := iG.apart D _ up_same
      have iH := iG.take fDD BD
      have gC : up g' D (lstO ys c) C = none := by rw [up_ne CD]; exact iE.off
      have iK : In W (up fr C oC) (up g' D (lstO ys c)) env.locals l₁ h₂ := iH.step gC fC CL (fun _ _ _ e => e) hoC
      exact hRR D C oC g' ys c { s' with heap := h₂, toks := tk₂ } iK (.inr ⟨mC, hnC⟩) fC gD' BD (e.trans (Same.mk' s' h₂ tk₂)) inv
  exact codeAny_compStart_list loop (Wk.self 0 _ _ _ st1 loop)
end
end

section
section
variable {α β : Type} {KK : Params → Frag} {W : Wd KK} {n : Nat} {env : Env} {g : Gh} {l : Lm}

theorem R_comp {elt iter : Expr} {x : Str} {px : Pos} {ifs : List Expr} {scope : Scope} {cl : List (Str × Addr)} {pos : Pos} {Q : Value → Gh → Lm → Prop}
    (hs : ∀ x, foldedSetIterable iter env x = pure x) (hclos : closureFor scope env = pure cl) (hcell : (scope.names.all fun y => decide (y.2 ≠ .cell)) = true) (hkind : scope.kind = .function)
    (hnames : (scope.names.all fun y => decide (y.2 = .local → scope.names.lookup y.1 = some .local)) = true) (hx : scope.names.lookup x = some .local)
    (h : R W n env g l (eval iter env) fun v g₁ l₁ => ∃ N P S Inv, Src W n g₁ v N P S ∧ CompOk W n env scope cl x ifs elt g₁ N P S Inv ∧ ∀ D g' ys k, g' D = none → W.B.get? D = none → Inv N ys g' → Q (.ref D) (up g' D (lstO ys k)) l₁) :
    R W n env g l (eval (.ListComp elt [⟨.Name x px, iter, ifs, 0⟩] scope pos) env) Q := by
  intro A s E fr ok i
  rw [eval_ListComp]
  refine wpAny_comprehension_free (use := none) rfl hs hclos hkind (fun y hy => of_decide_eq_true (List.all_eq_true.mp hnames y hy)) (h.next ok i fun v s₁ g₁ l₁ i₁ e₁ q => ?_)
  obtain ⟨N, P, S, Inv, hsrc, H, hQ⟩ := q
  refine hsrc A s₁ _ fr _ _ _ ok i₁ fun I src St h' tk gI BI fI IL i₂ Wk hS st0 live hlet => ?_
  refine comp_core (RR := fun acc C => compPost (model W.prog W.w) A E none _ acc C) (s₂ := { s₁ with heap := h', toks := tk }) ok i₂ gI BI fI IL Wk hS st0 live (fun y hy => of_decide_eq_true (List.all_eq_true.mp hcell y hy)) hkind hx H ?_
  intro D C oC g' ys k s' iK hC fC gD BD es inv
  have hCn : ∃ m, s'.heap.Ns C m := hC.elim (fun x => ⟨_, x⟩) id
  obtain ⟨m, hm⟩ := hCn
  have gC : up g' D (lstO ys k) C = none := iK.apart C oC up_same
  have CL : C ≠ env.locals := fun q => by have := iK.foff; rw [← q, up_same] at this; cases this
  refine ⟨m, hm, fun h₂ hs₂ => ⟨_, l₁, (iK.dropF fC).step0 gC fC CL fun b o hb e => hs₂.extBut b o hb e, ?_, hQ D g' ys k gD BD inv⟩⟩
  exact ((e₁.trans (Same.mk' s₁ h' tk)).trans es).trans (Same.mk' s' h₂ s'.toks)

theorem R_assignComp {elt iter : Expr} {x y : Str} {px py : Pos} {ifs : List Expr} {scope : Scope} {cl : List (Str × Addr)} {pos spos : Pos} {Q : Flow → Gh → Lm → Prop}
    (hk : env.scope.kind = .function) (hy : env.kindOf y = some .local)
    (hsw : swapsWith (.ListComp elt [⟨.Name x px, iter, ifs, 0⟩] scope pos) (some (.Name y py)) spos.line env = pure true)
    (hs : ∀ x, foldedSetIterable iter env x = pure x) (hclos : closureFor scope env = pure cl) (hcell : (scope.names.all fun y => decide (y.2 ≠ .cell)) = true) (hkind : scope.kind = .function)
    (hnames : (scope.names.all fun y => decide (y.2 = .local → scope.names.lookup y.1 = some .local)) = true) (hx : scope.names.lookup x = some .local)
    (h : R W n env g l (eval iter env) fun v g₁ l₁ => ∃ N P S Inv, Src W n g₁ v N P S ∧ CompOk W n env scope cl x ifs elt g₁ N P S Inv ∧ ∀ D g' ys k, g' D = none → W.B.get? D = none → Inv N ys g' → Q .next (up g' D (lstO ys k)) ((y, .ref D) :: l₁)) :
    R W n env g l (exec (.Assign [.Name y py] (.ListComp elt [⟨.Name x px, iter, ifs, 0⟩] scope pos) spos) env) Q := by
  intro A s E fr ok i
  rw [exec_Assign_Name_used _ _ _ _ hsw]
  refine wpAny_bind (wpAny_standAt (wpAny_bind ?_))
  show wpAny _ A (do let _ ← comprehension (.ListComp elt [⟨.Name x px, iter, ifs, 0⟩] scope pos) scope env _ (newList []) false (eval iter env) (some (assign (.Name y py) env))) _ _ s
  refine wpAny_bind (wpAny_mono (wpAny_comprehension_free (use := some (assign (.Name y py) env)) (Q := fun _ s' => ∃ g' l', In W fr g' env.locals l' s'.heap ∧ Same s s' ∧ Q .next g' l') rfl hs hclos hkind (fun y hy => of_decide_eq_true (List.all_eq_true.mp hnames y hy)) (h.next ok i fun v s₁ g₁ l₁ i₁ e₁ q => ?_))
    (fun _ s' hq => wpAny_pure (wpAny_pure hq)) fun _ _ e => e)
  obtain ⟨N, P, S, Inv, hsrc, H, hQ⟩ := q
  refine hsrc A s₁ _ fr _ _ _ ok i₁ fun I src St h' tk gI BI fI IL i₂ Wk hS st0 live hlet => ?_
  refine comp_core (RR := fun acc C => compPost (model W.prog W.w) A E (some (assign (.Name y py) env)) _ acc C) (s₂ := { s₁ with heap := h', toks := tk }) ok i₂ gI BI fI IL Wk hS st0 live (fun y hy => of_decide_eq_true (List.all_eq_true.mp hcell y hy)) hkind hx H ?_
  intro D C oC g' ys k s' iK hC fC gD BD es inv
  have hCn : ∃ m, s'.heap.Ns C m := hC.elim (fun x => ⟨_, x⟩) id
  obtain ⟨m, hm⟩ := hCn
  have gC : up g' D (lstO ys k) C = none := iK.apart C oC up_same
  have CL : C ≠ env.locals := fun q => by have := iK.foff; rw [← q, up_same] at this; cases this
  obtain ⟨mL, hnL, hmL⟩ := iK.ns
  refine wpAny_assign_Name (wpAny_storeName_local hy hnL (fun h₂ hn₂ hs₂ => ?_) (by rw [hk]; rfl))
  have iS := iK.store hnL hmL hn₂ hs₂
  refine ⟨m, hm.sameBut hs₂ CL, fun h₃ hs₃ => ⟨_, _, (iS.dropF fC).step0 gC fC CL fun b o hb e => hs₃.extBut b o hb e, ?_, hQ D g' ys k gD BD inv⟩⟩
  exact ((e₁.trans (Same.mk' s₁ h' tk)).trans es).trans (Same.mk' s' h₃ (s'.toks + 1))
end
end

section
section
variable {α β : Type} {KK : Params → Frag} {W : Wd KK} {n : Nat} {env : Env} {g : Gh} {l : Lm}

theorem In.born {fr : Gh} {L D : Addr} {h h' : Heap} {m : Str → Option Value} {ls : List (Addr × Obj)} {o : Obj} (i : In W fr g L l h) (hm : ∀ x v, l.lookup x = some v → m x = some v) (F : Fr W.B L h' m) (N : News W.B L h' ((D, o) :: ls))
    (hs : ∀ p ∈ led W.B h L, p ∈ ls) (hlt : ∀ p ∈ led W.B h L, p.1 < D) : g D = none ∧ W.B.get? D = none ∧ In W fr (up g D o) L l h' := by
  have ND := N _ (.head _)
  have gD : g D = none := by
    cases e : g D with
    | none => rfl
    | some x => exact absurd (hlt _ (i.inLed e ND.2.2)) (Nat.lt_irrefl _)
  have fD : fr D = none := by
    cases e : fr D with
    | none => rfl
    | some x => exact absurd (hlt _ (i.frLed e)) (Nat.lt_irrefl _)
  have j := i.kept hm F N fun p hp => .tail _ (hs p hp)
  exact ⟨gD, ND.2.2, (j.step gD fD ND.2.1 (fun _ _ _ e => e) ND.1).take fD ND.2.2⟩

theorem In.ext {fr : Gh} {L : Addr} {h h' : Heap} (i : In W fr g L l h) (hk : ∀ b o, h.get? b = some o → h'.get? b = some o) : In W fr g L l h' :=
  ⟨fun b o e => hk b o (i.sub b o e), fun b o e => hk b o (i.fsub b o e), i.apart, i.base, i.off, i.foff, i.above, let ⟨m, hn, hm⟩ := i.ns; ⟨m, hn.keeps hk, hm⟩⟩
theorem LI.is {a : Addr} {vs : List Value} {fr : Gh} {L : Addr} {h : Heap} (hl : LI g a vs) (i : In W fr g L l h) : h.IsList a vs.toArray := let ⟨k, e⟩ := hl; ⟨_, i.sub _ _ e, rfl, k, rfl⟩
theorem TU.is {a : Addr} {vs : List Value} {fr : Gh} {L : Addr} {h : Heap} (hl : TU g a vs) (i : In W fr g L l h) : IsTup h a vs.toArray := let ⟨k, e⟩ := hl; ⟨_, i.sub _ _ e, rfl, k, rfl⟩

theorem R_callArgsB {f : Value} {first : List Value} {e : Expr} {rest : List Expr} {pos : Pos} {Q : Value → Gh → Lm → Prop} (hk : ∀ a, f ≠ .ref a)
    (he : starEach (e :: rest) env = (false, eval e env) :: starEach rest env) (hplain : (backTo pos (starEach rest env)).any (·.1) = false)
    (h : R W n env g l (spliced (backTo pos (starEach (e :: rest) env))) fun vs g' l' => R W n env g' l' (call f (first ++ vs)) Q) : R W n env g l (callWith pos f first (backTo pos (starEach (e :: rest) env)) []) Q := by
  intro A s E fr ok i
  have hb : (backTo pos (starEach (e :: rest) env)) = (false, eval e env) :: backTo pos (starEach rest env) := by rw [he]; rfl
  refine callWith_of (P := fun _ => True) (by rw [hb, List.any_cons, hplain]; rfl) (fun hh _ => ⟨.machine, .inr (.inl rfl), ?_⟩) ?_
  · cases f <;> first | exact absurd rfl (hk _) | exact Looks.of_pure rfl
  · rw [hb]
    refine evalArgs_plain ?_
    rw [← hb]
    exact h.next ok i fun _ _ _ _ i e q => ⟨trivial, q.go ok i e⟩
theorem R_callArgsB0 {f : Value} {first : List Value} {pos : Pos} {Q : Value → Gh → Lm → Prop} (hk : ∀ a, f ≠ .ref a)
    (h : R W n env g l (call f (first ++ [])) Q) : R W n env g l (callWith pos f first (backTo pos (starEach [] env)) []) Q := by
  intro A s E fr ok i
  refine callWith_of (P := fun _ => True) rfl (fun hh _ => ⟨.machine, .inr (.inl rfl), ?_⟩) (evalArgs_nil3 ⟨trivial, h A s E fr ok i⟩)
  cases f <;> first | exact absurd rfl (hk _) | exact Looks.of_pure rfl

theorem R_lenL {a : Addr} {vs : List Value} {Q : Value → Gh → Lm → Prop} (hl : LI g a vs) (hz : vs.length ≤ 1000000) (h : ∀ t, Q (.int vs.length t) g l) : R W n env g l (call (.builtin "len") [.ref a]) Q :=
  fun _ s _ _ _ i => call_len_list (hl.is i) (by rw [List.size_toArray]; omega) (by rw [List.size_toArray]; exact ⟨g, l, i, Same.mk' s _ _, h _⟩)
theorem R_lenT {a : Addr} {vs : List Value} {Q : Value → Gh → Lm → Prop} (hl : TU g a vs) (hz : vs.length ≤ 1000000) (h : ∀ t, Q (.int vs.length t) g l) : R W n env g l (call (.builtin "len") [.ref a]) Q :=
  fun _ s _ _ _ i => PyProof.Rows.len_tuple (hl.is i) (by rw [List.size_toArray]; omega) (by rw [List.size_toArray]; exact ⟨g, l, i, Same.mk' s _ _, h _⟩)
theorem R_itemL {value slice : Expr} {a : Addr} {vs : List Value} {k : Int} {u : Tok} {v : Value} {Q : Value → Gh → Lm → Prop} (hl : LI g a vs) (h0 : 0 ≤ k) (hz : k < 2 ^ 63) (hv : vs[k.toNat]? = some v)
    (hs : subscripted slice false (.ref a) (.int k u) = operate [.ref a, .int k u] (getItem (.ref a) (.int k u))) (h : Q v g l) : R W n env g l (subscriptTail value slice (.ref a) (.int k u)) Q :=
  fun _ s _ _ _ i => tail_any (hl.is i).typeIs slot_list_getitem.lookup (wpAny_getItem_list (hl.is i) h0 hz (by simpa using hv) ⟨g, l, i, Same.refl s, h⟩) hs
theorem R_itemT {value slice : Expr} {a : Addr} {vs : List Value} {k : Int} {u : Tok} {v : Value} {Q : Value → Gh → Lm → Prop} (hl : TU g a vs) (h0 : 0 ≤ k) (hz : k < 2 ^ 63) (hv : vs[k.toNat]? = some v)
    (hs : subscripted slice false (.ref a) (.int k u) = operate [.ref a, .int k u] (getItem (.ref a) (.int k u))) (h : Q v g l) : R W n env g l (subscriptTail value slice (.ref a) (.int k u)) Q :=
  fun _ s _ _ _ i => item_tupleT (j := k.toNat) (hl.is i) (by omega) hz (by
    have hlt : k.toNat < vs.length := (List.getElem?_eq_some_iff.mp hv).1
    unfold seqIndex?
    have h1 : ¬ k < 0 := by omega
    simp only [if_neg h1]
    rw [if_pos (by simp; omega)]) hv ⟨g, l, i, Same.refl s, h⟩ hs
theorem R_setL {a : Addr} {vs : List Value} {k : Int} {u : Tok} {v : Value} {Q : Unit → Gh → Lm → Prop} (hl : LI g a vs) (hB : W.B.get? a = none) (h0 : 0 ≤ k) (hz : k < 2 ^ 63) (hk : k < vs.length)
    (h : ∀ c, Q () (up g a (lstO (vs.set k.toNat v) c)) l) : R W n env g l (setItem (.ref a) (.int k u) v) Q := by
  intro A s E fr ok i
  obtain ⟨c, hc⟩ := hl
  refine ki_setAt (items := vs.toArray) (i.sub _ _ hc) h0 hz (by rw [List.size_toArray]; exact hk) ?_
  have q := PySem.IsL.update (h := s.heap) (l := a) (items := vs.toArray) (n := c) (i.sub _ _ hc) (·.setIfInBounds k.toNat v)
  have e : vs.toArray.setIfInBounds k.toNat v = (vs.set k.toNat v).toArray := by simp
  rw [e] at q
  exact ⟨_, l, i.change hc hB (Heap.SameBut.update ..) q, Same.mk' s _ _, h _⟩

theorem R_getAppend {a : Addr} {vs : List Value} {pl : Sem Bool} {Q : Value × List Value → Gh → Lm → Prop} (hl : LI g a vs) (h : Q (.builtin "list.append", [.ref a]) g l) : R W n env g l (getMethod (.ref a) (Str.ofString "append") pl) Q :=
  fun _ s _ _ _ i => let ⟨_, e⟩ := hl; getMethod_list_append (i.sub _ _ e) rfl rfl ⟨g, l, i, Same.refl s, h⟩
theorem R_append {a : Addr} {vs : List Value} {v : Value} {Q : Value → Gh → Lm → Prop} (hl : LI g a vs) (hB : W.B.get? a = none) (hz : vs.length ≤ 1000000) (h : ∀ c, Q .none (up g a (lstO (vs ++ [v]) c)) l) : R W n env g l (call (.builtin "list.append") [.ref a, v]) Q := by
  intro A s E fr ok i
  obtain ⟨c, hc⟩ := hl
  refine wpAny_list_append_plain (items := vs.toArray) (hsz := by rw [List.size_toArray, sizeLine_eq]; omega) ⟨c, i.sub _ _ hc⟩ fun h' hl' hs' => ?_
  obtain ⟨c', hc'⟩ := hl'
  have e : vs.toArray.push v = (vs ++ [v]).toArray := by simp
  rw [e] at hc'
  exact ⟨_, l, i.change hc hB hs' hc', Same.mk' s _ _, h c'⟩

theorem R_tupleOf {a : Addr} {vs : List Value} {Q : Value → Gh → Lm → Prop} (hl : LI g a vs) (hz : vs.length ≤ 1000000) (h : ∀ D, g D = none → W.B.get? D = none → Q (.ref D) (up g D (tupO vs)) l) : R W n env g l (call (.type "tuple") [.ref a]) Q := by
  intro A s E fr ok i
  obtain ⟨m, F, hm⟩ := i.fr'
  refine call_tuple_list (hl.is i) (fun h' hk => ?_) (by rw [List.size_toArray, sizeLine_eq]; omega)
  have i₁ := i.ext hk
  obtain ⟨h1, h2, _, h4⟩ := i₁.push (o := tupO vs) rfl
  exact ⟨_, l, h4, Same.mk' s _ _, h _ h1 h2⟩
theorem R_listOf {a : Addr} {vs : List Value} {Q : Value → Gh → Lm → Prop} (hl : LI g a vs) (hz : vs.length ≤ 1000000) (h : ∀ D c, g D = none → W.B.get? D = none → Q (.ref D) (up g D (lstO vs c)) l) : R W n env g l (call (.type "list") [.ref a]) Q := by
  intro A s E fr ok i
  obtain ⟨m, F, hm⟩ := i.fr'
  refine list_copyK F i.news (hl.is i) (fun D c h' F' N' l1 => ?_) (by rw [List.size_toArray, sizeLine_eq]; omega)
  obtain ⟨gD, BD, i'⟩ := i.born hm F' N' (fun _ hp => hp) l1
  exact ⟨_, l, i', Same.mk' s _ _, h D c gD BD⟩

theorem R_min {a : Addr} {vs : List Value} {ns : List Int} {Q : Value → Gh → Lm → Prop} (hl : LI g a vs) (hi : IntsAre vs ns) (hne : 0 < ns.length) (h : ∀ M t, M ∈ ns → (∀ x ∈ ns, M ≤ x) → Q (.int M t) g l) : R W n env g l (call (.builtin "min") [.ref a]) Q := by
  intro A s E fr ok i
  obtain ⟨m, F, hm⟩ := i.fr'
  exact min_list_N ok.hh F i.news (hl.is i) hi hne fun h' M t tk F' N' h1 h2 => ⟨g, l, i.kept hm F' N' fun _ hp => hp, Same.mk' s _ _, h M t h1 h2⟩
theorem R_max {a b : Int} {t u : Tok} {Q : Value → Gh → Lm → Prop} (h : ∀ t, Q (.int (if b > a then b else a) t) g l) : R W n env g l (call (.builtin "max") [.int a t, .int b u]) Q := by
  intro A s E fr ok i
  obtain ⟨m, F, hm⟩ := i.fr'
  exact max_two_N ok.hh F i.news fun h' tk F' N' => ⟨g, l, i.kept hm F' N' fun _ hp => hp, Same.mk' s _ _, h _⟩
theorem R_abs {a : Int} {t : Tok} {Q : Value → Gh → Lm → Prop} (h : ∀ t, Q (.int (if a < 0 then -a else a) t) g l) : R W n env g l (call (.builtin "abs") [.int a t]) Q :=
  fun _ s _ _ _ i => call_abs_int fun u tk => ⟨g, l, i, Same.mk' s _ _, h u⟩

theorem sumList {A : Around} {E : Value → Shared → Prop} {s : Shared} {t : Addr} {xs : Array (Int × Tok)} {Q : Value → Shared → Prop} {prog : Program} {w : World} (hh : A.handled = none) (ht : s.heap.IsList t (intItems xs))
    (h : ∀ h' tk t', (∀ b o, s.heap.get? b = some o → h'.get? b = some o) → Q (.int (preSum (numAt xs) xs.size) t') { s with heap := h', toks := tk }) :
    wpAny (model prog w) A (call (.builtin "sum") [.ref t]) Q E s := by
  obtain ⟨o, ho, hc, n, hd⟩ := id ht
  have hne : t ≠ s.heap.objs.size := Nat.ne_of_lt (Heap.lt_size ho)
  have hsz : (intItems xs).size = xs.size := by simp [intItems]
  have W := (Walks.list (prog := prog) (w := w) (A := A.in1) hh s.heap.objs.size t hne (intItems xs)).toS
  rw [hsz] at W
  refine call_sum_walkAnyS (wpAny_pyIter_list ht ?_)
  refine ⟨s.heap.objs.size, _, _, _, _, _, _, numAt xs, rfl, W, ⟨⟨_, Heap.get?_push_size _ rfl, rfl, rfl⟩, ht.at fun o e => Heap.get?_push_of_some _ e⟩, fun b hb => ?_, fun i v hP => intItems_at hP, fun s' t' hm => ?_⟩
  · rcases List.mem_cons.mp hb with rfl | hb
    · exact Heap.lt_size (Heap.get?_push_size _ rfl)
    · obtain rfl := List.mem_singleton.mp hb
      exact Heap.lt_size (Heap.get?_push_of_some _ ho)
  · obtain ⟨h1, h2, h3, h4, h5⟩ := hm
    have e : s' = { s with heap := s'.heap, toks := s'.toks } := by
      cases s'
      simp only at h2 h3 h4
      simp_all
    rw [e]
    exact h s'.heap s'.toks t' fun b o eb => h1 b o (fun hb => by
      rw [List.mem_singleton.mp hb] at eb
      exact absurd (Heap.lt_size eb) (Nat.lt_irrefl _)) (Heap.get?_push_of_some _ eb)
theorem R_sum {a : Addr} {vs : List Value} {ns : List Int} {Q : Value → Gh → Lm → Prop} (hl : LI g a vs) (hi : IntsAre vs ns) (h : ∀ t, Q (.int ns.sum t) g l) : R W n env g l (call (.builtin "sum") [.ref a]) Q := by
  intro A s E fr ok i
  have hs := hl.is i
  obtain ⟨xs, hx⟩ := hi.allInts.items
  have hn : numsOf vs.toArray.toList = ns := by rw [show vs.toArray.toList = vs from rfl, hi.numsOf]
  rw [hx] at hs hn
  rw [nums_intItems] at hn
  refine sumList ok.hh hs fun h' tk t' hk => ⟨g, l, i.ext hk, Same.mk' s _ _, ?_⟩
  rw [preSum_eq, List.take_of_length_le (by simp), hn]
  exact h t'

theorem R_notInT {a : Addr} {vs : List Value} {ys : List Str} {x : Str} {u : Tok} {Q : Value → Gh → Lm → Prop} (hl : TU g a vs) (hi : StrsAre vs ys) (h : Q (.bool (!ys.any (· == x))) g l) : R W n env g l (compareOp .NotIn (.str x u) (.ref a)) Q :=
  fun _ s _ _ _ i => notin_tuple_strs (hl.is i) hi ⟨g, l, i, Same.refl s, h⟩

def rngO (a b : Int) (t u v : Tok) : Obj := { cls := .type "range", data := .fields #[.int a t, .int b u, .int 1 v] }
theorem R_range1 {b : Int} {t : Tok} {Q : Value → Gh → Lm → Prop} (h : ∀ D t u v, g D = none → W.B.get? D = none → Q (.ref D) (up g D (rngO 0 b t u v)) l) : R W n env g l (call (.type "range") [.int b t]) Q := by
  intro A s E fr ok i
  obtain ⟨h1, h2, _, h4⟩ := i.push (o := rngO 0 b s.toks t (s.toks + 1)) rfl
  exact call_range_1 ⟨_, l, h4, Same.mk' s _ _, h _ _ _ _ h1 h2⟩
theorem R_range2 {a b : Int} {t u : Tok} {Q : Value → Gh → Lm → Prop} (h : ∀ D t u v, g D = none → W.B.get? D = none → Q (.ref D) (up g D (rngO a b t u v)) l) : R W n env g l (call (.type "range") [.int a t, .int b u]) Q := by
  intro A s E fr ok i
  obtain ⟨h1, h2, _, h4⟩ := i.push (o := rngO a b t u s.toks) rfl
  exact call_range_2 ⟨_, l, h4, Same.mk' s _ _, h _ _ _ _ h1 h2⟩
theorem rng_small {a b : Int} (ha : -1000000 ≤ a) (ha' : a ≤ 1000000) (hb : -1000000 ≤ b) (hb' : b ≤ 1000000) : Builtin.Range.small a b 1 = true := by
  unfold Builtin.Range.small Builtin.Range.rangeFitsLong
  rw [rangeSize_one]
  have h1 : (1 : Int) > 0 := by decide
  simp only [Bool.and_eq_true, Bool.or_eq_true, decide_eq_true_eq, h1, if_true]
  refine ⟨⟨⟨⟨⟨?_, ?_⟩, ?_, ?_⟩, by decide, by decide⟩, ?_⟩, .inr ⟨?_, ?_⟩⟩
  all_goals first | omega | (split <;> omega)
theorem Src.range {a b : Int} {r : Addr} {t u v : Tok} {N : Nat} (hr : g r = some (rngO a b t u v)) (ha : -1000000 ≤ a) (ha' : a ≤ 1000000) (hb : -1000000 ≤ b) (hb' : b ≤ 1000000) (hN : (b - a).toNat = N) :
    Src W n g (.ref r) N (fun i v => ∃ t, v = .int (a + i) t) (fun _ => False) := by
  intro A s E fr L l Q ok i K
  have hR : IsRange s.heap r a b 1 t u v := i.sub _ _ hr
  refine wpAny_pyIter_range hR (rng_small ha ha' hb hb') ?_
  obtain ⟨h1, h2, h3, h4, h5⟩ := Src.mkI i (o := { cls := .type "range_iterator", data := .fields #[rawInt a, rawInt (Builtin.Range.rangeSize a b 1), rawInt 1] }) rfl
  have Wk := Walks.range (prog := W.prog) (w := W.w) ok.hh s.heap.objs.size a 1 N
  have hsz : Builtin.Range.rangeSize a b 1 = (N : Int) := by rw [rangeSize_one]; split <;> omega
  refine K s.heap.objs.size [] (fun i h => IsRangeIter h s.heap.objs.size (a + i * 1) ((N : Int) - i) 1) _ s.toks h1 h2 h3 h4 h5 ?_ (fun b hb => by cases hb) ?_ (fun j h st => ⟨_, st⟩) (fun target v j s E Q st q => let_plain st rfl rfl (by decide) target v q)
  · have := Wk
    simp only [Int.mul_one] at this ⊢
    exact this
  · show IsRangeIter _ _ _ _ _
    rw [hsz]
    simpa using Heap.get?_push_size _ rfl

theorem tail_base {prog : Program} {w : World} {A : Around} {E : Value → Shared → Prop} {s : Shared} {value slice : Expr} {x : Str} {q : Pos} {o k : Value} {Q : Value → Shared → Prop} (h : wpAny (model prog w) A (subscriptTail (.Name x q) slice o k) Q E s) :
    wpAny (model prog w) A (subscriptTail value slice o k) Q E s := fun Γ p hΓ => by
  have h := h Γ p hΓ
  unfold subscriptTail at h ⊢
  simp only [Sem.wp_bind'] at h ⊢
  refine Sem.wp_mono _ _ _ (fun b p₁ s₁ h₁ => Sem.wp_mono _ _ _ (fun r p₂ s₂ h₂ => ?_) (fun _ _ _ e => e) _ _ h₁) (fun _ _ _ e => e) _ _ h
  exact wpAny_letTemporaryGo (Q := fun _ s => Q r s) h₂ Γ p₂ hΓ
def LW (g : Gh) (a : Addr) (vs : List Value) : Prop := ∃ o, g a = some o ∧ o.cls = .type "list" ∧ ∃ n, o.data = .seq vs.toArray n
theorem LI.lw {a : Addr} {vs : List Value} (h : LI g a vs) : LW g a vs := let ⟨k, e⟩ := h; ⟨_, e, rfl, k, rfl⟩
theorem LW.is {a : Addr} {vs : List Value} {fr : Gh} {L : Addr} {h : Heap} (hl : LW g a vs) (i : In W fr g L l h) : h.IsList a vs.toArray := let ⟨o, e, c, k, d⟩ := hl; ⟨o, i.sub _ _ e, c, k, d⟩
theorem R_slice {lo hi : Option Expr} {value : Expr} {sp pos : Pos} {Q : Value → Gh → Lm → Prop}
    (h : R W n env g l (eval value env) fun o g' l' => R W n env g' l' (valueOrNone (evalOpt lo env)) fun vl g' l' => R W n env g' l' (valueOrNone (evalOpt hi env)) fun vu g' l' =>
      ∃ a vs x y, o = .ref a ∧ LW g' a vs ∧ vs.length ≤ 1000000 ∧ IsPart vl x ∧ IsPart vu y ∧ ∀ D, g' D = none → W.B.get? D = none → Q (.ref D) (up g' D (lstO (kms_pick vs x y) 0)) l') :
    R W n env g l (eval (.Subscript value (.Slice lo hi none sp) pos) env) Q := by
  intro A s E fr ok i
  refine Subscript_ (h.next ok i fun o s₁ g₁ l₁ i₁ e₁ q => ?_)
  have he : eval (.Slice lo hi none sp) env = (do
    let l ← valueOrNone (evalOpt lo env)
    let u ← holding [l] (valueOrNone (evalOpt hi env))
    let s ← holding [l, u] (valueOrNone (evalOpt none env))
    newFields "slice" [l, u, s]) := rfl
  rw [he]
  refine wpAny_bind (q.next ok i₁ fun vl s₂ g₂ l₂ i₂ e₂ q => wpAny_bind (wpAny_holding (q.next ok i₂ fun vu s₃ g₃ l₃ i₃ e₃ q => wpAny_bind (wpAny_holding (wpAny_pure ?_)))))
  obtain ⟨a, vs, x, y, rfl, hl, hz, px, py, hQ⟩ := q
  refine wpAny_newObj_type ?_
  have hls := hl.is i₃
  obtain ⟨m, F, hm⟩ := i₃.fr'
  -- by a name, then the temporary
  have hT : wpAny (model W.prog W.w) A (subscriptTail (.Name (Str.ofString "a") pos) (.Slice lo hi none sp) (.ref a) (.ref s₃.heap.objs.size)) (fun v s' => ∃ g' l', In W fr g' env.locals l' s'.heap ∧ Same s s' ∧ Q v g' l') E
      { s₃ with heap := s₃.heap.push { cls := .type "slice", dict := none, data := .fields #[vl, vu, .none] } } := by
    refine kms_slice_lit F i₃.news hls px py (zs := kms_pick vs x y) rfl (fun D h' F' N' l1 => ?_) rfl (fun _ => rfl) (by rw [List.size_toArray, sizeLine_eq]; omega)
    obtain ⟨gD, BD, i'⟩ := i₃.born hm F' N' (fun _ hp => hp) l1
    exact ⟨_, l₃, i', ((e₁.trans e₂).trans e₃).trans (Same.mk' s₃ _ _), hQ D gD BD⟩
  exact tail_base hT
end
end

section
open PySem.Spec
section
variable {α β : Type} {KK : Params → Frag} {W : Wd KK} {n : Nat} {env : Env} {g : Gh} {l : Lm}

theorem R_while {test : Expr} {body : List Stmt} {pos : Pos} {Q : Flow → Gh → Lm → Prop} (Inv : Nat → Gh → Lm → Prop) (N : Nat) (h0 : Inv N g l)
    (step : ∀ k g' l', Inv k g' l' → R W n env g' l' (isTrue test env (eval test env)) fun b g' l' => (b = false → Q .next g' l') ∧
      (b = true → R W n env g' l' (execs body env) (Turn Q fun g' l' => ∃ m, m < k ∧ Inv m g' l'))) : R W n env g l (exec (.While test body [] pos) env) Q := by
  intro A s E fr ok i
  refine wpAny_While (codeAny_whileLoop (fun k s' => ∃ g' l', In W fr g' env.locals l' s'.heap ∧ Same s s' ∧ Inv k g' l') ?_ N ⟨g, l, i, Same.refl s, h0⟩)
  rintro k s' ⟨g', l', i', e, inv⟩
  refine (step k g' l' inv).next ok i' fun b s₂ g₂ l₂ i₂ e₂ q => ?_
  cases b with
  | false =>
    simp only [Bool.false_eq_true, if_false]
    exact wpAny_execs_nil ⟨g₂, l₂, i₂, e.trans e₂, q.1 rfl⟩
  | true =>
    simp only [if_true]
    refine (q.2 rfl).next ok i₂ fun f s₃ g₃ l₃ i₃ e₃ q => ?_
    cases f with
    | next => obtain ⟨m, hm, q⟩ := q; exact ⟨m, hm, g₃, l₃, i₃, (e.trans e₂).trans e₃, q⟩
    | cont => obtain ⟨m, hm, q⟩ := q; exact ⟨m, hm, g₃, l₃, i₃, (e.trans e₂).trans e₃, q⟩
    | brk => exact ⟨g₃, l₃, i₃, (e.trans e₂).trans e₃, q⟩
    | ret v => exact ⟨g₃, l₃, i₃, (e.trans e₂).trans e₃, q⟩

theorem extSize {h h' : Heap} (e : Heap.ExtBut h.objs.size h h') : ∀ b o, h.get? b = some o → h'.get? b = some o := fun b o hb => e b o (Nat.ne_of_lt (Heap.lt_size hb)) hb

theorem R_aioNil {xs : List Value} {Q : Unit → Gh → Lm → Prop} (h : Q () g l) : R W n env g l (assignInOrder [] xs) Q := fun _ s _ _ _ i => assignInOrder_nil ⟨g, l, i, Same.refl s, h⟩
theorem R_aioCons {t : Value → Sem Unit} {ts : List (Value → Sem Unit)} {x : Value} {xs : List Value} {Q : Unit → Gh → Lm → Prop} (h : R W n env g l (t x) fun _ g' l' => R W n env g' l' (assignInOrder ts xs) Q) :
    R W n env g l (assignInOrder (t :: ts) (x :: xs)) Q := fun A s E fr ok i => assignInOrder_cons (h.next ok i fun _ _ _ _ i e q => q.go ok i e)
theorem R_toTuple {elts : List Expr} {k : Nat} {pos : Pos} {t : Addr} {vs : List Value} {Q : Unit → Gh → Lm → Prop} (ht : TU g t vs) (hn : (assignEach elts env).length = vs.length) (hs : (assignEach elts env).findIdx? (·.1) = none)
    (h : R W n env g l (assignInOrder ((assignEach elts env).map (·.2)) vs) Q) : R W n env g l (assign (.Tuple elts k pos) env (.ref t)) Q := fun A s E fr ok i =>
  assign_Tuple_tuple ok.hh (ht.is i) (by rw [hn, List.size_toArray]) hs fun h' he => h.go (s := { s with heap := h' }) ok (i.ext (extSize he)) (Same.mk' s _ _)
theorem R_toName {x : Str} {pos : Pos} {v : Value} {Q : Unit → Gh → Lm → Prop} (hk : env.scope.kind = .function) (hx : env.kindOf x = some .local) (h : Q () g ((x, v) :: l)) : R W n env g l (assign (.Name x pos) env v) Q := fun A s E fr ok i =>
  let ⟨m, hn, hm⟩ := i.ns
  PyProof.Rows.assign_Name (wpAny_storeName_local hx hn (fun h' hn' hs' => ⟨g, _, i.store hn hm hn' hs', Same.mk' s _ _, h⟩) (by rw [hk]; rfl))
theorem R_bindName {x : Str} {v : Value} {Q : Unit → Gh → Lm → Prop} (hk : env.scope.kind = .function) (hx : env.kindOf x = some .local) (h : Q () g ((x, v) :: l)) : R W n env g l (bindName env x v) Q := fun A s E fr ok i =>
  let ⟨m, hn, hm⟩ := i.ns
  wpAny_bindName (wpAny_storeName_local hx hn (fun h' hn' hs' => ⟨g, _, i.store hn hm hn' hs', Same.mk' s _ _, h⟩) (by rw [hk]; rfl))
theorem R_AssignTuple {elts : List Expr} {k : Nat} {tpos pos : Pos} {value : Expr} {Q : Flow → Gh → Lm → Prop}
    (hs : swapsWithSole [.Tuple elts k tpos] value pos.line env = pure false) (hw : swappedStores [.Tuple elts k tpos] value env = pure none)
    (h : R W n env g l (eval value env) fun v g' l' => R W n env g' l' (assign (.Tuple elts k tpos) env v) fun _ => Q .next) : R W n env g l (exec (.Assign [.Tuple elts k tpos] value pos) env) Q := fun A s E fr ok i =>
  Assign_Tuple (h.next ok i fun _ _ _ _ i e q => q.go ok i e) hs hw
theorem R_AssignSwapped {elts : List Expr} {k : Nat} {tpos pos : Pos} {value : Expr} {names : List Str} {Q : Flow → Gh → Lm → Prop}
    (hs : swapsWithSole [.Tuple elts k tpos] value pos.line env = pure false) (hw : swappedStores [.Tuple elts k tpos] value env = pure (some names))
    (h : R W n env g l (eval value env) fun v g' l' => ∃ t vs, v = .ref t ∧ TU g' t vs ∧ names.length = vs.length ∧ R W n env g' l' (assignInOrder (names.reverse.map fun n => bindName env n) vs.reverse) fun _ => Q .next) :
    R W n env g l (exec (.Assign [.Tuple elts k tpos] value pos) env) Q := fun A s E fr ok i =>
  Assign_Tuple_swapped (h.next ok i fun v s₁ g₁ l₁ i₁ e₁ q => by
    obtain ⟨t, vs, rfl, ht, hn, q⟩ := q
    rw [hn]
    have := unpackItems_tuple (prog := W.prog) (w := W.w) (E := E) (Q := fun items s₂ => wpAny (model W.prog W.w) A (assignInOrder (names.reverse.map fun n => bindName env n) items.reverse) (fun _ s' => ∃ g' l', In W fr g' env.locals l' s'.heap ∧ Same s s' ∧ Q .next g' l') E s₂) ok.hh (ht.is i₁) fun h' he =>
      q.go (s := { s₁ with heap := h' }) ok (i₁.ext (extSize he)) (e₁.trans (Same.mk' s₁ _ _))
    simpa using this) hs hw

def DIo (W : Wd KK) (kvs : List (Int × Value)) (o : Obj) : Prop := o.IsDictOf (intKind W.prog W.w) kvs
def DI (W : Wd KK) (g : Gh) (d : Addr) (kvs : List (Int × Value)) : Prop := ∃ o, g d = some o ∧ DIo W kvs o
def emptyD : Obj := { cls := .type "dict", data := .dict #[] }
theorem DIo.nil : DIo W [] emptyD := ⟨#[], 0, ⟨rfl, rfl, rfl⟩, rfl, fun _ h => by simp at h, .nil, List.nodup_nil⟩
theorem DI.is {d : Addr} {kvs : List (Int × Value)} {fr : Gh} {L : Addr} {h : Heap} (hd : DI W g d kvs) (i : In W fr g L l h) : h.DictOf (intKind W.prog W.w) d kvs := let ⟨o, ho, hd⟩ := hd; Heap.dictOf_iff.mpr ⟨o, i.sub _ _ ho, hd⟩
theorem intKind_isI {k : Int} {t : Tok} {prog : Program} {w : World} : (intKind prog w).is k (.int k t) = true := by show Value.isInt k (.int k t) = true; simp [Value.isInt]

theorem In.notModules {fr : Gh} {L : Addr} {h : Heap} (i : In W fr g L l h) : (h.objs.size == sysModules) = false := by
  obtain ⟨m, F, _⟩ := i.fr'
  exact F.notModules (modules_low W.nolimit)
theorem R_emptyDict {pos : Pos} {Q : Value → Gh → Lm → Prop} (h : ∀ d, (d == sysModules) = false → g d = none → W.B.get? d = none → Q (.ref d) (up g d emptyD) l) : R W n env g l (eval (.Dict [] [] pos) env) Q := fun A s E fr ok i =>
  let ⟨h1, h2, _, h4⟩ := i.push (o := emptyD) rfl
  wpAny_Dict_empty ⟨_, l, h4, Same.mk' s _ _, h _ i.notModules h1 h2⟩

theorem R_setI {d : Addr} {kvs : List (Int × Value)} {k : Int} {u : Tok} {v : Value} {o : Obj} {Q : Unit → Gh → Lm → Prop} (ho : g d = some o) (hd : DIo W kvs o) (hB : W.B.get? d = none) (hz : kvs.length ≤ 1000000)
    (h : ∀ o', DIo W (stored kvs k v) o' → Q () (up g d o') l) : R W n env g l (setItem (.ref d) (.int k u) v) Q := fun A s E fr ok i =>
  wpAny_setItem_pairs (knd := intKind W.prog W.w) intKind_isI (DI.is ⟨o, ho, hd⟩ i) (fun h' hm hs => by
    obtain ⟨o', ho', hd'⟩ := Heap.dictOf_iff.mp hm
    exact ⟨_, l, i.change ho hB hs ho', Same.mk' s _ _, h o' hd'⟩) (by rw [sizeLine_eq]; omega)
theorem R_dsetI {d : Addr} {kvs : List (Int × Value)} {k : Int} {u : Tok} {v : Value} {o : Obj} {Q : Unit → Gh → Lm → Prop} (ho : g d = some o) (hd : DIo W kvs o) (hB : W.B.get? d = none) (hz : kvs.length ≤ 1000000)
    (h : ∀ o', DIo W (stored kvs k v) o' → Q () (up g d o') l) : R W n env g l (dictSet d (.int k u) v) Q := fun A s E fr ok i =>
  wpAny_dictSet_pairs (knd := intKind W.prog W.w) intKind_isI (DI.is ⟨o, ho, hd⟩ i) (fun h' hm hs => by
    obtain ⟨o', ho', hd'⟩ := Heap.dictOf_iff.mp hm
    exact ⟨_, l, i.change ho hB hs ho', Same.mk' s _ _, h o' hd'⟩) (by rw [sizeLine_eq]; omega)
theorem R_itemI {value slice : Expr} {d : Addr} {kvs : List (Int × Value)} {k : Int} {u : Tok} {v : Value} {Q : Value → Gh → Lm → Prop} (hd : DI W g d kvs) (hv : valueAt kvs k = some v)
    (hs : subscripted slice false (.ref d) (.int k u) = operate [.ref d, .int k u] (getItem (.ref d) (.int k u))) (h : Q v g l) : R W n env g l (subscriptTail value slice (.ref d) (.int k u)) Q := fun A s E fr ok i =>
  tail_any (hd.is i).typeIs slot_dict_getitem.lookup (wpAny_getItem_of (knd := intKind W.prog W.w) intKind_isI (hd.is i).mapOf hv ⟨g, l, i, Same.mk' s _ _, h⟩) hs
theorem R_getGetI {d : Addr} {kvs : List (Int × Value)} {pl : Sem Bool} {Q : Value × List Value → Gh → Lm → Prop} (hd : DI W g d kvs) (h : Q (.builtin "dict.get", [.ref d]) g l) : R W n env g l (getMethod (.ref d) (Str.ofString "get") pl) Q := fun A s E fr ok i =>
  getMethod_builtin (hd.is i).typeIs PySem.F.plainAttrs_dict PySem.F.slot_dict_get PySem.F.type_dict_get (hd.is i).mapOf.noDict ⟨g, l, i, Same.refl s, h⟩
theorem R_getI2 {d : Addr} {kvs : List (Int × Value)} {k : Int} {u : Tok} {x : Value} {Q : Value → Gh → Lm → Prop} (hd : DI W g d kvs) (lo : (d == sysModules) = false) (h : Q ((valueAt kvs k).getD x) g l) : R W n env g l (call (.builtin "dict.get") [.ref d, .int k u, x]) Q := fun A s E fr ok i =>
  call_meetsIn PySem.F.slot_dict_get (hd.is i).typeIs PySem.F.entry_dict_get (PySem.F.args_dict_get_3 _ _ _) (meets_dict_get_default (intKind W.prog W.w) d intKind_isI lo x) ⟨_, (hd.is i).mapOf, ⟨g, l, i, Same.mk' s _ _, h⟩⟩

abbrev Tk (W : Wd KK) := tupleKind (intKind W.prog W.w)
structure DTo (W : Wd KK) (xs : List (List Int × Addr × Value)) (o : Obj) : Prop where
  dict : o.ExactDict
  nodup : (xs.map (·.1)).Nodup
  data : ∃ es ep, o.data = .dict es ep ∧ es.toList = xs.map (entryOfKey (Tk W))
def KeyT (W : Wd KK) (g : Gh) (ks : List Int) (a : Addr) : Prop := ∃ vs, TU g a vs ∧ ItemsAre (intKind W.prog W.w) ks vs
structure DT (W : Wd KK) (g : Gh) (d : Addr) (xs : List (List Int × Addr × Value)) : Prop where
  obj : ∃ o, g d = some o ∧ DTo W xs o
  keys : ∀ x ∈ xs, KeyT W g x.1 x.2.1
theorem DTo.nil : DTo W [] emptyD := ⟨⟨rfl, rfl, rfl⟩, List.nodup_nil, #[], 0, rfl, rfl⟩
theorem KeyT.is {ks : List Int} {a : Addr} {fr : Gh} {L : Addr} {h : Heap} (k : KeyT W g ks a) (i : In W fr g L l h) : (Tk W).is h ks a :=
  let ⟨vs, ⟨c, e⟩, hi⟩ := k; ⟨_, vs.toArray, c, i.sub _ _ e, rfl, rfl, hi⟩
theorem DT.is {d : Addr} {xs : List (List Int × Addr × Value)} {fr : Gh} {L : Addr} {h : Heap} (hd : DT W g d xs) (i : In W fr g L l h) : h.DictOfH (Tk W) d xs :=
  let ⟨o, ho, hc, hn, es, ep, hda, he⟩ := hd.obj
  ⟨o, es, ep, i.sub _ _ ho, hc, hda, he, fun x hx => (hd.keys x hx).is i, hn⟩
theorem Ok.tk {A : Around} (ok : Ok A n) : (Tk W).room A.in1 := tupleKind_room_in1 (by have := ok.units; show A.units + 1 < 9900; omega)
theorem Ok.tk0 {A : Around} (ok : Ok A n) : (Tk W).room A := by have := ok.units; show A.units < 9900; omega
theorem R_setT {d a : Addr} {xs : List (List Int × Addr × Value)} {ks : List Int} {v : Value} {Q : Unit → Gh → Lm → Prop} (hd : DT W g d xs) (hk : KeyT W g ks a) (hB : W.B.get? d = none) (hz : xs.length ≤ 1000000)
    (h : ∀ o', DTo W (storedH xs ks a v) o' → Q () (up g d o') l) : R W n env g l (setItem (.ref d) (.ref a) v) Q := fun A s E fr ok i => by
  obtain ⟨o, ho, _⟩ := hd.obj
  refine wpAny_setItem_heap (hsz := by rw [sizeLine_eq]; omega) (knd := Tk W) ok.tk (hk.is i) (hd.is i) fun h' hm hs => ?_
  obtain ⟨o', es', ep', ho', hc', hd', he', _, hn'⟩ := hm
  exact ⟨_, l, i.change ho hB hs ho', Same.mk' s _ _, h o' ⟨hc', hn', es', ep', hd', he'⟩⟩
theorem R_dsetT {d a : Addr} {xs : List (List Int × Addr × Value)} {ks : List Int} {v : Value} {Q : Unit → Gh → Lm → Prop} (hd : DT W g d xs) (hk : KeyT W g ks a) (hB : W.B.get? d = none) (hz : xs.length ≤ 1000000)
    (h : ∀ o', DTo W (storedH xs ks a v) o' → Q () (up g d o') l) : R W n env g l (dictSet d (.ref a) v) Q := fun A s E fr ok i => by
  obtain ⟨o, ho, _⟩ := hd.obj
  refine wpAny_dictSet_heap (hsz := by rw [sizeLine_eq]; omega) (knd := Tk W) ok.tk0 (hk.is i) (hd.is i) fun h' hm hs => ?_
  obtain ⟨o', es', ep', ho', hc', hd', he', _, hn'⟩ := hm
  exact ⟨_, l, i.change ho hB hs ho', Same.mk' s _ _, h o' ⟨hc', hn', es', ep', hd', he'⟩⟩
theorem R_notInD {d a : Addr} {xs : List (List Int × Addr × Value)} {ks : List Int} {Q : Value → Gh → Lm → Prop} (hd : DT W g d xs) (hk : KeyT W g ks a) (lo : (d == sysModules) = false) (h : Q (.bool (!(atKey xs ks).isSome)) g l) :
    R W n env g l (compareOp .NotIn (.ref a) (.ref d)) Q := fun A s E fr ok i => wpAny_notIn_heap (knd := Tk W) ok.tk (hk.is i) lo (hd.is i) ⟨g, l, i, Same.mk' s _ _, h⟩
theorem R_dItemT {value slice : Expr} {d a : Addr} {xs : List (List Int × Addr × Value)} {ks : List Int} {p : Addr × Value} {Q : Value → Gh → Lm → Prop} (hd : DT W g d xs) (hk : KeyT W g ks a) (hp : atKey xs ks = some p)
    (hs : subscripted slice false (.ref d) (.ref a) = operate [.ref d, .ref a] (getItem (.ref d) (.ref a))) (h : Q p.2 g l) : R W n env g l (subscriptTail value slice (.ref d) (.ref a)) Q := fun A s E fr ok i =>
  tail_any (hd.is i).typeIs slot_dict_getitem.lookup (wpAny_getItem_heap (knd := Tk W) ok.tk (hk.is i) (hd.is i) hp ⟨g, l, i, Same.mk' s _ _, h⟩) hs
theorem R_getGetT {d : Addr} {xs : List (List Int × Addr × Value)} {pl : Sem Bool} {Q : Value × List Value → Gh → Lm → Prop} (hd : DT W g d xs) (h : Q (.builtin "dict.get", [.ref d]) g l) : R W n env g l (getMethod (.ref d) (Str.ofString "get") pl) Q := fun A s E fr ok i =>
  getMethod_builtin (hd.is i).typeIs PySem.F.plainAttrs_dict PySem.F.slot_dict_get PySem.F.type_dict_get (dictOfH_noDict (hd.is i)) ⟨g, l, i, Same.refl s, h⟩
theorem R_getT1 {d a : Addr} {xs : List (List Int × Addr × Value)} {ks : List Int} {Q : Value → Gh → Lm → Prop} (hd : DT W g d xs) (hk : KeyT W g ks a) (lo : (d == sysModules) = false) (h : Q (((atKey xs ks).map (·.2)).getD .none) g l) :
    R W n env g l (call (.builtin "dict.get") [.ref d, .ref a]) Q := fun A s E fr ok i =>
  call_meetsIn PySem.F.slot_dict_get (hd.is i).typeIs PySem.F.entry_dict_get (PySem.F.args_dict_get_2 _ _) (meetsH_dict_get (Tk W) d a lo) ⟨ok.tk, ks, xs, hk.is i, hd.is i, ⟨g, l, i, Same.mk' s _ _, h⟩⟩

theorem R_eqD {a b : Value} {da db : PyData} {Q : Value → Gh → Lm → Prop} (ra : ∀ h : Heap, (∀ c o, g c = some o → h.get? c = some o) → ∃ as, Reads h a da as) (rb : ∀ h : Heap, (∀ c o, g c = some o → h.get? c = some o) → ∃ bs, Reads h b db bs)
    (ha : SeqAt.shaped da = true) (hb : SeqAt.shaped db = true) (h : Q (.bool (PyData.eqv da db)) g l) : R W n env g l (compareOp .Eq a b) Q := fun A s E fr ok i =>
  let ⟨_, ra⟩ := ra s.heap i.sub
  let ⟨_, rb⟩ := rb s.heap i.sub
  eq_dataH ra rb ha hb (by have := ok.units; show A.units + 64 < 9900; omega) ⟨g, l, i, Same.refl s, h⟩
theorem R_neD {a b : Value} {da db : PyData} {Q : Value → Gh → Lm → Prop} (ra : ∀ h : Heap, (∀ c o, g c = some o → h.get? c = some o) → ∃ as, Reads h a da as) (rb : ∀ h : Heap, (∀ c o, g c = some o → h.get? c = some o) → ∃ bs, Reads h b db bs)
    (ha : SeqAt.shaped da = true) (hb : SeqAt.shaped db = true) (h : Q (.bool (!PyData.eqv da db)) g l) : R W n env g l (compareOp .NotEq a b) Q := fun A s E fr ok i =>
  let ⟨_, ra⟩ := ra s.heap i.sub
  let ⟨_, rb⟩ := rb s.heap i.sub
  ne_dataH ra rb ha hb (by have := ok.units; show A.units + 64 < 9900; omega) ⟨g, l, i, Same.refl s, h⟩
end
end

section
open PySem.Spec
theorem list_noKeys : typeLookup (.type "list") (Str.ofString "keys") = pure none := am_miss_of_fast (by kernel_rfl)
theorem noKeys {prog : Program} {w : World} {A : Around} {E : Value → Shared → Prop} {s : Shared} {a : Addr} {xs : Array Value} {k : Nat} {Q : Option Value → Shared → Prop}
    (hx : s.heap.get? a = some { cls := .type "list", data := .seq xs k }) (hA : A.handled = none)
    (h : ∀ h' tk, (∀ b o, s.heap.get? b = some o → h'.get? b = some o) → Q none { s with heap := h', toks := tk }) : wpAny (model prog w) A (getAttr? (.ref a) (Str.ofString "keys")) Q E s := by
  obtain ⟨hp, g, d, tk, os⟩ := s
  have hT : ∀ tk', (⟨hp, g, d, tk', os⟩ : Shared).TypeIs (.ref a) "list" := fun _ => ⟨_, hx, rfl⟩
  have f1 := sub_AttributeError
  have f3 := F.slot_list_getattribute.lookup
  have f4 := F.slot_list_getattribute.bind (.ref a)
  have f5 := am_list_getattr_none
  unfold getAttr? getAttrBy? getAttrBy
  repeat (any_goals (first | assumption | exact hT _ | ((with_reducible show wpAny _ _ (call (Value.builtin "list.__getattribute__") _ _) _ _ _); refine call_meets F.slot_list_getattribute (hT _) am_entry_list_getattribute (F.args_list_getattribute_2 _ _) (meets_getattribute_miss_list a xs k #[] (Str.ofString "keys") _ list_noKeys (by decide)) ⟨hx, hA, fun h' tk' e hx' => ?_⟩) | wp_step))
  obtain ⟨t', u', he⟩ := hx'.there
  show wpAny _ _ (getattributeRaised _ _ _ _ _ _ _) _ _ _
  unfold getattributeRaised
  repeat (any_goals (first | assumption | wp_step))
  exact h _ _ hx'.keeps
end

section
open PySem.Spec
theorem entry_dul : entryFor table "dict.update.loop" = some Builtin.«dict.update.loop» := entryFor_of_tree (by kernel_rfl)
theorem plain_dul : plainId "dict.update.loop" = true := by decide +kernel
section
variable {α β : Type} {KK : Params → Frag} {W : Wd KK} {n : Nat} {env : Env} {g : Gh} {l : Lm}

theorem Ok.in1 {A : Around} (ok : Ok A (n + 1)) : Ok A.in1 n := ⟨ok.hh, by have := ok.depth; show A.depth + n < 500; omega, by have := ok.units; show A.units + 1 + 8 * n < 8000; omega⟩
theorem Ok.in3 {A : Around} (ok : Ok A (n + 1)) : Ok A.in1.in1.in1 n := ⟨ok.hh, by have := ok.depth; show A.depth + n < 500; omega, by have := ok.units; show A.units + 1 + 1 + 1 + 8 * n < 8000; omega⟩

theorem pairsLoop {A : Around} {fr : Gh} {a D I : Addr} {src : List Addr} {vs : List Value} {s₀ : Shared} {St : Nat → Heap → Prop} {J : Nat → Gh → Prop} {R : Result → Shared → Prop} {g₁ : Gh} {S : Addr → Prop}
    (ok : Ok A.in1 n) (Wk : Walks W.prog W.w A.in1 I (I :: src) [I] vs.length (fun i v => vs[i]? = some v) St) (hS : ∀ b ∈ src, S b) (hSg : ∀ b, S b → ∃ o, g₁ b = some o)
    (live : ∀ i h, St i h → ∃ o, h.get? I = some o) (fI : fr I = none) (IL : I ≠ env.locals)
    (hfr : ∀ i g', J i g' → ∀ b o, S b → g₁ b = some o → g' b = some o)
    (step : ∀ i g', i < vs.length → J i g' → ∃ t k v, vs[i]? = some (.ref t) ∧ TU g' t [k, v] ∧ Mine.R W n env g' l (dictSet D k v) fun _ g'' l' => l' = l ∧ J (i + 1) g'')
    (done : ∀ g' s', J vs.length g' → In W fr g' env.locals l s'.heap → Same s₀ s' → R (.ok (.ret .none)) s') :
    ∀ (k j : Nat) (s : Shared) (g' : Gh) (o : Obj), vs.length - j = k → j ≤ vs.length → In W (up fr I o) g' env.locals l s.heap → St j s.heap → J j g' → Same s₀ s →
      codeAny (model W.prog W.w) A (.builtin "dict.update.loop" ⟨[.ref D, .ref I, rawInt j, .none], []⟩) R s := by
  intro k
  induction k with
  | zero =>
    intro j s g' o hk hj i st inv e
    obtain rfl : j = vs.length := by omega
    have iF := i.dropF fI
    have gI' : g' I = none := i.apart I o up_same
    refine codeAny_builtin entry_dul ?_
    rw [Around.under_plainId plain_dul _]
    show wpAny _ A.in1 (pyNext (.ref I) >>= _) _ _ s
    refine wpAny_bind (Wk.done s _ _ st fun h' tk hk' => ?_)
    show wpAny _ A.in1 (Builtin.Dict.addKeywords D [] >>= fun _ => ret Value.none) _ _ _
    refine wpAny_bind (wpAny_pure (wpAny_pure ?_))
    exact done g' _ inv (iF.step0 gI' fI IL fun b x hb q => hk' b x (fun hm => hb (List.mem_singleton.mp hm)) q) (e.trans (Same.mk' s h' tk))
  | succ k ih =>
    intro j s g' o hk hj i st inv e
    have hlt : j < vs.length := by omega
    have iF := i.dropF fI
    have gI' : g' I = none := i.apart I o up_same
    refine codeAny_builtin entry_dul ?_
    rw [Around.under_plainId plain_dul _]
    show wpAny _ A.in1 (pyNext (.ref I) >>= _) _ _ s
    refine wpAny_bind (Wk.item j s _ _ hlt st fun v h₂ tk₂ hP st₂ hk₂ => ?_)
    obtain ⟨o₂, ho₂⟩ := live _ _ st₂
    have i₃ : In W (up fr I o₂) g' env.locals l h₂ := iF.step gI' fI IL (fun b x hb q => hk₂ b x (fun hm => hb (List.mem_singleton.mp hm)) q) ho₂
    obtain ⟨t, kv, vv, hv, htu, hset⟩ := step j g' hlt inv
    rw [hv] at hP
    cases hP
    have htup := htu.is i₃
    obtain ⟨ot, hot, hct, ct, hdt⟩ := htup
    show wpAny _ A.in1 (holding [Value.ref t] _ >>= _) _ _ _
    refine wpAny_bind (wpAny_holding ?_)
    refine wpAny_bind (wpAny_tryCatch ?_)
    unfold Builtin.Dict.pairItems
    refine wpAny_bind (wpAny_typeOf (T := "tuple") (s := { s with heap := h₂, toks := tk₂ }) ⟨ot, hot, hct⟩ ?_)
    rw [if_pos (by decide)]
    refine wpAny_bind (wpAny_seqItems hot hdt (wpAny_pure ?_))
    show wpAny _ A.in1 (holding [kv, vv] (dictSet D kv vv)) _ _ _
    refine wpAny_holding (hset.next (s := { s with heap := h₂, toks := tk₂ }) ok i₃ fun _ s₃ g₃ l₃ i₄ e₃ q => ?_)
    obtain ⟨rfl, q⟩ := q
    show wpAny _ A.in1 (pure _) _ _ _
    refine wpAny_pure ⟨plainId_quiet plain_dul _, ?_⟩
    have es : Same s₀ s₃ := (e.trans (Same.mk' s h₂ tk₂)).trans e₃
    show codeAny _ A (.builtin "dict.update.loop" ⟨[.ref D, .ref I, rawInt ((j : Int) + 1), .none], []⟩) R s₃
    rw [show ((j : Int) + 1) = ((j + 1 : Nat) : Int) from by omega]
    refine ih (j + 1) s₃ g₃ o₂ (by omega) hlt i₄ (Wk.frame _ _ _ st₂ fun b hb x hx => ?_) q es
    rcases List.mem_cons.mp hb with rfl | hb
    · rw [ho₂] at hx; cases hx; exact i₄.fsub _ _ up_same
    · obtain ⟨ob, hob⟩ := hSg b (hS b hb)
      have e1 := i₃.sub b ob (hfr _ _ inv b ob (hS b hb) hob)
      rw [hx] at e1; cases e1
      exact i₄.sub b x (hfr _ _ q b x (hS b hb) hob)

theorem R_dictOf {a : Addr} {vs : List Value} {Q : Value → Gh → Lm → Prop} (hl : LI g a vs) (J : Addr → Nat → Gh → Prop)
    (h0 : ∀ D, (D == sysModules) = false → g D = none → W.B.get? D = none → J D 0 (up g D emptyD))
    (hfr : ∀ D i g' o, J D i g' → g a = some o → g' a = some o)
    (step : ∀ D i g', i < vs.length → J D i g' → ∃ t k v, vs[i]? = some (.ref t) ∧ TU g' t [k, v] ∧ R W n env g' l (dictSet D k v) fun _ g'' l' => l' = l ∧ J D (i + 1) g'')
    (done : ∀ D g', J D vs.length g' → Q (.ref D) g' l) : R W (n + 1) env g l (call (.type "dict") [.ref a]) Q := by
  intro A s E fr ok i
  obtain ⟨c, hc⟩ := hl
  refine callType_codes (Q₁ := fun obj s₁ => obj = .ref s.heap.objs.size ∧ s₁ = { s with heap := s.heap.push emptyD }) F.kt_called_dict (F.kt_typeCall_dict_1 _) F.entry_dict_init (kt_code_dict_new _ ⟨rfl, rfl⟩) ?_
  rintro obj s₁ ⟨rfl, rfl⟩
  obtain ⟨gD, BD, DL, i₁⟩ := i.push (o := emptyD) rfl
  have lo := i.notModules
  generalize hD : s.heap.objs.size = D at gD BD DL i₁ lo
  have hT : Shared.TypeIs { s with heap := s.heap.push emptyD } (.ref D) "dict" := ⟨_, i₁.sub _ _ up_same, rfl⟩
  refine ⟨hT, F.args_dict_init_2 _ _, ?_⟩
  unfold Builtin.«dict.__init__»
  refine wpAny_bind ?_
  unfold Builtin.Dict.selfAndRest
  refine wpAny_bind (wpAny_notOrdered_dict hT ?_)
  show wpAny _ _ (pure (D, [Value.ref a])) _ _ _
  refine wpAny_pure ?_
  show wpAny _ _ (Builtin.Dict.updateFrom "dict.__init__" D (.ref a) [] .none) _ _ _
  unfold Builtin.Dict.updateFrom
  have ha : (s.heap.push emptyD).get? a = some (lstO vs c) := i₁.sub _ _ (up_old gD hc)
  refine wpAny_bind (wpAny_typeOf (T := "list") ⟨_, ha, rfl⟩ ?_)
  rw [if_pos (by decide)]
  refine wpAny_bind (noKeys (s := { s with heap := s.heap.push emptyD }) ha ok.hh fun h' tk hk => ?_)
  rw [if_pos (by rfl)]
  refine wpAny_bind (wpAny_rule ?_)
  have i₂ := i₁.ext hk
  have ha₂ := hk _ _ ha
  refine wpAny_bind ?_
  have hls : h'.IsList a vs.toArray := ⟨_, ha₂, rfl, c, rfl⟩
  refine wpAny_pyIter_list hls ?_
  obtain ⟨h1, h2, h3, h4, h5⟩ := Src.mkI i₂ (o := { cls := .type "list_iterator", data := .fields #[.ref a, .int 0 0] }) rfl
  have hne : a ≠ h'.objs.size := Nat.ne_of_lt (Heap.lt_size ha₂)
  have Wk := Walks.list (prog := W.prog) (w := W.w) (A := A.in1.in1) ok.hh h'.objs.size a hne vs.toArray
  simp only [List.size_toArray] at Wk
  have hio : (h'.push { cls := .type "list_iterator", data := .fields #[.ref a, .int 0 0] }).get? h'.objs.size = some { cls := .type "list_iterator", data := .fields #[.ref a, .int 0 0] } := Heap.get?_push_size _ rfl
  refine wpAny_pure ?_
  refine ⟨plainId_quiet plain_dul _, ?_⟩
  show codeAny _ A.in1 (.builtin "dict.update.loop" ⟨[.ref D, .ref h'.objs.size, rawInt (0 : Nat), .none], []⟩) _ _
  refine pairsLoop (W := W) (n := n) (env := env) (l := l) (A := A.in1) (fr := fr) (a := a) (src := [a]) (s₀ := s) (J := J D) (g₁ := g) (S := fun b => b = a) (St := fun j h => h.IsListIter h'.objs.size a j ∧ h.IsList a vs.toArray) ⟨ok.hh, by have := ok.depth; show A.depth + n < 500; omega, by have := ok.units; show A.units + 1 + 1 + 8 * n < 8000; omega⟩
    (by simpa using Wk) (fun b hb => List.mem_singleton.mp hb) (fun b hb => by subst hb; exact ⟨_, hc⟩) (fun j h st => let ⟨o, ho, _⟩ := st.1; ⟨o, ho⟩) h3 h4 (fun j g' inv b o hb e => by subst hb; exact hfr D j g' o inv e)
    (fun j g' hj inv => step D j g' hj inv) (fun g' s' inv i' e => ⟨rfl, g', l, i', e, done D g' inv⟩) _ 0 { s with heap := h'.push _, toks := tk } (up g D emptyD) _ rfl (Nat.zero_le _) (h5.step h1 h3 h4 (fun _ _ _ e => e) hio)
    ⟨⟨_, hio, rfl, rfl⟩, hls.at fun o e => Heap.get?_push_of_some _ e⟩ (h0 D lo gD BD) (Same.mk' s _ _)
end
end

section
open PySem.Spec
def Rw (h : Heap) (d : Addr) (es : Array DictEntry) (ep : Nat) : Prop := ∃ o, h.get? d = some o ∧ o.ExactDict ∧ o.data = .dict es ep
section
variable {prog : Program} {w : World} {A : Around} {E : Value → Shared → Prop} {s : Shared} {it d : Addr} {es : Array DictEntry} {i ep : Nat}
theorem Rw.type (x : Rw s.heap d es ep) : s.TypeIs (.ref d) "dict" := let ⟨o, ho, hc, _⟩ := x; ⟨o, ho, hc.1⟩
theorem rw_iter {Q : Value → Shared → Prop} (lo : (d == sysModules) = false) (x : Rw s.heap d es ep)
    (hQ : Q (.ref s.heap.objs.size) { s with heap := s.heap.push { cls := .type "dict_keyiterator", data := .fields #[.ref d, .int 0 0, .int es.size 0, .int ep 0] } }) : wpAny (model prog w) A (pyIter (.ref d)) Q E s := by
  obtain ⟨o, ho, hc, hd⟩ := id x
  refine wpAny_pyIter_slot x.type F.slot_dict_iter (wpAny_call_entry F.slot_dict_iter x.type F.entry_dict_iter ?_ (F.args_dict_iter_1 _))
  unfold Builtin.«dict.__iter__» Builtin.Dict.dictSlotNone
  refine wpAny_bind (wpAny_bind (wpAny_notOrdered_dict x.type ?_))
  refine wpAny_pure ?_
  show wpAny _ _ (Builtin.Dict.showsAll d >>= _) _ _ s
  unfold Builtin.Dict.showsAll
  rw [lo]
  refine wpAny_bind (wpAny_pure (wpAny_bind (wpAny_dictEntries ho hd (wpAny_bind (wpAny_dictEpoch ho hd ?_)))))
  exact wpAny_bind (wpAny_newObj_type (wpAny_pure ⟨_, rfl, "dict_keyiterator", _, ⟨_, Heap.get?_push_size _ rfl, rfl⟩, F.slot_dict_keyiterator_next.lookup, hQ⟩))


theorem rw_nextK {e : DictEntry} {Q : Option Value → Shared → Prop} (hit : s.heap.IsKeyIter it d i es.size ep) (x : Rw s.heap d es ep) (he : es[i]? = some e)
    (hQ : ∀ h', h'.IsKeyIter it d (i + 1) es.size ep → Heap.SameBut it s.heap h' → Q (some e.key) { s with heap := h' }) : wpAny (model prog w) A (pyNext (.ref it)) Q E s := by
  obtain ⟨o, ho, hc, hd⟩ := id hit
  obtain ⟨od, hod, hcd, hdd⟩ := id x
  have own : Builtin.Dict_items.ownsTuple "dict_keyiterator" = false := by decide
  have hlt : i < es.size := (Array.getElem?_eq_some_iff.mp he).1
  unfold pyNext
  refine wpAny_bind (wpAny_attempt (wpAny_callSpecial?_slot (name := Str.ofString "__next__") hit.typeIs F.slot_dict_keyiterator_next
    (wpAny_call_entry F.slot_dict_keyiterator_next hit.typeIs F.entry_dict_keyiterator_next ?_ (F.args_dict_keyiterator_next_1 _))))
  refine wpAny_bind (wpAny_pure (wpAny_bind (wpAny_bind (wpAny_bind (wpAny_typeNameOfWhole_keyiter hit.typeIs (wpAny_pure (wpAny_bind (wpAny_fieldsOf ho hd ?_))))))))
  simp only [own, Bool.false_eq_true, if_false]
  show wpAny _ _ (if (Value.ref d == Value.none) = true then _ else _) _ _ s
  rw [if_neg (show ¬ ((Value.ref d == Value.none) = true) from Bool.false_ne_true)]
  refine wpAny_bind (wpAny_pure (wpAny_bind (wpAny_dictEntries hod hdd ?_)))
  rw [if_neg (by simp)]
  refine wpAny_bind (wpAny_pure (wpAny_bind (wpAny_dictEpoch hod hdd ?_)))
  rw [if_neg (by simp)]
  refine wpAny_pure ?_
  simp only [show ¬ ((i : Int) < 0) from by omega, if_false, Int.toNat_natCast, he]
  refine wpAny_bind (wpAny_bind (wpAny_typeNameOfWhole_keyiter hit.typeIs (wpAny_pure (wpAny_bind (wpAny_isOneOf_keyiter hit.typeIs ?_)))))
  show wpAny _ _ (setField (.ref it) 1 (rawInt ((i : Int) + 1)) >>= _) _ _ s
  refine wpAny_bind (wpAny_setField ho hd (by simp) ?_)
  have hit' : (s.heap.update it (Obj.mapFields (·.setIfInBounds 1 (rawInt ((i : Int) + 1))))).IsKeyIter it d (i + 1) es.size ep :=
    ⟨_, Heap.get?_update_self _ ho (Obj.isFreed_of_fields (Obj.data_mapFields hd _)), (Obj.cls_mapFields ..).trans hc, by rw [Obj.data_mapFields hd]; simp [rawInt]⟩
  refine wpAny_bind (wpAny_holding ?_)
  refine wpAny_bind (wpAny_isOneOf_keyiter (s := { s with heap := s.heap.update it (Obj.mapFields (·.setIfInBounds 1 (rawInt ((i : Int) + 1)))) }) hit'.typeIs ?_)
  show wpAny _ _ (pure e.key) _ _ _
  exact wpAny_pure (wpAny_pure ⟨_, rfl, wpAny_pure (hQ _ hit' (Heap.SameBut.update ..))⟩)
theorem rw_endK {Q : Option Value → Shared → Prop} (hh : A.handled = none) (hit : s.heap.IsKeyIter it d es.size es.size ep) (x : Rw s.heap d es ep)
    (hQ : ∀ h', Heap.ExtBut it s.heap h' → Q none { s with heap := h' }) : wpAny (model prog w) A (pyNext (.ref it)) Q E s := by
  obtain ⟨o, ho, hc, hd⟩ := id hit
  obtain ⟨od, hod, hcd, hdd⟩ := id x
  have own : Builtin.Dict_items.ownsTuple "dict_keyiterator" = false := by decide
  unfold pyNext
  refine wpAny_bind (wpAny_attempt (wpAny_callSpecial?_slot (name := Str.ofString "__next__") hit.typeIs F.slot_dict_keyiterator_next
    (wpAny_call_entry F.slot_dict_keyiterator_next hit.typeIs F.entry_dict_keyiterator_next ?_ (F.args_dict_keyiterator_next_1 _))))
  refine wpAny_bind (wpAny_pure (wpAny_bind (wpAny_bind (wpAny_bind (wpAny_typeNameOfWhole_keyiter hit.typeIs (wpAny_pure (wpAny_bind (wpAny_fieldsOf ho hd ?_))))))))
  simp only [own, Bool.false_eq_true, if_false]
  show wpAny _ _ (if (Value.ref d == Value.none) = true then _ else _) _ _ s
  rw [if_neg (show ¬ ((Value.ref d == Value.none) = true) from Bool.false_ne_true)]
  refine wpAny_bind (wpAny_pure (wpAny_bind (wpAny_dictEntries hod hdd ?_)))
  rw [if_neg (by simp)]
  refine wpAny_bind (wpAny_pure (wpAny_bind (wpAny_dictEpoch hod hdd ?_)))
  rw [if_neg (by simp)]
  refine wpAny_pure ?_
  have none' : es[es.size]? = none := by simp
  simp only [show ¬ ((es.size : Int) < 0) from by omega, if_false, Int.toNat_natCast, none']
  refine wpAny_bind (wpAny_bind (wpAny_typeNameOfWhole_keyiter hit.typeIs (wpAny_pure ?_)))
  show wpAny _ _ (setField (.ref it) 0 .none >>= _) _ _ s
  refine wpAny_bind (wpAny_setField ho hd (by simp) ?_)
  show wpAny _ _ (newExc (.type "StopIteration") [] >>= _) _ _ _
  refine wpAny_bind ?_
  simp only [newExc, newTuple]
  refine wpAny_bind (wpAny_newObj_type ?_ (by size_fits))
  refine wpAny_bind (m := firstArgMember _ _) (wpAny_of_eq (a := Value.none) (by first | rfl | (simp only [firstArgMember]; rfl)) ?_)
  refine wpAny_newObj_type ?_ (by size_fits)
  simp only [raiseNew]
  refine wpAny_bind (wpAny_handled ?_)
  rw [show A.in1.handled = none from hh]
  refine wpAny_bind (wpAny_pure (wpAny_throw ?_))
  refine wpAny_bind (wpAny_isInstance (T := "StopIteration") (b := true) ⟨_, Heap.get?_push_size _ rfl, rfl⟩ isSubtype_stop ?_)
  exact wpAny_pure (hQ _ (((Heap.SameBut.update ..).extBut.push _).push _))

theorem rw_nextV {e : DictEntry} {Q : Option Value → Shared → Prop} (hit : s.heap.IsValIter it d i es.size ep) (x : Rw s.heap d es ep) (he : es[i]? = some e)
    (hQ : ∀ h', h'.IsValIter it d (i + 1) es.size ep → Heap.SameBut it s.heap h' → Q (some e.val) { s with heap := h' }) : wpAny (model prog w) A (pyNext (.ref it)) Q E s := by
  obtain ⟨o, ho, hc, hd⟩ := id hit
  obtain ⟨od, hod, hcd, hdd⟩ := id x
  have own : Builtin.Dict_items.ownsTuple "dict_valueiterator" = false := by decide
  have hlt : i < es.size := (Array.getElem?_eq_some_iff.mp he).1
  unfold pyNext
  refine wpAny_bind (wpAny_attempt (wpAny_callSpecial?_slot (name := Str.ofString "__next__") hit.typeIs F.slot_dict_valueiterator_next
    (wpAny_call_entry F.slot_dict_valueiterator_next hit.typeIs F.entry_dict_valueiterator_next ?_ (F.args_dict_valueiterator_next_1 _))))
  refine wpAny_bind (wpAny_pure (wpAny_bind (wpAny_bind (wpAny_bind (wpAny_typeNameOfWhole_valiter hit.typeIs (wpAny_pure (wpAny_bind (wpAny_fieldsOf ho hd ?_))))))))
  simp only [own, Bool.false_eq_true, if_false]
  show wpAny _ _ (if (Value.ref d == Value.none) = true then _ else _) _ _ s
  rw [if_neg (show ¬ ((Value.ref d == Value.none) = true) from Bool.false_ne_true)]
  refine wpAny_bind (wpAny_pure (wpAny_bind (wpAny_dictEntries hod hdd ?_)))
  rw [if_neg (by simp)]
  refine wpAny_bind (wpAny_pure (wpAny_bind (wpAny_dictEpoch hod hdd ?_)))
  rw [if_neg (by simp)]
  refine wpAny_pure ?_
  simp only [show ¬ ((i : Int) < 0) from by omega, if_false, Int.toNat_natCast, he]
  refine wpAny_bind (wpAny_bind (wpAny_typeNameOfWhole_valiter hit.typeIs (wpAny_pure (wpAny_bind (wpAny_isOneOf_valiter hit.typeIs ?_)))))
  show wpAny _ _ (setField (.ref it) 1 (rawInt ((i : Int) + 1)) >>= _) _ _ s
  refine wpAny_bind (wpAny_setField ho hd (by simp) ?_)
  have hit' : (s.heap.update it (Obj.mapFields (·.setIfInBounds 1 (rawInt ((i : Int) + 1))))).IsValIter it d (i + 1) es.size ep :=
    ⟨_, Heap.get?_update_self _ ho (Obj.isFreed_of_fields (Obj.data_mapFields hd _)), (Obj.cls_mapFields ..).trans hc, by rw [Obj.data_mapFields hd]; simp [rawInt]⟩
  refine wpAny_bind (wpAny_holding ?_)
  refine wpAny_bind (wpAny_isOneOf_valiter (s := { s with heap := s.heap.update it (Obj.mapFields (·.setIfInBounds 1 (rawInt ((i : Int) + 1)))) }) hit'.typeIs ?_)
  refine wpAny_bind (wpAny_isOneOf_valiter (s := { s with heap := s.heap.update it (Obj.mapFields (·.setIfInBounds 1 (rawInt ((i : Int) + 1)))) }) hit'.typeIs ?_)
  show wpAny _ _ (pure e.val) _ _ _
  exact wpAny_pure (wpAny_pure ⟨_, rfl, wpAny_pure (hQ _ hit' (Heap.SameBut.update ..))⟩)
theorem rw_endV {Q : Option Value → Shared → Prop} (hh : A.handled = none) (hit : s.heap.IsValIter it d es.size es.size ep) (x : Rw s.heap d es ep)
    (hQ : ∀ h', Heap.ExtBut it s.heap h' → Q none { s with heap := h' }) : wpAny (model prog w) A (pyNext (.ref it)) Q E s := by
  obtain ⟨o, ho, hc, hd⟩ := id hit
  obtain ⟨od, hod, hcd, hdd⟩ := id x
  have own : Builtin.Dict_items.ownsTuple "dict_valueiterator" = false := by decide
  unfold pyNext
  refine wpAny_bind (wpAny_attempt (wpAny_callSpecial?_slot (name := Str.ofString "__next__") hit.typeIs F.slot_dict_valueiterator_next
    (wpAny_call_entry F.slot_dict_valueiterator_next hit.typeIs F.entry_dict_valueiterator_next ?_ (F.args_dict_valueiterator_next_1 _))))
  refine wpAny_bind (wpAny_pure (wpAny_bind (wpAny_bind (wpAny_bind (wpAny_typeNameOfWhole_valiter hit.typeIs (wpAny_pure (wpAny_bind (wpAny_fieldsOf ho hd ?_))))))))
  simp only [own, Bool.false_eq_true, if_false]
  show wpAny _ _ (if (Value.ref d == Value.none) = true then _ else _) _ _ s
  rw [if_neg (show ¬ ((Value.ref d == Value.none) = true) from Bool.false_ne_true)]
  refine wpAny_bind (wpAny_pure (wpAny_bind (wpAny_dictEntries hod hdd ?_)))
  rw [if_neg (by simp)]
  refine wpAny_bind (wpAny_pure (wpAny_bind (wpAny_dictEpoch hod hdd ?_)))
  rw [if_neg (by simp)]
  refine wpAny_pure ?_
  have none' : es[es.size]? = none := by simp
  simp only [show ¬ ((es.size : Int) < 0) from by omega, if_false, Int.toNat_natCast, none']
  refine wpAny_bind (wpAny_bind (wpAny_typeNameOfWhole_valiter hit.typeIs (wpAny_pure ?_)))
  show wpAny _ _ (setField (.ref it) 0 .none >>= _) _ _ s
  refine wpAny_bind (wpAny_setField ho hd (by simp) ?_)
  show wpAny _ _ (newExc (.type "StopIteration") [] >>= _) _ _ _
  refine wpAny_bind ?_
  simp only [newExc, newTuple]
  refine wpAny_bind (wpAny_newObj_type ?_ (by size_fits))
  refine wpAny_bind (m := firstArgMember _ _) (wpAny_of_eq (a := Value.none) (by first | rfl | (simp only [firstArgMember]; rfl)) ?_)
  refine wpAny_newObj_type ?_ (by size_fits)
  simp only [raiseNew]
  refine wpAny_bind (wpAny_handled ?_)
  rw [show A.in1.handled = none from hh]
  refine wpAny_bind (wpAny_pure (wpAny_throw ?_))
  refine wpAny_bind (wpAny_isInstance (T := "StopIteration") (b := true) ⟨_, Heap.get?_push_size _ rfl, rfl⟩ isSubtype_stop ?_)
  exact wpAny_pure (hQ _ (((Heap.SameBut.update ..).extBut.push _).push _))

theorem rw_iterV {v : Addr} {Q : Value → Shared → Prop} (hv : s.heap.IsValuesView v d) (x : Rw s.heap d es ep)
    (hQ : Q (.ref s.heap.objs.size) { s with heap := s.heap.push { cls := .type "dict_valueiterator", data := .fields #[.ref d, .int 0 0, .int es.size 0, .int ep 0] } }) : wpAny (model prog w) A (pyIter (.ref v)) Q E s := by
  obtain ⟨ov, hov, hcv, hdv⟩ := id hv
  obtain ⟨o, ho, hc, hd⟩ := id x
  have own : Builtin.Dict_items.ownsTuple "dict_valueiterator" = false := by decide
  refine wpAny_pyIter_slot hv.typeIs F.slot_dict_values_iter (wpAny_call_entry F.slot_dict_values_iter hv.typeIs F.entry_dict_values_iter ?_ (F.args_dict_values_iter_1 _))
  unfold Builtin.«dict_values.__iter__» Builtin.Dict_items.dictOf Builtin.Dict_items.newIterator
  refine wpAny_bind (wpAny_pure ?_)
  refine wpAny_bind (wpAny_bind (wpAny_field hov hdv (x := .ref d) rfl (wpAny_pure ?_)))
  refine wpAny_bind (wpAny_bind (wpAny_dictEntries ho hd (wpAny_bind (wpAny_dictEpoch ho hd ?_))))
  simp only [own, Bool.false_eq_true, if_false]
  exact wpAny_newObj_type (wpAny_pure ⟨_, rfl, "dict_valueiterator", _, ⟨_, Heap.get?_push_size _ rfl, rfl⟩, F.slot_dict_valueiterator_next.lookup, hQ⟩)
theorem Rw.at {h h' : Heap} (x : Rw h d es ep) (e : ∀ o, h.get? d = some o → h'.get? d = some o) : Rw h' d es ep := let ⟨o, ho, r⟩ := x; ⟨o, e _ ho, r⟩

theorem rw_walkK (hh : A.handled = none) (I : Addr) (hne : d ≠ I) : Walks prog w A I [I, d] [I] es.size (fun i v => ∃ e, es[i]? = some e ∧ v = e.key) (fun i h => h.IsKeyIter I d i es.size ep ∧ Rw h d es ep) where
  sub := fun b hb => by simp at hb; simp [hb]
  frame := fun _ _ _ st hk => ⟨st.1.at fun o e => hk I (by simp) o e, st.2.at fun o e => hk d (by simp) o e⟩
  item := fun i s Q E hi st hQ => by
    have he : es[i]? = some es[i] := by simp [hi]
    exact rw_nextK st.1 st.2 he fun h' hit' hs' => hQ _ h' s.toks ⟨_, he, rfl⟩ ⟨hit', st.2.at fun o e => (hs'.2 d hne).trans e⟩ fun b o hb e => hs'.extBut b o (fun h => hb (by simp [h])) e
  done := fun s Q E st hQ => rw_endK hh st.1 st.2 fun h' he' => hQ h' s.toks fun b o hb e => he' b o (fun h => hb (by simp [h])) e
  self := fun _ _ _ _ st hQ => wpAny_pyIter_keyiter st.1 hQ
theorem rw_walkV (hh : A.handled = none) (I : Addr) (hne : d ≠ I) : Walks prog w A I [I, d] [I] es.size (fun i v => ∃ e, es[i]? = some e ∧ v = e.val) (fun i h => h.IsValIter I d i es.size ep ∧ Rw h d es ep) where
  sub := fun b hb => by simp at hb; simp [hb]
  frame := fun _ _ _ st hk => ⟨st.1.at fun o e => hk I (by simp) o e, st.2.at fun o e => hk d (by simp) o e⟩
  item := fun i s Q E hi st hQ => by
    have he : es[i]? = some es[i] := by simp [hi]
    exact rw_nextV st.1 st.2 he fun h' hit' hs' => hQ _ h' s.toks ⟨_, he, rfl⟩ ⟨hit', st.2.at fun o e => (hs'.2 d hne).trans e⟩ fun b o hb e => hs'.extBut b o (fun h => hb (by simp [h])) e
  done := fun s Q E st hQ => rw_endV hh st.1 st.2 fun h' he' => hQ h' s.toks fun b o hb e => he' b o (fun h => hb (by simp [h])) e
  self := fun _ _ _ _ st hQ => wpAny_pyIter_valiter st.1 hQ
end
end

section
open PySem.Spec
section
variable {α β : Type} {KK : Params → Frag} {W : Wd KK} {n : Nat} {env : Env} {g : Gh} {l : Lm}

def RwG (g : Gh) (d : Addr) (es : Array DictEntry) (ep : Nat) : Prop := ∃ o, g d = some o ∧ o.ExactDict ∧ o.data = .dict es ep
theorem RwG.is {d : Addr} {es : Array DictEntry} {ep : Nat} {fr : Gh} {L : Addr} {h : Heap} (x : RwG g d es ep) (i : In W fr g L l h) : Rw h d es ep := let ⟨o, ho, r⟩ := x; ⟨o, i.sub _ _ ho, r⟩
theorem DT.rw {d : Addr} {xs : List (List Int × Addr × Value)} (x : DT W g d xs) : ∃ es ep, RwG g d es ep ∧ es.toList = xs.map (entryOfKey (Tk W)) :=
  let ⟨o, ho, hc, _, es, ep, hd, he⟩ := x.obj; ⟨es, ep, ⟨o, ho, hc, hd⟩, he⟩
theorem DI.rw {d : Addr} {kvs : List (Int × Value)} (x : DI W g d kvs) : ∃ es ep, RwG g d es ep ∧ Pairs (intKind W.prog W.w) es.toList kvs :=
  let ⟨o, ho, es, ep, hc, hd, _, hp, _⟩ := x; ⟨es, ep, ⟨o, ho, hc, hd⟩, hp⟩

theorem Src.keys {d : Addr} {es : Array DictEntry} {ep : Nat} (lo : (d == sysModules) = false) (x : RwG g d es ep) : Src W n g (.ref d) es.size (fun i v => ∃ e, es[i]? = some e ∧ v = e.key) (fun b => b = d) := by
  intro A s E fr L l Q ok i K
  have hx := x.is i
  refine rw_iter lo hx ?_
  obtain ⟨h1, h2, h3, h4, h5⟩ := Src.mkI i (o := { cls := .type "dict_keyiterator", data := .fields #[.ref d, .int 0 0, .int es.size 0, .int ep 0] }) rfl
  obtain ⟨o, ho, _⟩ := x
  exact K s.heap.objs.size [d] (fun i h => h.IsKeyIter s.heap.objs.size d i es.size ep ∧ Rw h d es ep) _ s.toks h1 h2 h3 h4 h5 (rw_walkK ok.hh s.heap.objs.size (ne_get ho h1)) (fun b hb => List.mem_singleton.mp hb)
    ⟨⟨_, Heap.get?_push_size _ rfl, rfl, rfl⟩, hx.at fun o e => Heap.get?_push_of_some _ e⟩ (fun j h st => let ⟨o, ho, _⟩ := st.1; ⟨o, ho⟩)
    (fun target v j s E Q st q => let ⟨o, ho, hc, hd⟩ := st.1; let_plain ho hc hd (by decide) target v q)
def viewO (d : Addr) : Obj := { cls := .type "dict_values", data := .fields #[.ref d] }
theorem Src.values {v d : Addr} {es : Array DictEntry} {ep : Nat} (hv : g v = some (viewO d)) (x : RwG g d es ep) : Src W n g (.ref v) es.size (fun i v => ∃ e, es[i]? = some e ∧ v = e.val) (fun b => b = d) := by
  intro A s E fr L l Q ok i K
  have hx := x.is i
  refine rw_iterV ⟨_, i.sub _ _ hv, rfl, rfl⟩ hx ?_
  obtain ⟨h1, h2, h3, h4, h5⟩ := Src.mkI i (o := { cls := .type "dict_valueiterator", data := .fields #[.ref d, .int 0 0, .int es.size 0, .int ep 0] }) rfl
  obtain ⟨o, ho, _⟩ := x
  exact K s.heap.objs.size [d] (fun i h => h.IsValIter s.heap.objs.size d i es.size ep ∧ Rw h d es ep) _ s.toks h1 h2 h3 h4 h5 (rw_walkV ok.hh s.heap.objs.size (ne_get ho h1)) (fun b hb => List.mem_singleton.mp hb)
    ⟨⟨_, Heap.get?_push_size _ rfl, rfl, rfl⟩, hx.at fun o e => Heap.get?_push_of_some _ e⟩ (fun j h st => let ⟨o, ho, _⟩ := st.1; ⟨o, ho⟩)
    (fun target v j s E Q st q => let ⟨o, ho, hc, hd⟩ := st.1; let_plain ho hc hd (by decide) target v q)
theorem R_getValues {d : Addr} {es : Array DictEntry} {ep : Nat} {pl : Sem Bool} {Q : Value × List Value → Gh → Lm → Prop} (x : RwG g d es ep) (h : Q (.builtin "dict.values", [.ref d]) g l) : R W n env g l (getMethod (.ref d) (Str.ofString "values") pl) Q := fun A s E fr ok i =>
  getMethod_builtin (x.is i).type PySem.F.plainAttrs_dict PySem.F.slot_dict_values PySem.F.type_dict_values (fun b e => by cases e; exact let ⟨o, ho, hc, _⟩ := x.is i; ⟨o, ho, hc.2.1⟩) ⟨g, l, i, Same.refl s, h⟩
theorem R_values {d : Addr} {es : Array DictEntry} {ep : Nat} {Q : Value → Gh → Lm → Prop} (lo : (d == sysModules) = false) (x : RwG g d es ep) (h : ∀ v, g v = none → W.B.get? v = none → Q (.ref v) (up g v (viewO d)) l) :
    R W n env g l (call (.builtin "dict.values") [.ref d]) Q := fun A s E fr ok i => by
  obtain ⟨h1, h2, _, h4⟩ := i.push (o := viewO d) rfl
  have M : MeetsIn W.prog W.w (Builtin.«dict.values» ⟨[.ref d], []⟩) (fun _ R s => s.TypeIs (.ref d) "dict" ∧ R (.ok (.ret (.ref s.heap.objs.size))) { s with heap := s.heap.push (viewO d) }) := .of_wp fun A R s ⟨hT, h⟩ => by
    refine wpAny_bind ?_
    unfold Builtin.Dict.noArgs
    refine wpAny_bind (wpAny_notOrdered_dict hT ?_)
    show wpAny _ _ (pure d) _ _ s
    refine wpAny_pure ?_
    show wpAny _ _ (Builtin.Dict.showsAll d >>= _) _ _ s
    unfold Builtin.Dict.showsAll
    rw [lo]
    exact wpAny_bind (wpAny_pure (wpAny_bind (wpAny_newObj_type (wpAny_pure ⟨_, rfl, h⟩))))
  exact call_meetsIn PySem.F.slot_dict_values (x.is i).type PySem.F.entry_dict_values (PySem.F.args_dict_values_1 _) M ⟨(x.is i).type, _, l, h4, Same.mk' s _ _, h _ h1 h2⟩

theorem R_dictDisp {keys : List (Option Expr)} {values : List Expr} {pos : Pos} {Q : Value → Gh → Lm → Prop} (hall : keys.all (·.isSome) = true) (hl : keys.length = values.length) (h0 : keys ≠ []) (hlen : keys.length ≤ 15)
    (h : ∀ d, (d == sysModules) = false → g d = none → W.B.get? d = none → R W n env (up g d emptyD) l (evalPairs (pairTrees keys values env pos)) fun vs g' l' => R W n env g' l' (storeAll d vs) fun _ => Q (.ref d)) : R W n env g l (eval (.Dict keys values pos) env) Q := fun A s E fr ok i =>
  let ⟨h1, h2, _, h4⟩ := i.push (o := emptyD) rfl
  wpAny_Dict_any hall hl h0 hlen ((h _ i.notModules h1 h2).next (s := { s with heap := s.heap.push emptyD }) ok h4 fun vs s₁ g₁ l₁ i₁ e₁ q => q.go ok i₁ ((Same.mk' s _ _).trans e₁))
theorem R_pairsNil {pos : Pos} {Q : List (Value × Value) → Gh → Lm → Prop} (h : Q [] g l) : R W n env g l (evalPairs (pairTrees [] [] env pos)) Q := fun _ s _ _ _ i => pairTrees_nil_walk ⟨g, l, i, Same.refl s, h⟩
theorem R_pairsCons {k v : Expr} {ks : List (Option Expr)} {vs : List Expr} {pos : Pos} {Q : List (Value × Value) → Gh → Lm → Prop}
    (h : R W n env g l (eval k env) fun kv g' l' => R W n env g' l' (eval v env) fun vv g' l' => R W n env g' l' (evalPairs (pairTrees ks vs env pos)) fun r => Q ((kv, vv) :: r)) : R W n env g l (evalPairs (pairTrees (some k :: ks) (v :: vs) env pos)) Q :=
  fun A s E fr ok i => pairTrees_cons_walk (h.next ok i fun _ _ _ _ i e q => q.next ok i fun _ _ _ _ i e' q => q.go ok i (e.trans e'))
theorem R_storeNil {d : Addr} {Q : PUnit → Gh → Lm → Prop} (h : Q PUnit.unit g l) : R W n env g l (storeAll d []) Q := by
  unfold storeAll; rw [List.forIn_nil]; exact R_pure h
theorem R_storeCons {d : Addr} {k v : Value} {r : List (Value × Value)} {Q : PUnit → Gh → Lm → Prop} (h : R W n env g l (dictSet d k v) fun _ g' l' => R W n env g' l' (storeAll d r) Q) : R W n env g l (storeAll d ((k, v) :: r)) Q := by
  unfold storeAll; rw [List.forIn_cons]
  exact R_bind (R_bind (R_mono h fun _ g' l' q => R_pure (by unfold storeAll at q; exact q)))

theorem ints_of {prog : Program} {w : World} {kvs : List (Int × Value)} : ∀ (vs : List Value) (ns : List Int), vs.length = ns.length → (∀ (j : Nat) (v : Value), vs[j]? = some v → ∃ k : Int, ns[j]? = some k ∧ (intKind prog w).is k v = true) → IntsAre vs ns
  | [], [], _, _ => .nil
  | [], _ :: _, h, _ => by simp at h
  | _ :: _, [], h, _ => by simp at h
  | v :: vs, k :: ns, h, hv => by
    obtain ⟨k', e, hk⟩ := hv 0 v rfl
    simp at e
    subst e
    obtain ⟨t, rfl⟩ := Value.isInt_shape hk
    exact .cons k t (ints_of (prog := prog) (w := w) (kvs := kvs) vs ns (by simpa using h) fun j v e => hv (j + 1) v e)
theorem R_sortedI {d : Addr} {kvs : List (Int × Value)} {Q : Value → Gh → Lm → Prop} (hd : DI W g d kvs) (lo : (d == sysModules) = false) (hz : kvs.length < 64)
    (h : ∀ D vs ns c, g D = none → W.B.get? D = none → IntsAre vs ns → ns.Perm (kvs.map (·.1)) → ns.Pairwise (· ≤ ·) → Q (.ref D) (up g D (lstO vs c)) l) : R W n env g l (call (.builtin "sorted") [.ref d]) Q := by
  intro A s E fr ok i
  obtain ⟨m, F, hm⟩ := i.fr'
  obtain ⟨ep, hat⟩ := (hd.is i).dictAt
  refine kdu_sorted (kdl_dict (knd := intKind W.prog W.w) (kvs := kvs) (ep := ep) lo) ok.hh F i.news hat (by rw [sizeLine_eq]; omega) fun D h' tk vs F' N' l1 hl hv => ?_
  have hi : IntsAre vs (kvs.map (·.1)) := ints_of (prog := W.prog) (w := W.w) (kvs := kvs) vs _ (by rw [hl, List.length_map]) fun j v e => by
    obtain ⟨k, x, hx, hk⟩ := hv j v e
    exact ⟨k, by rw [List.getElem?_map, hx]; rfl, hk⟩
  refine ksk_lsort (s := { s with heap := h', toks := tk }) F' N' (fun o => .head fun p hp e => absurd (l1 p hp) (by rw [e]; exact Nat.lt_irrefl _)) rfl hi (by rw [List.length_map]; exact hz) fun vs' ns' c h'' F'' N'' hi' hlen hperm hsort _ => ?_
  obtain ⟨gD, BD, i'⟩ := i.born hm F'' N'' (fun _ hp => hp) l1
  exact ⟨_, l, i', Same.mk' s _ _, h D vs' ns' c gD BD hi' hperm hsort⟩
end
end

section
open PySem.Spec
section
variable {α β : Type} {KK : Params → Frag} {W : Wd KK} {n : Nat} {env : Env} {g : Gh} {l : Lm}

def bodyOf (target : Expr) (ifs : List Expr) (cenv : Env) (I : Addr) (p : Pos) (tail : Sem Fin) (code : Code) : Sem Fin := do
  standAt p
  match ← pyNext (.ref I) with
  | none => pure (.done .next)
  | some v => do
    letOwnedTupleGo target (.ref I) v
    assign target cenv v
    let ok ← tests ifs cenv
    if ok then tail else again code

theorem genLoop {elt : Expr} {gens : List Comprehension} {scope : Scope} {pos p : Pos} {dp : Nat} {acc : Value} {target : Expr} {ifs : List Expr} {cenv : Env} {tail : Sem Fin} {A : Around} {s₀ : Shared} {fr g₁ : Gh} {I : Addr} {src : List Addr} {N : Nat} {P : Nat → Value → Prop} {S : Addr → Prop} {St : Nat → Heap → Prop}
    {Inv : Nat → Gh → Prop} {R : Result → Shared → Prop}
    (hturn : compTurn (.ListComp elt gens scope pos) dp (.ref I) acc cenv = bodyOf target ifs cenv I p tail (.compLoop (.ListComp elt gens scope pos) dp (.ref I) acc cenv))
    (ok : Ok A n) (fI : fr I = none) (IL : I ≠ cenv.locals)
    (Wk : Walks W.prog W.w A I (I :: src) [I] N P St) (hS : ∀ b ∈ src, S b) (live : ∀ i h, St i h → ∃ o, h.get? I = some o)
    (hlet : ∀ (target : Expr) (v : Value) (i : Nat) (s : Shared) (E : Value → Shared → Prop) (Q : Unit → Shared → Prop), St i s.heap → Q () s → wpAny (model W.prog W.w) A (letOwnedTupleGo target (.ref I) v) Q E s)
    (hSg : ∀ b, S b → ∃ o, g₁ b = some o) (hfr : ∀ i g', Inv i g' → ∀ b o, S b → g₁ b = some o → g' b = some o)
    (step : ∀ i v g', i < N → P i v → Inv i g' → Mine.R W n cenv g' [] (assign target cenv v) fun _ g' l' => Mine.R W n cenv g' l' (tests ifs cenv) fun ok g' l' =>
      (ok = true → Mine.R W n cenv g' l' tail fun f g' _ => f = .again (.compLoop (.ListComp elt gens scope pos) dp (.ref I) acc cenv) ∧ Inv (i + 1) g') ∧ (ok = false → Inv (i + 1) g'))
    (done : ∀ g' s', Inv N g' → In W fr g' cenv.locals [] s'.heap → Same s₀ s' → R (.ok .next) s')
    {s : Shared} {oI : Obj} (i : In W (up fr I oI) g₁ cenv.locals [] s.heap) (e₀ : Same s₀ s) (st0 : St 0 s.heap) (h0 : Inv 0 g₁) :
    codeAny (model W.prog W.w) A (.compLoop (.ListComp elt gens scope pos) dp (.ref I) acc cenv) R s := by
  refine codeAny_loop rfl (fun k s' => ∃ j g' o, k = N - j ∧ j ≤ N ∧ Same s₀ s' ∧ In W (up fr I o) g' cenv.locals [] s'.heap ∧ St j s'.heap ∧ Inv j g') ?_ N ⟨0, g₁, oI, rfl, Nat.zero_le _, e₀, i, st0, h0⟩
  rintro k s' ⟨j, g', o, rfl, hj, e, iI, st, inv⟩
  show wpAny _ A ((compTurn (.ListComp elt gens scope pos) dp (.ref I) acc cenv).onRaise (fun x => do noteFrame x cenv; theTreesLotGoes x)) _ _ s'
  refine wpAny_noted ?_
  rw [hturn]
  unfold bodyOf
  have gI' : g' I = none := iI.apart I o up_same
  have iF := iI.dropF fI
  refine wpAny_bind (wpAny_standAt ?_)
  by_cases hlt : j < N
  · refine wpAny_bind (Wk.item j s' _ _ hlt st fun v h₂ tk₂ hP st₂ hk₂ => ?_)
    obtain ⟨o₂, ho₂⟩ := live _ _ st₂
    have i₃ : In W (up fr I o₂) g' cenv.locals [] h₂ := iF.step gI' fI IL (fun b x hb q => hk₂ b x (fun hm => hb (List.mem_singleton.mp hm)) q) ho₂
    dsimp only
    refine wpAny_bind (hlet target v (j + 1) { s' with heap := h₂, toks := tk₂ } _ _ st₂ ?_)
    refine wpAny_bind ((step j v g' hlt hP inv).next (s := { s' with heap := h₂, toks := tk₂ }) ok i₃ fun _ s₃ g₃ l₃ i₄ e₃ q => wpAny_bind (q.next ok i₄ fun okb s₄ g₄ l₄ i₅ e₄ q => ?_))
    have on : ∀ {g'' : Gh} {l'' : Lm} {s'' : Shared}, In W (up fr I o₂) g'' cenv.locals l'' s''.heap → Same s₀ s'' → Inv (j + 1) g'' → ∃ m, m < N - j ∧ ∃ j' g' o, m = N - j' ∧ j' ≤ N ∧ Same s₀ s'' ∧ In W (up fr I o) g' cenv.locals [] s''.heap ∧ St j' s''.heap ∧ Inv j' g' := fun {g'' l'' s''} i₅ es q => by
      refine ⟨N - (j + 1), by omega, j + 1, g'', o₂, rfl, hlt, es, i₅.bare, Wk.frame _ _ _ st₂ fun b hb x hx => ?_, q⟩
      rcases List.mem_cons.mp hb with rfl | hb
      · rw [ho₂] at hx; cases hx; exact i₅.fsub _ _ up_same
      · obtain ⟨ob, hob⟩ := hSg b (hS b hb)
        have e1 := i₃.sub b ob (hfr _ _ inv b ob (hS b hb) hob)
        rw [hx] at e1; cases e1
        exact i₅.sub b x (hfr _ _ q b x (hS b hb) hob)
    have es : Same s₀ s₄ := ((e.trans (Same.mk' s' h₂ tk₂)).trans e₃).trans e₄
    cases okb with
    | false =>
      simp only [Bool.false_eq_true, if_false]
      exact wpAny_pure ⟨rfl, on i₅ es (q.2 rfl)⟩
    | true =>
      simp only [if_true]
      exact (q.1 rfl).next ok i₅ fun f s₅ g₅ l₅ i₆ e₅ q => by rw [q.1]; exact ⟨rfl, on i₆ (es.trans e₅) q.2⟩
  · have hN : j = N := by omega
    subst hN
    refine wpAny_bind (Wk.done _ _ _ st fun h₂ tk₂ hk₂ => wpAny_pure ?_)
    exact done g' _ inv (iF.step0 gI' fI IL fun b x hb q => hk₂ b x (fun hm => hb (List.mem_singleton.mp hm)) q) (e.trans (Same.mk' s' h₂ tk₂))

theorem turn1 (elt target iter : Expr) (ifs : List Expr) (scope : Scope) (pos : Pos) (I : Addr) (acc : Value) (cenv : Env) :
    compTurn (.ListComp elt [⟨target, iter, ifs, 0⟩] scope pos) 0 (.ref I) acc cenv = bodyOf target ifs cenv I iter.pos ((do let _ ← call (.builtin "list.append") [acc, ← eval elt cenv] : Sem Unit) >>= fun _ => again (.compLoop (.ListComp elt [⟨target, iter, ifs, 0⟩] scope pos) 0 (.ref I) acc cenv)) (.compLoop (.ListComp elt [⟨target, iter, ifs, 0⟩] scope pos) 0 (.ref I) acc cenv) := by rfl
theorem turnA (elt t₀ i₀ t₁ i₁ : Expr) (scope : Scope) (pos : Pos) (I : Addr) (acc : Value) (cenv : Env) :
    compTurn (.ListComp elt [⟨t₀, i₀, [], 0⟩, ⟨t₁, i₁, [], 0⟩] scope pos) 0 (.ref I) acc cenv = bodyOf t₀ [] cenv I i₀.pos (do
      let x ← eval i₁ cenv
      standAt i₁.pos
      let x ← foldedSetIterable i₁ cenv x
      let _ ← runOwn (.compStart (.ListComp elt [⟨t₀, i₀, [], 0⟩, ⟨t₁, i₁, [], 0⟩] scope pos) 1 (← holding [x] (pyIter x)) acc cenv) cenv
      again (.compLoop (.ListComp elt [⟨t₀, i₀, [], 0⟩, ⟨t₁, i₁, [], 0⟩] scope pos) 0 (.ref I) acc cenv)) (.compLoop (.ListComp elt [⟨t₀, i₀, [], 0⟩, ⟨t₁, i₁, [], 0⟩] scope pos) 0 (.ref I) acc cenv) := by rfl
theorem turnB (elt t₀ i₀ t₁ i₁ : Expr) (scope : Scope) (pos : Pos) (I : Addr) (acc : Value) (cenv : Env) :
    compTurn (.ListComp elt [⟨t₀, i₀, [], 0⟩, ⟨t₁, i₁, [], 0⟩] scope pos) 1 (.ref I) acc cenv = bodyOf t₁ [] cenv I i₁.pos ((do let _ ← call (.builtin "list.append") [acc, ← eval elt cenv] : Sem Unit) >>= fun _ => again (.compLoop (.ListComp elt [⟨t₀, i₀, [], 0⟩, ⟨t₁, i₁, [], 0⟩] scope pos) 1 (.ref I) acc cenv)) (.compLoop (.ListComp elt [⟨t₀, i₀, [], 0⟩, ⟨t₁, i₁, [], 0⟩] scope pos) 1 (.ref I) acc cenv) := by rfl
theorem start2 {A : Around} {s : Shared} {R : Result → Shared → Prop} {prog : Program} {w : World} {elt t₀ i₀ t₁ i₁ : Expr} {scope : Scope} {pos : Pos} {it acc : Value} {cenv : Env}
    (h0 : codeAny (model prog w) A (.compLoop (.ListComp elt [⟨t₀, i₀, [], 0⟩, ⟨t₁, i₁, [], 0⟩] scope pos) 1 it acc cenv) R s)
    (h : wpAny (model prog w) A (pyIter it) (fun it' s' => codeAny (model prog w) A (.compLoop (.ListComp elt [⟨t₀, i₀, [], 0⟩, ⟨t₁, i₁, [], 0⟩] scope pos) 1 it' acc cenv) R s') (notedBy (model prog w) A cenv fun x s' => R (.error x) s') s) :
    codeAny (model prog w) A (.compStart (.ListComp elt [⟨t₀, i₀, [], 0⟩, ⟨t₁, i₁, [], 0⟩] scope pos) 1 it acc cenv) R s := by
  refine codeAny_of_tree ?_
  show wpAny _ _ ((compStart (.ListComp elt [⟨t₀, i₀, [], 0⟩, ⟨t₁, i₁, [], 0⟩] scope pos) 1 it acc cenv).onRaise (fun x => do noteFrame x cenv; standAt theWindowsPlace)) _ _ s
  refine wpAny_notedAt ?_
  unfold compStart
  show wpAny _ _ (ask >>= _) _ _ s
  refine wpAny_bind (wpAny_askSetting (wpAny_ite ?_))
  split
  · first
      | exact wpAny_bind (wpAny_pure (wpAny_pure (And.intro rfl h0)))
      | exact wpAny_pure (And.intro rfl h0)
  · refine wpAny_bind (wpAny_rule ?_)
    show wpAny _ _ (standAt i₁.pos >>= _) _ _ s
    exact wpAny_bind (wpAny_standAt (wpAny_bind (wpAny_mono h (fun it' s' h' => wpAny_pure (And.intro rfl h')) fun _ _ x => x)))
end
end

section
open PySem.Spec
section
variable {α β : Type} {KK : Params → Frag} {W : Wd KK} {n : Nat} {env cenv : Env} {g : Gh} {l : Lm}

theorem R_tail1 {elt : Expr} {D : Addr} {code : Code} {Q : PySem.Fin → Gh → Lm → Prop}
    (h : R W n cenv g l (eval elt cenv) fun y g' l' => ∃ ys, LI g' D ys ∧ W.B.get? D = none ∧ ys.length ≤ 1000000 ∧ ∀ c, Q (.again code) (up g' D (lstO (ys ++ [y]) c)) l') :
    R W n cenv g l ((do let _ ← call (.builtin "list.append") [.ref D, ← eval elt cenv] : Sem Unit) >>= fun _ => again code) Q := by
  refine R_bind (R_bind (R_mono h fun y g' l' q => R_bind ?_))
  obtain ⟨ys, hl, hB, hz, q⟩ := q
  exact R_append hl hB hz fun c => R_pure (R_pure (q c))

theorem R_tail2 {elt t₀ i₀ i₁ : Expr} {x : Str} {px : Pos} {scope : Scope} {pos : Pos} {D I₀ : Addr} {Q : PySem.Fin → Gh → Lm → Prop} (hs : ∀ x, foldedSetIterable i₁ cenv x = pure x)
    (h : R W n cenv g l (eval i₁ cenv) fun v g₁ _ => ∃ (N : Nat) (P : Nat → Value → Prop) (S : Addr → Prop) (Inv : Nat → Gh → Prop), Src W n g₁ v N P S ∧ (∀ b, S b → ∃ o, g₁ b = some o) ∧ (∀ i g', Inv i g' → ∀ b o, S b → g₁ b = some o → g' b = some o) ∧ Inv 0 g₁ ∧
      (∀ i v g', i < N → P i v → Inv i g' → R W n cenv g' [] (assign (.Name x px) cenv v) fun _ g' l' => R W n cenv g' l' (eval elt cenv) fun y g'' _ => ∃ ys, LI g'' D ys ∧ W.B.get? D = none ∧ ys.length ≤ 1000000 ∧ ∀ c, Inv (i + 1) (up g'' D (lstO (ys ++ [y]) c))) ∧
      ∀ g', Inv N g' → Q (.again (.compLoop (.ListComp elt [⟨t₀, i₀, [], 0⟩, ⟨.Name x px, i₁, [], 0⟩] scope pos) 0 (.ref I₀) (.ref D) cenv)) g' []) :
    R W n cenv g l (do
      let x' ← eval i₁ cenv
      standAt i₁.pos
      let x' ← foldedSetIterable i₁ cenv x'
      let _ ← runOwn (.compStart (.ListComp elt [⟨t₀, i₀, [], 0⟩, ⟨.Name x px, i₁, [], 0⟩] scope pos) 1 (← holding [x'] (pyIter x')) (.ref D) cenv) cenv
      again (.compLoop (.ListComp elt [⟨t₀, i₀, [], 0⟩, ⟨.Name x px, i₁, [], 0⟩] scope pos) 0 (.ref I₀) (.ref D) cenv)) Q := by
  intro A s E fr ok i
  refine wpAny_bind (h.next ok i fun v s₁ g₁ l₁ i₁' e₁ q => wpAny_bind (wpAny_standAt (wpAny_bind (wpAny_of_eq (hs v) (wpAny_bind (wpAny_holding ?_))))))
  obtain ⟨N, P, S, Inv, hsrc, hSg, hkeep, h0, step, done⟩ := q
  refine hsrc A s₁ _ fr _ _ _ ok i₁' fun I src St h' tk gI BI fI IL i₂ Wk hS st0 live hlet => ?_
  refine wpAny_bind (wpAny_runOwn ?_)
  obtain ⟨oI, hoI⟩ := live 0 _ st0
  have i₃ := i₂.bare.step gI fI IL (fun _ _ _ e => e) hoI
  have loop : codeAny (model W.prog W.w) A (.compLoop (.ListComp elt [⟨t₀, i₀, [], 0⟩, ⟨.Name x px, i₁, [], 0⟩] scope pos) 1 (.ref I) (.ref D) cenv) _ { s₁ with heap := h', toks := tk } :=
    genLoop (s₀ := s) (Inv := Inv) (R := fun r s' => r = .ok .next ∧ ∃ g' l', In W fr g' cenv.locals l' s'.heap ∧ Same s s' ∧ Q (.again (.compLoop (.ListComp elt [⟨t₀, i₀, [], 0⟩, ⟨.Name x px, i₁, [], 0⟩] scope pos) 0 (.ref I₀) (.ref D) cenv)) g' l')
      (turnB ..) ok fI IL Wk hS live hlet hSg hkeep (fun j v g' hj hP inv => R_mono (step j v g' hj hP inv) fun _ g' l' q => R_tests0 ⟨fun _ => R_tail1 (R_mono q fun y g'' l'' q => by
        obtain ⟨ys, a, b, c, d⟩ := q
        exact ⟨ys, a, b, c, fun k => ⟨rfl, d k⟩⟩), fun e => by cases e⟩)
      (fun g' s' inv i' e => ⟨rfl, g', [], i', e, done g' inv⟩) i₃ (e₁.trans (Same.mk' s₁ h' tk)) st0 h0
  refine codeAny_mono (start2 loop (Wk.self 0 _ _ _ st0 loop)) fun r s' hr => ?_
  obtain ⟨rfl, g', l', i', e, q⟩ := hr
  exact wpAny_pure ⟨g', l', i', e, q⟩

theorem up_comm {a b : Addr} {o p : Obj} (h : a ≠ b) : up (up g a o) b p = up (up g b p) a o := by
  funext c
  by_cases q1 : c = a
  · subst q1; rw [up_ne h, up_same, up_same]
  · by_cases q2 : c = b
    · subst q2; rw [up_same, up_ne q1, up_same]
    · rw [up_ne q2, up_ne q1, up_ne q1, up_ne q2]

theorem R_comp2 {elt i₀ i₁ : Expr} {x y : Str} {px py : Pos} {scope : Scope} {cl : List (Str × Addr)} {pos : Pos} {Q : Value → Gh → Lm → Prop}
    (hs : ∀ x, foldedSetIterable i₀ env x = pure x) (hclos : closureFor scope env = pure cl) (hcell : (scope.names.all fun y => decide (y.2 ≠ .cell)) = true) (hkind : scope.kind = .function)
    (hnames : (scope.names.all fun y => decide (y.2 = .local → scope.names.lookup y.1 = some .local)) = true)
    (h : R W n env g l (eval i₀ env) fun v g₁ l₁ => ∃ (N : Nat) (P : Nat → Value → Prop) (S : Addr → Prop) (Inv : Addr → Nat → Gh → Prop), Src W n g₁ v N P S ∧ (∀ b, S b → ∃ o, g₁ b = some o) ∧
      (∀ D, g₁ D = none → W.B.get? D = none → (∀ i g', Inv D i g' → ∀ b o, S b → g₁ b = some o → g' b = some o) ∧ Inv D 0 (up g₁ D (lstO [] 0)) ∧
      (∀ C I i v g', i < N → P i v → Inv D i g' → R W n (compEnvC scope cl C env) g' [] (assign (.Name x px) (compEnvC scope cl C env) v) fun _ g' l' => R W n (compEnvC scope cl C env) g' l' (do
        let x' ← eval i₁ (compEnvC scope cl C env)
        standAt i₁.pos
        let x' ← foldedSetIterable i₁ (compEnvC scope cl C env) x'
        let _ ← runOwn (.compStart (.ListComp elt [⟨.Name x px, i₀, [], 0⟩, ⟨.Name y py, i₁, [], 0⟩] scope pos) 1 (← holding [x'] (pyIter x')) (.ref D) (compEnvC scope cl C env)) (compEnvC scope cl C env)
        again (.compLoop (.ListComp elt [⟨.Name x px, i₀, [], 0⟩, ⟨.Name y py, i₁, [], 0⟩] scope pos) 0 (.ref I) (.ref D) (compEnvC scope cl C env))) fun f g' _ => f = .again (.compLoop (.ListComp elt [⟨.Name x px, i₀, [], 0⟩, ⟨.Name y py, i₁, [], 0⟩] scope pos) 0 (.ref I) (.ref D) (compEnvC scope cl C env)) ∧ Inv D (i + 1) g') ∧
      ∀ g', Inv D N g' → Q (.ref D) g' l₁)) :
    R W n env g l (eval (.ListComp elt [⟨.Name x px, i₀, [], 0⟩, ⟨.Name y py, i₁, [], 0⟩] scope pos) env) Q := by
  intro A s E fr ok i
  have hc' : ∀ y ∈ scope.names, y.2 ≠ .cell := fun y hy => of_decide_eq_true (List.all_eq_true.mp hcell y hy)
  show wpAny _ A (comprehension (.ListComp elt [⟨.Name x px, i₀, [], 0⟩, ⟨.Name y py, i₁, [], 0⟩] scope pos) scope env _ (newList []) false (eval i₀ env) none) _ _ s
  refine wpAny_comprehension_free (use := none) rfl hs hclos hkind (fun y hy => of_decide_eq_true (List.all_eq_true.mp hnames y hy)) (h.next ok i fun v s₁ g₁ l₁ i₁' e₁ q => ?_)
  obtain ⟨N, P, S, Inv, hsrc, hSg, q⟩ := q
  refine hsrc A s₁ _ fr _ _ _ ok i₁' fun I src St h' tk gI BI fI IL i₂ Wk hS st0 live hlet => ?_
  obtain ⟨oI, hoI⟩ := live 0 _ st0
  have i₃ := i₂.step gI fI IL (fun _ _ _ e => e) hoI
  obtain ⟨gD, BD, DL, i₄⟩ := i₃.push (o := lstO [] 0) rfl
  refine wpAny_newObj_type (wpAny_newFunctionEnv hc' (by intro y hy; simp at hy) (fun h₁ hns₁ hsb₁ => ?_) hkind)
  dsimp only at hns₁ hsb₁ ⊢
  generalize hD : h'.objs.size = D at *
  generalize hH2 : h'.push { cls := .type "list", dict := none, data := .seq ([] : List Value).toArray } = H2 at hns₁ hsb₁ ⊢
  have i₄ : In W (up fr I oI) (up g₁ D (lstO [] 0)) env.locals l₁ H2 := by rw [← hH2]; exact i₄
  have keepH : ∀ b o, H2.get? b = some o → h₁.get? b = some o := fun b o e => hsb₁.extBut b o (Nat.ne_of_lt (Heap.lt_size e)) (Heap.get?_push_of_some _ e)
  obtain ⟨oL, hoL, i₅⟩ := i₄.enter (l' := []) keepH hns₁ (fun _ _ e => by cases e) (Nat.le_refl _)
  generalize hC : H2.objs.size = C at *
  rw [up_comm IL] at i₅
  obtain ⟨hkeep, h0, step, done⟩ := q D gD BD
  have st1 : St 0 h₁ := Wk.frame _ _ _ st0 fun b _ o e => keepH b o (hH2 ▸ Heap.get?_push_of_some _ e)
  have fIC : (up (up fr env.locals oL) I oI) C = none := i₅.foff
  have CI : C ≠ I := fun q => by rw [q, up_same] at fIC; cases fIC
  have fI' : up fr env.locals oL I = none := by rw [up_ne IL]; exact fI
  have gID : up g₁ D (lstO [] 0) I = none := i₅.apart I oI up_same
  have DI : I ≠ D := fun q => by rw [q, up_same] at gID; cases gID
  have hSg' : ∀ b, S b → ∃ o, up g₁ D (lstO [] 0) b = some o := fun b hb => let ⟨o, ho⟩ := hSg b hb; ⟨o, up_old gD ho⟩
  have i₀D : In W fr (up g₁ D (lstO [] 0)) env.locals l₁ H2 := i₄.dropF fI
  have loop : codeAny (model W.prog W.w) A (.compLoop (.ListComp elt [⟨.Name x px, i₀, [], 0⟩, ⟨.Name y py, i₁, [], 0⟩] scope pos) 0 (.ref I) (.ref D) (compEnvC scope cl C env)) (compPost (model W.prog W.w) A E none (fun v s' => ∃ g' l', In W fr g' env.locals l' s'.heap ∧ Same s s' ∧ Q v g' l') (.ref D) C) { s₁ with heap := h₁, toks := tk + ([] : List (Str × Value)).length } := by
    refine genLoop (W := W) (n := n) (cenv := compEnvC scope cl C env) (s₀ := s) (Inv := Inv D) (g₁ := up g₁ D (lstO [] 0)) (fr := up fr env.locals oL) (turnA ..) ok fI' (Ne.symm CI) Wk hS live hlet hSg'
      (fun j g' inv b o hb e => by
        obtain ⟨o', ho'⟩ := hSg b hb
        have := up_old (o := lstO [] 0) gD ho'
        rw [e] at this; cases this
        exact hkeep j g' inv b o hb ho')
      (fun j v g' hj hP inv => R_mono (step C I j v g' hj hP inv) fun _ g' l' q => R_tests0 ⟨fun _ => q, fun e => by cases e⟩)
      (fun g' s' inv i' e => ?_) i₅ (e₁.trans (Same.mk' s₁ h₁ _)) st1 h0
    -- the end
    have iE := i₀D.leave hoL i'
    obtain ⟨mC, hnC, _⟩ := i'.ns
    have gC : g' C = none := i'.off
    have fCL := i'.foff
    have CL : C ≠ env.locals := fun q => by
      have : up fr env.locals oL C = none := fCL
      rw [q, up_same] at this; cases this
    have fC : fr C = none := by
      have : up fr env.locals oL C = none := fCL
      rwa [up_ne CL] at this
    exact ⟨mC, hnC, fun h₂ hs₂ => ⟨g', l₁, iE.step0 gC fC CL fun b o hb e => hs₂.extBut b o hb e, e.trans (Same.mk' s' h₂ s'.toks), done g' inv⟩⟩
  exact codeAny_compStart_list loop (Wk.self 0 _ _ _ st1 loop)
end
end

section
open PySem.Spec
section
variable {α β : Type} {KK : Params → Frag} {W : Wd KK} {n : Nat} {env cenv : Env} {g : Gh} {l : Lm}

theorem envCells {M : Model} {A : Around} {E : Value → Shared → Prop} {s : Shared} {scope : Scope} {x : Str} {cl : List (Str × Addr)} {Q : Env → Shared → Prop} {outer : Env}
    (hpc : ∀ h, pushCells h scope.names = h.push (cellObj none)) (hcf : ∀ k, cellsFrom k scope.names cl = (x, k) :: cl)
    (h : Q { scope := scope, locals := s.heap.objs.size, globals := outer.globals, cells := (x, s.heap.objs.size + 1) :: cl, qual := outer.qual, func := none, code := outer.code, frame := outer.frame, builtins := outer.builtins }
      { s with heap := (s.heap.push { cls := .type "dict", data := .dict #[] }).push (cellObj none) }) :
    wpAny M A (newFunctionEnv scope outer.globals cl [] outer.qual none .none (some outer)) Q E s := by
  simp only [newFunctionEnv, Option.isSome_some, if_true]
  refine wpAny_bind (wpAny_alloc ?_)
  refine wpAny_bind (wpAny_layCells _ (fun name kind cells => by cases hkc : kind == NameKind.cell <;> simp [hkc]) _ _ _ _ ?_)
  rw [hpc, show ({ s with heap := s.heap.push { cls := .type "dict", data := .dict #[] } } : Shared).heap.objs.size = s.heap.objs.size + 1 from Heap.size_push .., hcf]
  exact wpAny_bind (wpAny_pure (wpAny_pure h))

theorem R_toCell {x : Str} {pos : Pos} {v : Value} {Q : Unit → Gh → Lm → Prop} {c : Addr} {o : Obj} {v₀ : Option Value} (hk : env.scope.kind = .function) (hx : env.kindOf x = some .cell) (hc : env.cells.lookup x = some c)
    (hB : W.B.get? c = none) (ho : g c = some o) (hd : o.data = .cell v₀) (h : ∀ o', o'.data = .cell (some v) → Q () (up g c o') l) : R W n env g l (assign (.Name x pos) env v) Q := fun A s E fr ok i =>
  PyProof.Rows.assign_Name (wpAny_storeName_cell hk hx hc ⟨o, i.sub _ _ ho, hd⟩ fun h' hv hs' =>
    let ⟨o', ho', hd'⟩ := hv
    ⟨_, l, i.change ho hB hs' ho', Same.mk' s _ _, h o' hd'⟩)

theorem R_assignCompCell {elt iter : Expr} {x y : Str} {px py : Pos} {scope : Scope} {cl : List (Str × Addr)} {pos spos : Pos} {Q : Flow → Gh → Lm → Prop}
    (hk : env.scope.kind = .function) (hy : env.kindOf y = some .local)
    (hsw : swapsWith (.ListComp elt [⟨.Name x px, iter, [], 0⟩] scope pos) (some (.Name y py)) spos.line env = pure true)
    (hs : ∀ x, foldedSetIterable iter env x = pure x) (hclos : closureFor scope env = pure cl) (hkind : scope.kind = .function)
    (hnames : (scope.names.all fun y => decide (y.2 = .local → scope.names.lookup y.1 = some .local)) = true)
    (hpc : ∀ h, pushCells h scope.names = h.push (cellObj none)) (hcf : ∀ k, cellsFrom k scope.names cl = (x, k) :: cl)
    (h : R W n env g l (eval iter env) fun v g₁ l₁ => ∃ (N : Nat) (P : Nat → Value → Prop) (S : Addr → Prop) (Inv : Addr → Addr → Nat → Gh → Prop), Src W n g₁ v N P S ∧ (∀ b, S b → ∃ o, g₁ b = some o) ∧
      (∀ D C, g₁ D = none → W.B.get? D = none → g₁ (C + 1) = none → W.B.get? (C + 1) = none → D ≠ C + 1 → (∀ i g', Inv D C i g' → ∀ b o, S b → g₁ b = some o → g' b = some o) ∧ Inv D C 0 (up (up g₁ D (lstO [] 0)) (C + 1) (cellObj none)) ∧
      (∀ i v g', i < N → P i v → Inv D C i g' → R W n (compEnvC scope ((x, C + 1) :: cl) C env) g' [] (assign (.Name x px) (compEnvC scope ((x, C + 1) :: cl) C env) v) fun _ g' l' =>
        R W n (compEnvC scope ((x, C + 1) :: cl) C env) g' l' (eval elt (compEnvC scope ((x, C + 1) :: cl) C env)) fun z g'' _ => ∃ ys, LI g'' D ys ∧ W.B.get? D = none ∧ ys.length ≤ 1000000 ∧ ∀ c, Inv D C (i + 1) (up g'' D (lstO (ys ++ [z]) c))) ∧
      ∀ g', Inv D C N g' → Q .next g' ((y, .ref D) :: l₁))) :
    R W n env g l (exec (.Assign [.Name y py] (.ListComp elt [⟨.Name x px, iter, [], 0⟩] scope pos) spos) env) Q := by
  intro A s E fr ok i
  rw [exec_Assign_Name_used _ _ _ _ hsw]
  refine wpAny_bind (wpAny_standAt (wpAny_bind ?_))
  show wpAny _ A (do let _ ← comprehension (.ListComp elt [⟨.Name x px, iter, [], 0⟩] scope pos) scope env _ (newList []) false (eval iter env) (some (assign (.Name y py) env))) _ _ s
  refine wpAny_bind (wpAny_mono (wpAny_comprehension_free (use := some (assign (.Name y py) env)) (Q := fun _ s' => ∃ g' l', In W fr g' env.locals l' s'.heap ∧ Same s s' ∧ Q .next g' l') rfl hs hclos hkind (fun y hy => of_decide_eq_true (List.all_eq_true.mp hnames y hy)) (h.next ok i fun v s₁ g₁ l₁ i₁' e₁ q => ?_))
    (fun _ s' hq => wpAny_pure (wpAny_pure hq)) fun _ _ e => e)
  obtain ⟨N, P, S, Inv, hsrc, hSg, q⟩ := q
  refine hsrc A s₁ _ fr _ _ _ ok i₁' fun I src St h' tk gI BI fI IL i₂ Wk hS st0 live hlet => ?_
  obtain ⟨oI, hoI⟩ := live 0 _ st0
  have i₃ := i₂.step gI fI IL (fun _ _ _ e => e) hoI
  obtain ⟨gD, BD, DL, i₄⟩ := i₃.push (o := lstO [] 0) rfl
  refine wpAny_newObj_type (envCells (x := x) (outer := env) hpc hcf ?_)
  dsimp only
  generalize hD : h'.objs.size = D at *
  generalize hH2 : h'.push { cls := .type "list", dict := none, data := .seq ([] : List Value).toArray } = H2
  have i₄ : In W (up fr I oI) (up g₁ D (lstO [] 0)) env.locals l₁ H2 := by rw [← hH2]; exact i₄
  have i₀D : In W fr (up g₁ D (lstO [] 0)) env.locals l₁ H2 := i₄.dropF fI
  have hns₀ : (H2.push { cls := .type "dict", data := .dict #[] }).Ns H2.objs.size (fun _ => none) := Heap.Ns.new H2 (.type "dict")
  obtain ⟨oL, hoL, i₅⟩ := i₄.enter (l' := []) (fun b o e => Heap.get?_push_of_some _ e) hns₀ (fun _ _ e => by cases e) (Nat.le_refl _)
  obtain ⟨gc, Bc, cC, i₆⟩ := i₅.push (o := cellObj none) rfl
  have hsz : (H2.push { cls := .type "dict", data := .dict #[] }).objs.size = H2.objs.size + 1 := Heap.size_push ..
  rw [hsz] at gc Bc cC i₆
  generalize hC : H2.objs.size = C at *
  rw [up_comm IL] at i₆
  have Dc : D ≠ C + 1 := fun q => by rw [q, up_same] at gc; cases gc
  have gc₁ : g₁ (C + 1) = none := by rwa [up_ne (Ne.symm Dc)] at gc
  obtain ⟨hkeep, h0, step, done⟩ := q D C gD BD gc₁ Bc Dc
  generalize hH3 : (H2.push { cls := .type "dict", data := .dict #[] }).push (cellObj none) = H3
  rw [hH3] at i₆
  have keepH : ∀ b o, H2.get? b = some o → H3.get? b = some o := fun b o e => hH3 ▸ Heap.get?_push_of_some _ (Heap.get?_push_of_some _ e)
  have st1 : St 0 H3 := Wk.frame _ _ _ st0 fun b _ o e => keepH b o (hH2 ▸ Heap.get?_push_of_some _ e)
  have fIC : (up (up fr env.locals oL) I oI) C = none := i₆.foff
  have CI : C ≠ I := fun q => by rw [q, up_same] at fIC; cases fIC
  have fI' : up fr env.locals oL I = none := by rw [up_ne IL]; exact fI
  have oldg : ∀ b o, g₁ b = some o → (up (up g₁ D (lstO [] 0)) (C + 1) (cellObj none)) b = some o := fun b o e => up_old gc (up_old gD e)
  have loop : codeAny (model W.prog W.w) A (.compLoop (.ListComp elt [⟨.Name x px, iter, [], 0⟩] scope pos) 0 (.ref I) (.ref D) (compEnvC scope ((x, C + 1) :: cl) C env)) (compPost (model W.prog W.w) A E (some (assign (.Name y py) env)) (fun _ s' => ∃ g' l', In W fr g' env.locals l' s'.heap ∧ Same s s' ∧ Q .next g' l') (.ref D) C) { s₁ with heap := H3, toks := tk } := by
    refine genLoop (W := W) (n := n) (cenv := compEnvC scope ((x, C + 1) :: cl) C env) (s₀ := s) (Inv := Inv D C) (g₁ := up (up g₁ D (lstO [] 0)) (C + 1) (cellObj none)) (fr := up fr env.locals oL) (turn1 ..) ok fI' (Ne.symm CI) Wk hS live hlet
      (fun b hb => let ⟨o, ho⟩ := hSg b hb; ⟨o, oldg b o ho⟩)
      (fun j g' inv b o hb e => by
        obtain ⟨o', ho'⟩ := hSg b hb
        have := oldg b o' ho'
        rw [e] at this; cases this
        exact hkeep j g' inv b o hb ho')
      (fun j v g' hj hP inv => R_mono (step j v g' hj hP inv) fun _ g' l' q => R_tests0 ⟨fun _ => R_tail1 (R_mono q fun z g'' l'' q => by
        obtain ⟨ys, a, b, c, d⟩ := q
        exact ⟨ys, a, b, c, fun k => ⟨rfl, d k⟩⟩), fun e => by cases e⟩)
      (fun g' s' inv i' e => ?_) i₆ (e₁.trans (Same.mk' s₁ H3 _)) st1 h0
    -- the end
    have iE := i₀D.leave hoL i'
    obtain ⟨mC, hnC, _⟩ := i'.ns
    have gC : g' C = none := i'.off
    have fCL := i'.foff
    have CL : C ≠ env.locals := fun q => by
      have : up fr env.locals oL C = none := fCL
      rw [q, up_same] at this; cases this
    have fC : fr C = none := by
      have : up fr env.locals oL C = none := fCL
      rwa [up_ne CL] at this
    obtain ⟨mL, hnL, hmL⟩ := iE.ns
    show wpAny _ A (assign (.Name y py) env (.ref D)) _ _ _
    refine wpAny_assign_Name (wpAny_storeName_local hy hnL (fun h₂ hn₂ hs₂ => ?_) (by rw [hk]; rfl))
    have iS := iE.store hnL hmL hn₂ hs₂
    exact ⟨mC, hnC.sameBut hs₂ CL, fun h₃ hs₃ => ⟨g', _, iS.step0 gC fC CL fun b o hb e => hs₃.extBut b o hb e, e.trans (Same.mk' s' h₃ (s'.toks + 1)), done g' inv⟩⟩
  exact codeAny_compStart_list loop (Wk.self 0 _ _ _ st1 loop)
end
end

section
section
variable {α β : Type} {KK : Params → Frag} {W : Wd KK} {n : Nat} {env : Env} {g : Gh} {l : Lm}

theorem up_swap {a b : Addr} {o p : Obj} (h : a ≠ b) : up (up g a o) b p = up (up g b p) a o := up_comm h

theorem R_make {C fI : Addr} {args : List Value} {Q : Value → Gh → Lm → Prop} (hm : makesIn (KK W.w.params) C = true) (hi : findIn (KK W.w.params) (.ref C) "__init__" = some (some (.ref fI))) (hf : isFn (KK W.w.params) (.ref fI) = true)
    (h : ∀ x d, g x = none → up g x (instObj C d) d = none → W.B.get? x = none → W.B.get? d = none →
      RC W n env.locals l (up (up g x (instObj C d)) d (dictOf [] 0)) (.call (.ref fI) ⟨.ref x :: args, []⟩) fun v g' => v = .none ∧ Q (.ref x) g' l) : R W (n + 1) env g l (call (.ref C) args) Q :=
  R_new hm hi hf fun x d gx gd Bx Bd ne => by
    rw [up_comm (Ne.symm ne)]
    exact h x d gx (by rw [up_ne (Ne.symm ne)]; exact gd) Bx Bd

theorem R_setNew {x C d : Addr} {k : Nat} {m : Str → Option Value} {o : Obj} {name : Str} {v : Value} {Q : Unit → Gh → Lm → Prop} (hd : DSo k m o) (hx : up g d o x = some (instObj C d)) (hB : W.B.get? d = none) (hk : k ≤ 900)
    (hs : findIn (KK W.w.params) (.ref C) "__setattr__" = some (some (.builtin "object.__setattr__"))) (hp : plainOver (KK W.w.params) C = true) (ht : takerIn (KK W.w.params) C name = some none) (hh : hasDictIn (KK W.w.params) C = true) (hn : m name = none)
    (h : ∀ o', DSo (k + 1) (fun y => if y = name then some v else m y) o' → Q () (up g d o') l) : R W n env (up g d o) l (setAttr (.ref x) name v) Q :=
  R_setOwn2 hd hx hB hk hs hp ht hh fun o' ho => h o' (by rw [hn] at ho; exact ho)
theorem R_setOld {x C d : Addr} {k : Nat} {m : Str → Option Value} {o : Obj} {name : Str} {v : Value} {Q : Unit → Gh → Lm → Prop} (hd : DSo k m o) (hx : g x = some (instObj C d)) (ho : g d = some o) (hB : W.B.get? d = none) (hk : k ≤ 900)
    (hs : findIn (KK W.w.params) (.ref C) "__setattr__" = some (some (.builtin "object.__setattr__"))) (hp : plainOver (KK W.w.params) C = true) (ht : takerIn (KK W.w.params) C name = some none) (hh : hasDictIn (KK W.w.params) C = true) (hn : (m name).isSome = true)
    (h : ∀ o', DSo k (fun y => if y = name then some v else m y) o' → Q () (up g d o') l) : R W n env g l (setAttr (.ref x) name v) Q :=
  R_setOwn hx ⟨o, ho, hd⟩ hB hk hs hp ht hh fun o' ho' => h o' (by rw [hn] at ho'; exact ho')
theorem R_getIt {x C d : Addr} {k : Nat} {m : Str → Option Value} {o : Obj} {name : Str} {v : Value} {attr : Option Value} {e : Bool} {Q : Value → Gh → Lm → Prop} (hx : g x = some (instObj C d)) (ho : g d = some o) (hd : DSo k m o)
    (hg : plainGet (KK W.w.params) C name = true) (hh : hasDictIn (KK W.w.params) C = true) (ha : findIn (KK W.w.params) (.ref C) name = some attr) (hn : noGet (KK W.w.params) attr = true)
    (hv : m name = some v) (hi : handedIn v = true) (h : Q v g l) : R W n env g l (getAttr (.ref x) name e) Q := R_getOwn hx ⟨o, ho, hd⟩ hg hh ha hn hv hi h

def LK (l₀ l : Lm) : Prop := ∀ x v, l₀.lookup x = some v → l.lookup x = some v
theorem LK.nil : LK [] l := fun _ _ h => by cases h
theorem LK.cons {x : Str} {v : Value} {r : Lm} (h : l.lookup x = some v) (k : LK r l) : LK ((x, v) :: r) l := fun y u e => by
  rw [List.lookup_cons] at e
  by_cases q : y = x
  · subst q; simp at e; subst e; exact h
  · rw [beq_false_of_ne q] at e; exact k y u e
theorem R_known {l₀ : Lm} {t : Sem α} {Q : α → Gh → Lm → Prop} (k : LK l₀ l) (h : R W n env g l₀ t Q) : R W n env g l t Q := R_forget l₀ k h

def Sub (g g' : Gh) : Prop := ∀ b o, g b = some o → g' b = some o
theorem Sub.refl : Sub g g := fun _ _ h => h
theorem Sub.trans {a b c : Gh} (x : Sub a b) (y : Sub b c) : Sub a c := fun d o h => y d o (x d o h)
theorem Sub.up {g' : Gh} {a : Addr} {o : Obj} (h : Sub g g') (ha : g' a = none) : Sub g (up g' a o) := fun b p e => up_old ha (h b p e)
theorem Sub.up' {g' : Gh} {a : Addr} {o : Obj} (h : Sub g g') (ha : g a = none) : Sub g (Mine.up g' a o) := fun b p e => by rw [up_ne (ne_get e ha)]; exact h b p e
theorem Sub.none {g' : Gh} {a : Addr} (h : Sub g g') (ha : g' a = none) : g a = none := by
  cases e : g a with
  | none => rfl
  | some o => rw [h a o e] at ha; cases ha
theorem LI.sub {g' : Gh} {a : Addr} {vs : List Value} (x : LI g a vs) (h : Sub g g') : LI g' a vs := let ⟨k, e⟩ := x; ⟨k, h _ _ e⟩
theorem TU.sub {g' : Gh} {a : Addr} {vs : List Value} (x : TU g a vs) (h : Sub g g') : TU g' a vs := let ⟨k, e⟩ := x; ⟨k, h _ _ e⟩
theorem KeyT.sub {g' : Gh} {ks : List Int} {a : Addr} (x : KeyT W g ks a) (h : Sub g g') : KeyT W g' ks a := let ⟨vs, t, i⟩ := x; ⟨vs, t.sub h, i⟩
theorem DT.sub {g' : Gh} {d : Addr} {xs : List (List Int × Addr × Value)} (x : DT W g d xs) (h : Sub g g') : DT W g' d xs := ⟨let ⟨o, e, r⟩ := x.obj; ⟨o, h _ _ e, r⟩, fun y hy => (x.keys y hy).sub h⟩
theorem DI.sub {g' : Gh} {d : Addr} {kvs : List (Int × Value)} (x : DI W g d kvs) (h : Sub g g') : DI W g' d kvs := let ⟨o, e, r⟩ := x; ⟨o, h _ _ e, r⟩

def Ins (g : Gh) (C x : Addr) (d : Addr) (k : Nat) (m : Str → Option Value) : Prop := g x = some (instObj C d) ∧ ∃ o, g d = some o ∧ DSo k m o
theorem Ins.sub {g' : Gh} {C x d : Addr} {k : Nat} {m : Str → Option Value} (i : Ins g C x d k m) (h : Sub g g') : Ins g' C x d k m := ⟨h _ _ i.1, let ⟨o, e, r⟩ := i.2; ⟨o, h _ _ e, r⟩⟩
theorem R_getI {x C d : Addr} {k : Nat} {m : Str → Option Value} {name : Str} {v : Value} {attr : Option Value} {e : Bool} {Q : Value → Gh → Lm → Prop} (hx : Ins g C x d k m)
    (hg : plainGet (KK W.w.params) C name = true) (hh : hasDictIn (KK W.w.params) C = true) (ha : findIn (KK W.w.params) (.ref C) name = some attr) (hn : noGet (KK W.w.params) attr = true)
    (hv : m name = some v) (hi : handedIn v = true) (h : Q v g l) : R W n env g l (getAttr (.ref x) name e) Q :=
  let ⟨o, ho, hd⟩ := hx.2; R_getIt hx.1 ho hd hg hh ha hn hv hi h
theorem R_getM {x C d f : Addr} {k : Nat} {m : Str → Option Value} {name : Str} {pl : Sem Bool} {Q : Value × List Value → Gh → Lm → Prop} (hx : Ins g C x d k m)
    (hg : plainGet (KK W.w.params) C name = true) (hf : findIn (KK W.w.params) (.ref C) name = some (some (.ref f))) (ht : isFn (KK W.w.params) (.ref f) = true) (hv : m name = none)
    (h : Q (.ref f, [.ref x]) g l) : R W n env g l (getMethod (.ref x) name pl) Q := R_getMeth hx.1 hx.2 hg hf ht hv h
end
end

section
section
variable {α β : Type} {KK : Params → Frag} {W : Wd KK} {n : Nat} {env : Env} {g : Gh} {l : Lm}

theorem R_to2 {a b : Str} {pa pb pos : Pos} {k : Nat} {t : Addr} {x y : Value} {Q : Unit → Gh → Lm → Prop} (ht : TU g t [x, y]) (hk : env.scope.kind = .function) (ha : env.kindOf a = some .local) (hb : env.kindOf b = some .local)
    (h : Q () g ((b, y) :: (a, x) :: l)) : R W n env g l (assign (.Tuple [.Name a pa, .Name b pb] k pos) env (.ref t)) Q := by
  refine R_toTuple ht rfl rfl ?_
  show R W n env g l (assignInOrder [assign (.Name a pa) env, assign (.Name b pb) env] [x, y]) Q
  exact R_aioCons (R_toName hk ha (R_aioCons (R_toName hk hb (R_aioNil h))))
theorem R_to3 {a b c : Str} {pa pb pc pos : Pos} {k : Nat} {t : Addr} {x y z : Value} {Q : Unit → Gh → Lm → Prop} (ht : TU g t [x, y, z]) (hk : env.scope.kind = .function) (ha : env.kindOf a = some .local) (hb : env.kindOf b = some .local) (hc : env.kindOf c = some .local)
    (h : Q () g ((c, z) :: (b, y) :: (a, x) :: l)) : R W n env g l (assign (.Tuple [.Name a pa, .Name b pb, .Name c pc] k pos) env (.ref t)) Q := by
  refine R_toTuple ht rfl rfl ?_
  show R W n env g l (assignInOrder [assign (.Name a pa) env, assign (.Name b pb) env, assign (.Name c pc) env] [x, y, z]) Q
  exact R_aioCons (R_toName hk ha (R_aioCons (R_toName hk hb (R_aioCons (R_toName hk hc (R_aioNil h))))))
theorem R_swap2 {elts : List Expr} {k : Nat} {tpos pos : Pos} {value : Expr} {a b : Str} {Q : Flow → Gh → Lm → Prop}
    (hs : swapsWithSole [.Tuple elts k tpos] value pos.line env = pure false) (hw : swappedStores [.Tuple elts k tpos] value env = pure (some [a, b])) (hk : env.scope.kind = .function) (ha : env.kindOf a = some .local) (hb : env.kindOf b = some .local)
    (h : R W n env g l (eval value env) fun v g' l' => ∃ t x y, v = .ref t ∧ TU g' t [x, y] ∧ Q .next g' ((a, x) :: (b, y) :: l')) :
    R W n env g l (exec (.Assign [.Tuple elts k tpos] value pos) env) Q :=
  R_AssignSwapped hs hw (R_mono h fun v g' l' ⟨t, x, y, e, ht, q⟩ => ⟨t, [x, y], e, ht, rfl, by
    show R W n env g' l' (assignInOrder [bindName env b, bindName env a] [y, x]) _
    exact R_aioCons (R_bindName hk hb (R_aioCons (R_bindName hk ha (R_aioNil q))))⟩)
theorem R_swap3 {elts : List Expr} {k : Nat} {tpos pos : Pos} {value : Expr} {a b c : Str} {Q : Flow → Gh → Lm → Prop}
    (hs : swapsWithSole [.Tuple elts k tpos] value pos.line env = pure false) (hw : swappedStores [.Tuple elts k tpos] value env = pure (some [a, b, c])) (hk : env.scope.kind = .function) (ha : env.kindOf a = some .local) (hb : env.kindOf b = some .local) (hc : env.kindOf c = some .local)
    (h : R W n env g l (eval value env) fun v g' l' => ∃ t x y z, v = .ref t ∧ TU g' t [x, y, z] ∧ Q .next g' ((a, x) :: (b, y) :: (c, z) :: l')) :
    R W n env g l (exec (.Assign [.Tuple elts k tpos] value pos) env) Q :=
  R_AssignSwapped hs hw (R_mono h fun v g' l' ⟨t, x, y, z, e, ht, q⟩ => ⟨t, [x, y, z], e, ht, rfl, by
    show R W n env g' l' (assignInOrder [bindName env c, bindName env b, bindName env a] [z, y, x]) _
    exact R_aioCons (R_bindName hk hc (R_aioCons (R_bindName hk hb (R_aioCons (R_bindName hk ha (R_aioNil q))))))⟩)
theorem Turn_next {Q : Flow → Gh → Lm → Prop} {J : Gh → Lm → Prop} (h : J g l) : Turn Q J .next g l := h
theorem Turn_cont {Q : Flow → Gh → Lm → Prop} {J : Gh → Lm → Prop} (h : J g l) : Turn Q J .cont g l := h
theorem Turn_ret {Q : Flow → Gh → Lm → Prop} {J : Gh → Lm → Prop} {v : Value} (h : Q (.ret v) g l) : Turn Q J (.ret v) g l := h
theorem and_none {p : Prop} (h : p) : Value.none = Value.none ∧ p := ⟨rfl, h⟩
def Uncur (P : Value → List Value → Gh → Lm → Prop) (fx : Value × List Value) (g : Gh) (l : Lm) : Prop := P fx.1 fx.2 g l
theorem Uncur_intro {P : Value → List Value → Gh → Lm → Prop} {a : Value} {b : List Value} (h : P a b g l) : Uncur P (a, b) g l := h
theorem R_methU {o : Expr} {name : Str} {apos pos : Pos} {args : List Expr} {pl : Sem Bool} {Q : Value → Gh → Lm → Prop}
    (he : eval (.Call (.Attribute o name apos) args [] pos) env = do { let ov ← eval o env; standAt apos.atName; let (f, first) ← holding [ov] (getMethod ov name pl); callWith pos f first (backTo pos (starEach args env)) (backToKw pos (keywordEach [] env)) })
    (h : R W n env g l (eval o env) fun ov g' l' => R W n env g' l' (getMethod ov name pl) (Uncur fun f first g' l' => R W n env g' l' (callWith pos f first (backTo pos (starEach args env)) []) Q)) : R W n env g l (eval (.Call (.Attribute o name apos) args [] pos) env) Q :=
  R_meth he h
theorem R_setNewG {x C d : Addr} {k : Nat} {m : Str → Option Value} {o : Obj} {name : Str} {v : Value} {Q : Unit → Gh → Lm → Prop} (hd : DSo k m o) (hx : g x = some (instObj C d)) (ho : g d = some o) (hB : W.B.get? d = none) (hk : k ≤ 900)
    (hs : findIn (KK W.w.params) (.ref C) "__setattr__" = some (some (.builtin "object.__setattr__"))) (hp : plainOver (KK W.w.params) C = true) (ht : takerIn (KK W.w.params) C name = some none) (hh : hasDictIn (KK W.w.params) C = true) (hn : m name = none)
    (h : ∀ o', DSo (k + 1) (fun y => if y = name then some v else m y) o' → Q () (up g d o') l) : R W n env g l (setAttr (.ref x) name v) Q :=
  R_setOwn hx ⟨o, ho, hd⟩ hB hk hs hp ht hh fun o' ho' => h o' (by rw [hn] at ho'; exact ho')
theorem R_opt1 {e : Expr} {Q : Value → Gh → Lm → Prop} (h : R W n env g l (eval e env) Q) : R W n env g l (valueOrNone (evalOpt (some e) env)) Q := h
theorem R_opt0 {Q : Value → Gh → Lm → Prop} (h : Q .none g l) : R W n env g l (valueOrNone (evalOpt none env)) Q := R_pure h
theorem lst_ne_dict {vs : List Value} {k : Nat} {es : List DictEntry} {c : Nat} : lstO vs k ≠ dictOf es c := fun q => by
  have h : (lstO vs k).cls = (dictOf es c).cls := by rw [q]
  have h : Value.type "list" = Value.type "dict" := h
  injection h with h
  exact absurd h (by decide)
theorem lst_ne_inst {vs : List Value} {k : Nat} {C d : Addr} : lstO vs k ≠ instObj C d := fun q => by cases q
def Keep (D : List Addr) (g g' : Gh) : Prop := ∀ b o, b ∉ D → g b = some o → g' b = some o
theorem Keep.sub {D : List Addr} {s g g' : Gh} (k : Keep D g g') (h : Sub s g) (hD : ∀ b ∈ D, s b = none) : Sub s g' := fun b o e => k b o (fun hb => by rw [hD b hb] at e; cases e) (h b o e)
theorem Keep.refl {D : List Addr} : Keep D g g := fun _ _ _ h => h
theorem Keep.trans {D : List Addr} {a b c : Gh} (x : Keep D a b) (y : Keep D b c) : Keep D a c := fun d o hd h => y d o hd (x d o hd h)
theorem Sub.keep {D : List Addr} {g' : Gh} (h : Sub g g') : Keep D g g' := fun b o _ e => h b o e
theorem Keep.upIn {D : List Addr} {g' : Gh} {a : Addr} {o : Obj} (h : Keep D g g') (ha : a ∈ D) : Keep D g (up g' a o) := fun b p hb e => (up_ne (fun q : b = a => hb (by rw [q]; exact ha))).trans (h b p hb e)
theorem Keep.upNew {D : List Addr} {g' : Gh} {a : Addr} {o : Obj} (h : Keep D g g') (ha : g' a = none) : Keep D g (up g' a o) := fun b p hb e => up_old ha (h b p hb e)
theorem Keep.upNew' {D : List Addr} {g' : Gh} {a : Addr} {o : Obj} (h : Keep D g g') (ha : g a = none) : Keep D g (up g' a o) := fun b p hb e => by rw [up_ne (ne_get e ha)]; exact h b p hb e
end
end

section
noncomputable abbrev lawProg : Program := PySem.Challenge.pw_nu0181_01
noncomputable def nthS (l : List Stmt) (i : Nat) : Stmt := match l.drop i with | s :: _ => s | [] => .Pass default
noncomputable def stA (i : Nat) : Stmt := nthS lawProg.main.body i
noncomputable def stM (i j : Nat) : Stmt := match stA i with | .ClassDef _ _ _ b _ _ _ _ _ _ _ => nthS b j | _ => .Pass default
noncomputable def fnD (st : Stmt) (q : Str) (g : Addr) (cl : List (Str × Addr)) (d kd doc pm : Value) (an : Option Addr) (cd ct : Value) (b : Addr) : Data := match st with
  | .FunctionDef n a bd _ _ _ s _ _ _ => .func ⟨n, q, a, .stmts bd, s, g, cl, d, kd, doc, pm, an, cd, ct, b⟩
  | _ => .plain
noncomputable abbrev dEn (P : Params) (s : Str) (t : Tok) (v : Value) : DictEntry := ⟨PyData.keyHash P s, .str s t, v⟩
noncomputable def KF (P : Params) : Frag :=
  (nat_lit 2, ⟨.none, none, (.dict #[] 0), #[]⟩) ::
  (nat_lit 3, ⟨(.type "dict"), none, (.dict #[dEn P "__name__" 165 (.str "law_nu0181_01" 860), dEn P "__doc__" 166 .none, dEn P "__package__" 167 .none, dEn P "__loader__" 168 (.builtin "__main__.__loader__#opaque"), dEn P "__spec__" 169 .none, dEn P "__annotations__" 170 (.ref 6), dEn P "__builtins__" 171 (.ref 4), dEn P "__file__" 173 (.str "/claim/cut.py" 172), dEn P "__cached__" 174 .none, dEn P "_wall" 193 (.ref 21), dEn P "Info" 254 (.ref 52), dEn P "Buffer" 312 (.ref 98), dEn P "hang" 318 (.ref 107), dEn P "IGNORE_BASES" 322 (.int 2 321), dEn P "IGNORE_LIGATURES" 324 (.int 4 323), dEn P "IGNORE_MARKS" 326 (.int 8 325), dEn P "USE_SET" 328 (.int 16 327), dEn P "Lookup" 369 (.ref 129), dEn P "Scene" 409 (.ref 151), dEn P "attach_wanted" 416 (.ref 162), dEn P "class_bit" 423 (.ref 169), dEn P "is_ignored" 434 (.ref 176), dEn P "passes" 442 (.ref 183), dEn P "KINDS_AROUND" 448 (.ref 184), dEn P "neighbour" 458 (.ref 191), dEn P "next_at" 466 (.ref 198), dEn P "Value" 517 (.ref 229), dEn P "add_value" 526 (.ref 240), dEn P "pair_told" 535 (.ref 247), dEn P "moves_second" 541 (.ref 252), dEn P "PairGlyphs" 587 (.ref 282), dEn P "PairClasses" 635 (.ref 314), dEn P "has_second" 642 (.ref 325), dEn P "apply_pair" 654 (.ref 332), dEn P "ClassDef" 716 (.ref 375), dEn P "Coverage" 773 (.ref 417), dEn P "coverage_of" 782 (.ref 428), dEn P "NO_CLASS" 786 (.int 0 785), dEn P "BASE" 788 (.int 1 787), dEn P "COMPONENT" 790 (.int 4 789), dEn P "Gdef" 859 (.ref 472), dEn P "_law_menu" 880 (.ref 481), dEn P "_law_draw" 892 (.ref 488), dEn P "_law_pen" 899 (.ref 495), dEn P "_law_value" 906 (.ref 502), dEn P "_law_row" 917 (.ref 509), dEn P "_law_pairs" 928 (.ref 516), dEn P "_law_glyph_table" 934 (.ref 521), dEn P "_law_class_table" 940 (.ref 526), dEn P "_law_step" 946 (.ref 531), dEn P "_law_shown" 952 (.ref 536), dEn P "_law_infos" 964 (.ref 543), dEn P "_law_scene" 975 (.ref 550), dEn P "_law_right" 994 (.ref 557), dEn P "law" 1009 (.ref 564)] 55), #[]⟩) ::
  (nat_lit 15, ⟨(.type "tuple"), none, (.seq #[] 0), #[]⟩) ::
  (nat_lit 17, ⟨(.type "tuple"), none, (.seq #[(.str "k" 190)] 0), #[]⟩) ::
  (nat_lit 18, ⟨(.type "tuple"), none, (.seq #[] 0), #[]⟩) ::
  (nat_lit 20, ⟨(.type "code"), none, (.fields #[(.str "_wall" 187), (.str "_wall" 188), (.str "/claim/cut.py" 189), (.int 1 0), (.int 1 0), (.int 0 0), (.int 0 0), (.int 3 0), (.ref 15), (.bool true), (.int 181 0), (.ref 16), .none, (.ref 17), (.ref 18), (.ref 19), (.int 191 0), (.int 1 0), (.str "/claim/cut.py" 192)]), #[]⟩) ::
  (nat_lit 21, ⟨(.type "function"), none, (fnD (stA 0) "_wall" 3 [] .none .none .none (.str "__main__" 164) none (.ref 20) .none 0), #[]⟩) ::
  (nat_lit 29, ⟨(.type "tuple"), none, (.seq #[] 0), #[]⟩) ::
  (nat_lit 31, ⟨(.type "tuple"), none, (.seq #[(.str "self" 211), (.str "code" 212), (.str "glyph" 213), (.str "cluster" 214)] 0), #[]⟩) ::
  (nat_lit 32, ⟨(.type "tuple"), none, (.seq #[] 0), #[]⟩) ::
  (nat_lit 34, ⟨(.type "code"), none, (.fields #[(.str "__init__" 208), (.str "Info.__init__" 209), (.str "/claim/cut.py" 210), (.int 7 0), (.int 4 0), (.int 0 0), (.int 0 0), (.int 3 0), (.ref 29), (.bool true), (.int 181 0), (.ref 30), .none, (.ref 31), (.ref 32), (.ref 33), (.int 215 0), (.int 7 0), (.str "/claim/cut.py" 216)]), #[]⟩) ::
  (nat_lit 35, ⟨(.type "function"), none, (fnD (stM 2 0) "Info.__init__" 3 [] .none .none .none (.str "joinedhand.buffer" 194) none (.ref 34) .none 0), #[]⟩) ::
  (nat_lit 36, ⟨(.type "tuple"), none, (.seq #[] 0), #[]⟩) ::
  (nat_lit 38, ⟨(.type "tuple"), none, (.seq #[(.str "self" 221)] 0), #[]⟩) ::
  (nat_lit 39, ⟨(.type "tuple"), none, (.seq #[] 0), #[]⟩) ::
  (nat_lit 41, ⟨(.type "code"), none, (.fields #[(.str "copied" 218), (.str "Info.copied" 219), (.str "/claim/cut.py" 220), (.int 24 0), (.int 1 0), (.int 0 0), (.int 0 0), (.int 3 0), (.ref 36), (.bool true), (.int 181 0), (.ref 37), .none, (.ref 38), (.ref 39), (.ref 40), (.int 222 0), (.int 24 0), (.str "/claim/cut.py" 223)]), #[]⟩) ::
  (nat_lit 42, ⟨(.type "function"), none, (fnD (stM 2 1) "Info.copied" 3 [] .none .none .none (.str "joinedhand.buffer" 194) none (.ref 41) .none 0), #[]⟩) ::
  (nat_lit 43, ⟨(.type "tuple"), none, (.seq #[] 0), #[]⟩) ::
  (nat_lit 45, ⟨(.type "tuple"), none, (.seq #[(.str "self" 228)] 0), #[]⟩) ::
  (nat_lit 46, ⟨(.type "tuple"), none, (.seq #[] 0), #[]⟩) ::
  (nat_lit 48, ⟨(.type "code"), none, (.fields #[(.str "told" 225), (.str "Info.told" 226), (.str "/claim/cut.py" 227), (.int 27 0), (.int 1 0), (.int 0 0), (.int 0 0), (.int 3 0), (.ref 43), (.bool true), (.int 181 0), (.ref 44), .none, (.ref 45), (.ref 46), (.ref 47), (.int 229 0), (.int 27 0), (.str "/claim/cut.py" 230)]), #[]⟩) ::
  (nat_lit 49, ⟨(.type "function"), none, (fnD (stM 2 2) "Info.told" 3 [] .none .none .none (.str "joinedhand.buffer" 194) none (.ref 48) .none 0), #[]⟩) ::
  (nat_lit 50, ⟨(.type "tuple"), none, (.seq #[(.str "bond" 232), (.str "cluster" 233), (.str "code" 234), (.str "glyph" 235), (.str "is_unsafe" 236), (.str "kind" 237), (.str "lig_count" 238), (.str "lig_id" 239), (.str "lig_part" 240), (.str "mask" 241), (.str "parent" 242), (.str "x_advance" 243), (.str "x_offset" 244), (.str "y_advance" 245), (.str "y_offset" 246)] 0), #[]⟩) ::
  (nat_lit 51, ⟨(.type "dict"), none, (.dict #[dEn P "__module__" 203 (.str "joinedhand.buffer" 194), dEn P "__firstlineno__" 207 (.int 5 206), dEn P "__init__" 217 (.ref 35), dEn P "copied" 224 (.ref 42), dEn P "told" 231 (.ref 49), dEn P "__static_attributes__" 247 (.ref 50), dEn P "__dict__" 249 (.ref 53), dEn P "__weakref__" 251 (.ref 54), dEn P "__doc__" 252 .none] 4), #[]⟩) ::
  (nat_lit 52, ⟨(.type "type"), none, (.cls ⟨"Info", [(.type "object")], [(.ref 52), (.type "object")], 51, "Info", true, [], [], false, none, false⟩), #[none, none, (some (.str "Info" 196)), (some (.str "Info" 204)), (some (.builtin "object.__new__")), (some (.bool true))]⟩) ::
  (nat_lit 53, ⟨(.type "getset_descriptor"), none, (.fields #[(.str "__dict__" 248), (.ref 52), (.builtin "function.__dict__"), (.builtin "function.__dict__#set")]), #[]⟩) ::
  (nat_lit 54, ⟨(.type "getset_descriptor"), none, (.fields #[(.str "__weakref__" 250), (.ref 52), (.builtin "ExceptionGroup.__weakref__"), .none]), #[]⟩) ::
  (nat_lit 64, ⟨(.type "tuple"), none, (.seq #[(.bool false)] 0), #[]⟩) ::
  (nat_lit 65, ⟨(.type "tuple"), none, (.seq #[] 0), #[]⟩) ::
  (nat_lit 67, ⟨(.type "tuple"), none, (.seq #[(.str "self" 270), (.str "infos" 271), (.str "is_backward" 272)] 0), #[]⟩) ::
  (nat_lit 68, ⟨(.type "tuple"), none, (.seq #[] 0), #[]⟩) ::
  (nat_lit 70, ⟨(.type "code"), none, (.fields #[(.str "__init__" 267), (.str "Buffer.__init__" 268), (.str "/claim/cut.py" 269), (.int 31 0), (.int 3 0), (.int 0 0), (.int 0 0), (.int 3 0), (.ref 65), (.bool true), (.int 181 0), (.ref 66), .none, (.ref 67), (.ref 68), (.ref 69), (.int 273 0), (.int 31 0), (.str "/claim/cut.py" 274)]), #[]⟩) ::
  (nat_lit 71, ⟨(.type "function"), none, (fnD (stM 3 0) "Buffer.__init__" 3 [] (.ref 64) .none .none (.str "joinedhand.buffer" 194) none (.ref 70) .none 0), #[]⟩) ::
  (nat_lit 72, ⟨(.type "tuple"), none, (.seq #[] 0), #[]⟩) ::
  (nat_lit 75, ⟨(.type "code"), none, (.fields #[(.str "glyphs" 276), (.str "Buffer.glyphs" 277), (.str "/claim/cut.py" 278), (.int 36 0), (.int 1 0), (.int 0 0), (.int 0 0), (.int 3 0), (.ref 72), (.bool true), (.int 181 0), (.ref 73), .none, .none, .none, (.ref 74), (.int 279 0), (.int 36 0), (.str "/claim/cut.py" 280)]), #[]⟩) ::
  (nat_lit 76, ⟨(.type "function"), none, (fnD (stM 3 1) "Buffer.glyphs" 3 [] .none .none .none (.str "joinedhand.buffer" 194) none (.ref 75) .none 0), #[]⟩) ::
  (nat_lit 77, ⟨(.type "tuple"), none, (.seq #[] 0), #[]⟩) ::
  (nat_lit 79, ⟨(.type "tuple"), none, (.seq #[(.str "self" 285)] 0), #[]⟩) ::
  (nat_lit 80, ⟨(.type "tuple"), none, (.seq #[] 0), #[]⟩) ::
  (nat_lit 82, ⟨(.type "code"), none, (.fields #[(.str "clusters" 282), (.str "Buffer.clusters" 283), (.str "/claim/cut.py" 284), (.int 39 0), (.int 1 0), (.int 0 0), (.int 0 0), (.int 3 0), (.ref 77), (.bool true), (.int 181 0), (.ref 78), .none, (.ref 79), (.ref 80), (.ref 81), (.int 286 0), (.int 39 0), (.str "/claim/cut.py" 287)]), #[]⟩) ::
  (nat_lit 83, ⟨(.type "function"), none, (fnD (stM 3 2) "Buffer.clusters" 3 [] .none .none .none (.str "joinedhand.buffer" 194) none (.ref 82) .none 0), #[]⟩) ::
  (nat_lit 84, ⟨(.type "tuple"), none, (.seq #[] 0), #[]⟩) ::
  (nat_lit 87, ⟨(.type "code"), none, (.fields #[(.str "told" 289), (.str "Buffer.told" 290), (.str "/claim/cut.py" 291), (.int 42 0), (.int 1 0), (.int 0 0), (.int 0 0), (.int 3 0), (.ref 84), (.bool true), (.int 181 0), (.ref 85), .none, .none, .none, (.ref 86), (.int 292 0), (.int 42 0), (.str "/claim/cut.py" 293)]), #[]⟩) ::
  (nat_lit 88, ⟨(.type "function"), none, (fnD (stM 3 3) "Buffer.told" 3 [] .none .none .none (.str "joinedhand.buffer" 194) none (.ref 87) .none 0), #[]⟩) ::
  (nat_lit 89, ⟨(.type "tuple"), none, (.seq #[] 0), #[]⟩) ::
  (nat_lit 91, ⟨(.type "tuple"), none, (.seq #[(.str "self" 298)] 0), #[]⟩) ::
  (nat_lit 92, ⟨(.type "tuple"), none, (.seq #[] 0), #[]⟩) ::
  (nat_lit 94, ⟨(.type "code"), none, (.fields #[(.str "next_lig" 295), (.str "Buffer.next_lig" 296), (.str "/claim/cut.py" 297), (.int 45 0), (.int 1 0), (.int 0 0), (.int 0 0), (.int 3 0), (.ref 89), (.bool true), (.int 181 0), (.ref 90), .none, (.ref 91), (.ref 92), (.ref 93), (.int 299 0), (.int 45 0), (.str "/claim/cut.py" 300)]), #[]⟩) ::
  (nat_lit 95, ⟨(.type "function"), none, (fnD (stM 3 4) "Buffer.next_lig" 3 [] .none .none .none (.str "joinedhand.buffer" 194) none (.ref 94) .none 0), #[]⟩) ::
  (nat_lit 96, ⟨(.type "tuple"), none, (.seq #[(.str "is_backward" 302), (.str "last_lig" 303), (.str "row" 304)] 0), #[]⟩) ::
  (nat_lit 97, ⟨(.type "dict"), none, (.dict #[dEn P "__module__" 262 (.str "joinedhand.buffer" 194), dEn P "__firstlineno__" 266 (.int 29 265), dEn P "__init__" 275 (.ref 71), dEn P "glyphs" 281 (.ref 76), dEn P "clusters" 288 (.ref 83), dEn P "told" 294 (.ref 88), dEn P "next_lig" 301 (.ref 95), dEn P "__static_attributes__" 305 (.ref 96), dEn P "__dict__" 307 (.ref 99), dEn P "__weakref__" 309 (.ref 100), dEn P "__doc__" 310 .none] 4), #[]⟩) ::
  (nat_lit 98, ⟨(.type "type"), none, (.cls ⟨"Buffer", [(.type "object")], [(.ref 98), (.type "object")], 97, "Buffer", true, [], [], false, none, false⟩), #[none, none, (some (.str "Buffer" 255)), (some (.str "Buffer" 263)), (some (.builtin "object.__new__")), (some (.bool true))]⟩) ::
  (nat_lit 99, ⟨(.type "getset_descriptor"), none, (.fields #[(.str "__dict__" 306), (.ref 98), (.builtin "function.__dict__"), (.builtin "function.__dict__#set")]), #[]⟩) ::
  (nat_lit 100, ⟨(.type "getset_descriptor"), none, (.fields #[(.str "__weakref__" 308), (.ref 98), (.builtin "ExceptionGroup.__weakref__"), .none]), #[]⟩) ::
  (nat_lit 103, ⟨(.type "tuple"), none, (.seq #[] 0), #[]⟩) ::
  (nat_lit 106, ⟨(.type "code"), none, (.fields #[(.str "hang" 313), (.str "hang" 314), (.str "/claim/cut.py" 315), (.int 47 0), (.int 3 0), (.int 0 0), (.int 0 0), (.int 3 0), (.ref 103), (.bool true), (.int 181 0), (.ref 104), .none, .none, .none, (.ref 105), (.int 316 0), (.int 47 0), (.str "/claim/cut.py" 317)]), #[]⟩) ::
  (nat_lit 107, ⟨(.type "function"), none, (fnD (stA 4) "hang" 3 [] .none .none .none (.str "joinedhand.buffer" 194) none (.ref 106) .none 0), #[]⟩) ::
  (nat_lit 115, ⟨(.type "tuple"), none, (.seq #[] 0), #[]⟩) ::
  (nat_lit 117, ⟨(.type "tuple"), none, (.seq #[(.str "self" 344), (.str "kind" 345), (.str "flag" 346), (.str "mark_set" 347), (.str "tables" 348)] 0), #[]⟩) ::
  (nat_lit 118, ⟨(.type "tuple"), none, (.seq #[] 0), #[]⟩) ::
  (nat_lit 120, ⟨(.type "code"), none, (.fields #[(.str "__init__" 341), (.str "Lookup.__init__" 342), (.str "/claim/cut.py" 343), (.int 62 0), (.int 5 0), (.int 0 0), (.int 0 0), (.int 3 0), (.ref 115), (.bool true), (.int 181 0), (.ref 116), .none, (.ref 117), (.ref 118), (.ref 119), (.int 349 0), (.int 62 0), (.str "/claim/cut.py" 350)]), #[]⟩) ::
  (nat_lit 121, ⟨(.type "function"), none, (fnD (stM 10 0) "Lookup.__init__" 3 [] .none .none .none (.str "joinedhand.flags" 319) none (.ref 120) .none 0), #[]⟩) ::
  (nat_lit 122, ⟨(.type "tuple"), none, (.seq #[] 0), #[]⟩) ::
  (nat_lit 125, ⟨(.type "code"), none, (.fields #[(.str "told" 352), (.str "Lookup.told" 353), (.str "/claim/cut.py" 354), (.int 68 0), (.int 1 0), (.int 0 0), (.int 0 0), (.int 3 0), (.ref 122), (.bool true), (.int 181 0), (.ref 123), .none, .none, .none, (.ref 124), (.int 355 0), (.int 68 0), (.str "/claim/cut.py" 356)]), #[]⟩) ::
  (nat_lit 126, ⟨(.type "function"), none, (fnD (stM 10 1) "Lookup.told" 3 [] .none .none .none (.str "joinedhand.flags" 319) none (.ref 125) .none 0), #[]⟩) ::
  (nat_lit 127, ⟨(.type "tuple"), none, (.seq #[(.str "flag" 358), (.str "kind" 359), (.str "mark_set" 360), (.str "tables" 361)] 0), #[]⟩) ::
  (nat_lit 128, ⟨(.type "dict"), none, (.dict #[dEn P "__module__" 336 (.str "joinedhand.flags" 319), dEn P "__firstlineno__" 340 (.int 60 339), dEn P "__init__" 351 (.ref 121), dEn P "told" 357 (.ref 126), dEn P "__static_attributes__" 362 (.ref 127), dEn P "__dict__" 364 (.ref 130), dEn P "__weakref__" 366 (.ref 131), dEn P "__doc__" 367 .none] 4), #[]⟩) ::
  (nat_lit 129, ⟨(.type "type"), none, (.cls ⟨"Lookup", [(.type "object")], [(.ref 129), (.type "object")], 128, "Lookup", true, [], [], false, none, false⟩), #[none, none, (some (.str "Lookup" 329)), (some (.str "Lookup" 337)), (some (.builtin "object.__new__")), (some (.bool true))]⟩) ::
  (nat_lit 130, ⟨(.type "getset_descriptor"), none, (.fields #[(.str "__dict__" 363), (.ref 129), (.builtin "function.__dict__"), (.builtin "function.__dict__#set")]), #[]⟩) ::
  (nat_lit 131, ⟨(.type "getset_descriptor"), none, (.fields #[(.str "__weakref__" 365), (.ref 129), (.builtin "ExceptionGroup.__weakref__"), .none]), #[]⟩) ::
  (nat_lit 141, ⟨(.type "tuple"), none, (.seq #[(.int 0 382)] 0), #[]⟩) ::
  (nat_lit 142, ⟨(.type "tuple"), none, (.seq #[] 0), #[]⟩) ::
  (nat_lit 144, ⟨(.type "tuple"), none, (.seq #[(.str "self" 386), (.str "buffer" 387), (.str "gdef" 388), (.str "lookups" 389), (.str "lookup" 390), (.str "mask" 391), (.str "depth" 392)] 0), #[]⟩) ::
  (nat_lit 145, ⟨(.type "tuple"), none, (.seq #[] 0), #[]⟩) ::
  (nat_lit 147, ⟨(.type "code"), none, (.fields #[(.str "__init__" 383), (.str "Scene.__init__" 384), (.str "/claim/cut.py" 385), (.int 73 0), (.int 7 0), (.int 0 0), (.int 0 0), (.int 3 0), (.ref 142), (.bool true), (.int 181 0), (.ref 143), .none, (.ref 144), (.ref 145), (.ref 146), (.int 393 0), (.int 73 0), (.str "/claim/cut.py" 394)]), #[]⟩) ::
  (nat_lit 148, ⟨(.type "function"), none, (fnD (stM 11 0) "Scene.__init__" 3 [] (.ref 141) .none .none (.str "joinedhand.flags" 319) none (.ref 147) .none 0), #[]⟩) ::
  (nat_lit 149, ⟨(.type "tuple"), none, (.seq #[(.str "buffer" 396), (.str "depth" 397), (.str "gdef" 398), (.str "lookup" 399), (.str "lookups" 400), (.str "mask" 401)] 0), #[]⟩) ::
  (nat_lit 150, ⟨(.type "dict"), none, (.dict #[dEn P "__module__" 377 (.str "joinedhand.flags" 319), dEn P "__firstlineno__" 381 (.int 71 380), dEn P "__init__" 395 (.ref 148), dEn P "__static_attributes__" 402 (.ref 149), dEn P "__dict__" 404 (.ref 152), dEn P "__weakref__" 406 (.ref 153), dEn P "__doc__" 407 .none] 4), #[]⟩) ::
  (nat_lit 151, ⟨(.type "type"), none, (.cls ⟨"Scene", [(.type "object")], [(.ref 151), (.type "object")], 150, "Scene", true, [], [], false, none, false⟩), #[none, none, (some (.str "Scene" 370)), (some (.str "Scene" 378)), (some (.builtin "object.__new__")), (some (.bool true))]⟩) ::
  (nat_lit 152, ⟨(.type "getset_descriptor"), none, (.fields #[(.str "__dict__" 403), (.ref 151), (.builtin "function.__dict__"), (.builtin "function.__dict__#set")]), #[]⟩) ::
  (nat_lit 153, ⟨(.type "getset_descriptor"), none, (.fields #[(.str "__weakref__" 405), (.ref 151), (.builtin "ExceptionGroup.__weakref__"), .none]), #[]⟩) ::
  (nat_lit 156, ⟨(.type "tuple"), none, (.seq #[] 0), #[]⟩) ::
  (nat_lit 158, ⟨(.type "tuple"), none, (.seq #[(.str "flag" 413)] 0), #[]⟩) ::
  (nat_lit 159, ⟨(.type "tuple"), none, (.seq #[] 0), #[]⟩) ::
  (nat_lit 161, ⟨(.type "code"), none, (.fields #[(.str "attach_wanted" 410), (.str "attach_wanted" 411), (.str "/claim/cut.py" 412), (.int 80 0), (.int 1 0), (.int 0 0), (.int 0 0), (.int 3 0), (.ref 156), (.bool true), (.int 181 0), (.ref 157), .none, (.ref 158), (.ref 159), (.ref 160), (.int 414 0), (.int 80 0), (.str "/claim/cut.py" 415)]), #[]⟩) ::
  (nat_lit 162, ⟨(.type "function"), none, (fnD (stA 12) "attach_wanted" 3 [] .none .none .none (.str "joinedhand.flags" 319) none (.ref 161) .none 0), #[]⟩) ::
  (nat_lit 163, ⟨(.type "tuple"), none, (.seq #[] 0), #[]⟩) ::
  (nat_lit 165, ⟨(.type "tuple"), none, (.seq #[(.str "number" 420)] 0), #[]⟩) ::
  (nat_lit 166, ⟨(.type "tuple"), none, (.seq #[] 0), #[]⟩) ::
  (nat_lit 168, ⟨(.type "code"), none, (.fields #[(.str "class_bit" 417), (.str "class_bit" 418), (.str "/claim/cut.py" 419), (.int 82 0), (.int 1 0), (.int 0 0), (.int 0 0), (.int 3 0), (.ref 163), (.bool true), (.int 181 0), (.ref 164), .none, (.ref 165), (.ref 166), (.ref 167), (.int 421 0), (.int 82 0), (.str "/claim/cut.py" 422)]), #[]⟩) ::
  (nat_lit 169, ⟨(.type "function"), none, (fnD (stA 13) "class_bit" 3 [] .none .none .none (.str "joinedhand.flags" 319) none (.ref 168) .none 0), #[]⟩) ::
  (nat_lit 170, ⟨(.type "tuple"), none, (.seq #[] 0), #[]⟩) ::
  (nat_lit 172, ⟨(.type "tuple"), none, (.seq #[(.str "gdef" 427), (.str "lookup" 428), (.str "glyph" 429), (.str "number" 430), (.str "wanted" 431)] 0), #[]⟩) ::
  (nat_lit 173, ⟨(.type "tuple"), none, (.seq #[] 0), #[]⟩) ::
  (nat_lit 175, ⟨(.type "code"), none, (.fields #[(.str "is_ignored" 424), (.str "is_ignored" 425), (.str "/claim/cut.py" 426), (.int 84 0), (.int 3 0), (.int 0 0), (.int 0 0), (.int 3 0), (.ref 170), (.bool true), (.int 181 0), (.ref 171), .none, (.ref 172), (.ref 173), (.ref 174), (.int 432 0), (.int 84 0), (.str "/claim/cut.py" 433)]), #[]⟩) ::
  (nat_lit 176, ⟨(.type "function"), none, (fnD (stA 14) "is_ignored" 3 [] .none .none .none (.str "joinedhand.flags" 319) none (.ref 175) .none 0), #[]⟩) ::
  (nat_lit 177, ⟨(.type "tuple"), none, (.seq #[] 0), #[]⟩) ::
  (nat_lit 179, ⟨(.type "tuple"), none, (.seq #[(.str "scene" 438), (.str "at" 439)] 0), #[]⟩) ::
  (nat_lit 180, ⟨(.type "tuple"), none, (.seq #[] 0), #[]⟩) ::
  (nat_lit 182, ⟨(.type "code"), none, (.fields #[(.str "passes" 435), (.str "passes" 436), (.str "/claim/cut.py" 437), (.int 94 0), (.int 2 0), (.int 0 0), (.int 0 0), (.int 3 0), (.ref 177), (.bool true), (.int 181 0), (.ref 178), .none, (.ref 179), (.ref 180), (.ref 181), (.int 440 0), (.int 94 0), (.str "/claim/cut.py" 441)]), #[]⟩) ::
  (nat_lit 183, ⟨(.type "function"), none, (fnD (stA 15) "passes" 3 [] .none .none .none (.str "joinedhand.flags" 319) none (.ref 182) .none 0), #[]⟩) ::
  (nat_lit 184, ⟨(.type "tuple"), none, (.seq #[(.str "zwj" 445), (.str "zwnj" 446), (.str "hidden" 447)] 0), #[]⟩) ::
  (nat_lit 185, ⟨(.type "tuple"), none, (.seq #[] 0), #[]⟩) ::
  (nat_lit 187, ⟨(.type "tuple"), none, (.seq #[(.str "scene" 452), (.str "at" 453), (.str "step" 454), (.str "here" 455)] 0), #[]⟩) ::
  (nat_lit 188, ⟨(.type "tuple"), none, (.seq #[] 0), #[]⟩) ::
  (nat_lit 190, ⟨(.type "code"), none, (.fields #[(.str "neighbour" 449), (.str "neighbour" 450), (.str "/claim/cut.py" 451), (.int 98 0), (.int 3 0), (.int 0 0), (.int 0 0), (.int 3 0), (.ref 185), (.bool true), (.int 181 0), (.ref 186), .none, (.ref 187), (.ref 188), (.ref 189), (.int 456 0), (.int 98 0), (.str "/claim/cut.py" 457)]), #[]⟩) ::
  (nat_lit 191, ⟨(.type "function"), none, (fnD (stA 18) "neighbour" 3 [] .none .none .none (.str "joinedhand.matching" 443) none (.ref 190) .none 0), #[]⟩) ::
  (nat_lit 192, ⟨(.type "tuple"), none, (.seq #[] 0), #[]⟩) ::
  (nat_lit 194, ⟨(.type "tuple"), none, (.seq #[(.str "scene" 462), (.str "at" 463)] 0), #[]⟩) ::
  (nat_lit 195, ⟨(.type "tuple"), none, (.seq #[] 0), #[]⟩) ::
  (nat_lit 197, ⟨(.type "code"), none, (.fields #[(.str "next_at" 459), (.str "next_at" 460), (.str "/claim/cut.py" 461), (.int 105 0), (.int 2 0), (.int 0 0), (.int 0 0), (.int 3 0), (.ref 192), (.bool true), (.int 181 0), (.ref 193), .none, (.ref 194), (.ref 195), (.ref 196), (.int 464 0), (.int 105 0), (.str "/claim/cut.py" 465)]), #[]⟩) ::
  (nat_lit 198, ⟨(.type "function"), none, (fnD (stA 19) "next_at" 3 [] .none .none .none (.str "joinedhand.matching" 443) none (.ref 197) .none 0), #[]⟩) ::
  (nat_lit 206, ⟨(.type "tuple"), none, (.seq #[] 0), #[]⟩) ::
  (nat_lit 208, ⟨(.type "tuple"), none, (.seq #[(.str "self" 484), (.str "x_offset" 485), (.str "y_offset" 486), (.str "x_advance" 487), (.str "y_advance" 488)] 0), #[]⟩) ::
  (nat_lit 209, ⟨(.type "tuple"), none, (.seq #[] 0), #[]⟩) ::
  (nat_lit 211, ⟨(.type "code"), none, (.fields #[(.str "__init__" 481), (.str "Value.__init__" 482), (.str "/claim/cut.py" 483), (.int 110 0), (.int 5 0), (.int 0 0), (.int 0 0), (.int 3 0), (.ref 206), (.bool true), (.int 181 0), (.ref 207), .none, (.ref 208), (.ref 209), (.ref 210), (.int 489 0), (.int 110 0), (.str "/claim/cut.py" 490)]), #[]⟩) ::
  (nat_lit 212, ⟨(.type "function"), none, (fnD (stM 21 0) "Value.__init__" 3 [] .none .none .none (.str "joinedhand.values" 467) none (.ref 211) .none 0), #[]⟩) ::
  (nat_lit 213, ⟨(.type "tuple"), none, (.seq #[] 0), #[]⟩) ::
  (nat_lit 215, ⟨(.type "tuple"), none, (.seq #[(.str "self" 495)] 0), #[]⟩) ::
  (nat_lit 216, ⟨(.type "tuple"), none, (.seq #[] 0), #[]⟩) ::
  (nat_lit 218, ⟨(.type "code"), none, (.fields #[(.str "told" 492), (.str "Value.told" 493), (.str "/claim/cut.py" 494), (.int 116 0), (.int 1 0), (.int 0 0), (.int 0 0), (.int 3 0), (.ref 213), (.bool true), (.int 181 0), (.ref 214), .none, (.ref 215), (.ref 216), (.ref 217), (.int 496 0), (.int 116 0), (.str "/claim/cut.py" 497)]), #[]⟩) ::
  (nat_lit 219, ⟨(.type "function"), none, (fnD (stM 21 1) "Value.told" 3 [] .none .none .none (.str "joinedhand.values" 467) none (.ref 218) .none 0), #[]⟩) ::
  (nat_lit 220, ⟨(.type "tuple"), none, (.seq #[] 0), #[]⟩) ::
  (nat_lit 222, ⟨(.type "tuple"), none, (.seq #[(.str "self" 502)] 0), #[]⟩) ::
  (nat_lit 223, ⟨(.type "tuple"), none, (.seq #[] 0), #[]⟩) ::
  (nat_lit 225, ⟨(.type "code"), none, (.fields #[(.str "is_nothing" 499), (.str "Value.is_nothing" 500), (.str "/claim/cut.py" 501), (.int 119 0), (.int 1 0), (.int 0 0), (.int 0 0), (.int 3 0), (.ref 220), (.bool true), (.int 181 0), (.ref 221), .none, (.ref 222), (.ref 223), (.ref 224), (.int 503 0), (.int 119 0), (.str "/claim/cut.py" 504)]), #[]⟩) ::
  (nat_lit 226, ⟨(.type "function"), none, (fnD (stM 21 2) "Value.is_nothing" 3 [] .none .none .none (.str "joinedhand.values" 467) none (.ref 225) .none 0), #[]⟩) ::
  (nat_lit 227, ⟨(.type "tuple"), none, (.seq #[(.str "x_advance" 506), (.str "x_offset" 507), (.str "y_advance" 508), (.str "y_offset" 509)] 0), #[]⟩) ::
  (nat_lit 228, ⟨(.type "dict"), none, (.dict #[dEn P "__module__" 476 (.str "joinedhand.values" 467), dEn P "__firstlineno__" 480 (.int 108 479), dEn P "__init__" 491 (.ref 212), dEn P "told" 498 (.ref 219), dEn P "is_nothing" 505 (.ref 226), dEn P "__static_attributes__" 510 (.ref 227), dEn P "__dict__" 512 (.ref 230), dEn P "__weakref__" 514 (.ref 231), dEn P "__doc__" 515 .none] 4), #[]⟩) ::
  (nat_lit 229, ⟨(.type "type"), none, (.cls ⟨"Value", [(.type "object")], [(.ref 229), (.type "object")], 228, "Value", true, [], [], false, none, false⟩), #[none, none, (some (.str "Value" 469)), (some (.str "Value" 477)), (some (.builtin "object.__new__")), (some (.bool true))]⟩) ::
  (nat_lit 230, ⟨(.type "getset_descriptor"), none, (.fields #[(.str "__dict__" 511), (.ref 229), (.builtin "function.__dict__"), (.builtin "function.__dict__#set")]), #[]⟩) ::
  (nat_lit 231, ⟨(.type "getset_descriptor"), none, (.fields #[(.str "__weakref__" 513), (.ref 229), (.builtin "ExceptionGroup.__weakref__"), .none]), #[]⟩) ::
  (nat_lit 234, ⟨(.type "tuple"), none, (.seq #[] 0), #[]⟩) ::
  (nat_lit 236, ⟨(.type "tuple"), none, (.seq #[(.str "info" 521), (.str "value" 522), (.str "is_backward" 523)] 0), #[]⟩) ::
  (nat_lit 237, ⟨(.type "tuple"), none, (.seq #[] 0), #[]⟩) ::
  (nat_lit 239, ⟨(.type "code"), none, (.fields #[(.str "add_value" 518), (.str "add_value" 519), (.str "/claim/cut.py" 520), (.int 121 0), (.int 3 0), (.int 0 0), (.int 0 0), (.int 3 0), (.ref 234), (.bool true), (.int 181 0), (.ref 235), .none, (.ref 236), (.ref 237), (.ref 238), (.int 524 0), (.int 121 0), (.str "/claim/cut.py" 525)]), #[]⟩) ::
  (nat_lit 240, ⟨(.type "function"), none, (fnD (stA 22) "add_value" 3 [] .none .none .none (.str "joinedhand.values" 467) none (.ref 239) .none 0), #[]⟩) ::
  (nat_lit 241, ⟨(.type "tuple"), none, (.seq #[] 0), #[]⟩) ::
  (nat_lit 243, ⟨(.type "tuple"), none, (.seq #[(.str "pair" 532)] 0), #[]⟩) ::
  (nat_lit 244, ⟨(.type "tuple"), none, (.seq #[] 0), #[]⟩) ::
  (nat_lit 246, ⟨(.type "code"), none, (.fields #[(.str "pair_told" 529), (.str "pair_told" 530), (.str "/claim/cut.py" 531), (.int 126 0), (.int 1 0), (.int 0 0), (.int 0 0), (.int 3 0), (.ref 241), (.bool true), (.int 181 0), (.ref 242), .none, (.ref 243), (.ref 244), (.ref 245), (.int 533 0), (.int 126 0), (.str "/claim/cut.py" 534)]), #[]⟩) ::
  (nat_lit 247, ⟨(.type "function"), none, (fnD (stA 24) "pair_told" 3 [] .none .none .none (.str "joinedhand.pair" 527) none (.ref 246) .none 0), #[]⟩) ::
  (nat_lit 248, ⟨(.type "tuple"), none, (.seq #[] 0), #[]⟩) ::
  (nat_lit 251, ⟨(.type "code"), none, (.fields #[(.str "moves_second" 536), (.str "moves_second" 537), (.str "/claim/cut.py" 538), (.int 128 0), (.int 1 0), (.int 0 0), (.int 0 0), (.int 3 0), (.ref 248), (.bool true), (.int 181 0), (.ref 249), .none, .none, .none, (.ref 250), (.int 539 0), (.int 128 0), (.str "/claim/cut.py" 540)]), #[]⟩) ::
  (nat_lit 252, ⟨(.type "function"), none, (fnD (stA 25) "moves_second" 3 [] .none .none .none (.str "joinedhand.pair" 527) none (.ref 251) .none 0), #[]⟩) ::
  (nat_lit 260, ⟨(.type "tuple"), none, (.seq #[(.bool false)] 0), #[]⟩) ::
  (nat_lit 261, ⟨(.type "tuple"), none, (.seq #[] 0), #[]⟩) ::
  (nat_lit 263, ⟨(.type "tuple"), none, (.seq #[(.str "self" 557), (.str "pairs" 558), (.str "is_second" 559)] 0), #[]⟩) ::
  (nat_lit 264, ⟨(.type "tuple"), none, (.seq #[] 0), #[]⟩) ::
  (nat_lit 266, ⟨(.type "code"), none, (.fields #[(.str "__init__" 554), (.str "PairGlyphs.__init__" 555), (.str "/claim/cut.py" 556), (.int 132 0), (.int 3 0), (.int 0 0), (.int 0 0), (.int 3 0), (.ref 261), (.bool true), (.int 181 0), (.ref 262), .none, (.ref 263), (.ref 264), (.ref 265), (.int 560 0), (.int 132 0), (.str "/claim/cut.py" 561)]), #[]⟩) ::
  (nat_lit 267, ⟨(.type "function"), none, (fnD (stM 26 0) "PairGlyphs.__init__" 3 [] (.ref 260) .none .none (.str "joinedhand.pair" 527) none (.ref 266) .none 0), #[]⟩) ::
  (nat_lit 268, ⟨(.type "tuple"), none, (.seq #[] 0), #[]⟩) ::
  (nat_lit 270, ⟨(.type "tuple"), none, (.seq #[(.str "self" 566), (.str "first" 567), (.str "second" 568)] 0), #[]⟩) ::
  (nat_lit 271, ⟨(.type "tuple"), none, (.seq #[] 0), #[]⟩) ::
  (nat_lit 273, ⟨(.type "code"), none, (.fields #[(.str "find" 563), (.str "PairGlyphs.find" 564), (.str "/claim/cut.py" 565), (.int 136 0), (.int 3 0), (.int 0 0), (.int 0 0), (.int 3 0), (.ref 268), (.bool true), (.int 181 0), (.ref 269), .none, (.ref 270), (.ref 271), (.ref 272), (.int 569 0), (.int 136 0), (.str "/claim/cut.py" 570)]), #[]⟩) ::
  (nat_lit 274, ⟨(.type "function"), none, (fnD (stM 26 1) "PairGlyphs.find" 3 [] .none .none .none (.str "joinedhand.pair" 527) none (.ref 273) .none 0), #[]⟩) ::
  (nat_lit 275, ⟨(.type "tuple"), none, (.seq #[] 0), #[]⟩) ::
  (nat_lit 278, ⟨(.type "code"), none, (.fields #[(.str "told" 572), (.str "PairGlyphs.told" 573), (.str "/claim/cut.py" 574), (.int 139 0), (.int 1 0), (.int 0 0), (.int 0 0), (.int 3 0), (.ref 275), (.bool true), (.int 181 0), (.ref 276), .none, .none, .none, (.ref 277), (.int 575 0), (.int 139 0), (.str "/claim/cut.py" 576)]), #[]⟩) ::
  (nat_lit 279, ⟨(.type "function"), none, (fnD (stM 26 2) "PairGlyphs.told" 3 [] .none .none .none (.str "joinedhand.pair" 527) none (.ref 278) .none 0), #[]⟩) ::
  (nat_lit 280, ⟨(.type "tuple"), none, (.seq #[(.str "is_second" 578), (.str "pairs" 579)] 0), #[]⟩) ::
  (nat_lit 281, ⟨(.type "dict"), none, (.dict #[dEn P "__module__" 549 (.str "joinedhand.pair" 527), dEn P "__firstlineno__" 553 (.int 130 552), dEn P "__init__" 562 (.ref 267), dEn P "find" 571 (.ref 274), dEn P "told" 577 (.ref 279), dEn P "__static_attributes__" 580 (.ref 280), dEn P "__dict__" 582 (.ref 283), dEn P "__weakref__" 584 (.ref 284), dEn P "__doc__" 585 .none] 4), #[]⟩) ::
  (nat_lit 282, ⟨(.type "type"), none, (.cls ⟨"PairGlyphs", [(.type "object")], [(.ref 282), (.type "object")], 281, "PairGlyphs", true, [], [], false, none, false⟩), #[none, none, (some (.str "PairGlyphs" 542)), (some (.str "PairGlyphs" 550)), (some (.builtin "object.__new__")), (some (.bool true))]⟩) ::
  (nat_lit 283, ⟨(.type "getset_descriptor"), none, (.fields #[(.str "__dict__" 581), (.ref 282), (.builtin "function.__dict__"), (.builtin "function.__dict__#set")]), #[]⟩) ::
  (nat_lit 284, ⟨(.type "getset_descriptor"), none, (.fields #[(.str "__weakref__" 583), (.ref 282), (.builtin "ExceptionGroup.__weakref__"), .none]), #[]⟩) ::
  (nat_lit 294, ⟨(.type "tuple"), none, (.seq #[(.bool false)] 0), #[]⟩) ::
  (nat_lit 295, ⟨(.type "tuple"), none, (.seq #[] 0), #[]⟩) ::
  (nat_lit 298, ⟨(.type "code"), none, (.fields #[(.str "__init__" 600), (.str "PairClasses.__init__" 601), (.str "/claim/cut.py" 602), (.int 144 0), (.int 6 0), (.int 0 0), (.int 0 0), (.int 3 0), (.ref 295), (.bool true), (.int 181 0), (.ref 296), .none, .none, .none, (.ref 297), (.int 603 0), (.int 144 0), (.str "/claim/cut.py" 604)]), #[]⟩) ::
  (nat_lit 299, ⟨(.type "function"), none, (fnD (stM 27 0) "PairClasses.__init__" 3 [] (.ref 294) .none .none (.str "joinedhand.pair" 527) none (.ref 298) .none 0), #[]⟩) ::
  (nat_lit 300, ⟨(.type "tuple"), none, (.seq #[] 0), #[]⟩) ::
  (nat_lit 302, ⟨(.type "tuple"), none, (.seq #[(.str "self" 609), (.str "first" 610), (.str "second" 611), (.str "one" 612), (.str "other" 613)] 0), #[]⟩) ::
  (nat_lit 303, ⟨(.type "tuple"), none, (.seq #[] 0), #[]⟩) ::
  (nat_lit 305, ⟨(.type "code"), none, (.fields #[(.str "find" 606), (.str "PairClasses.find" 607), (.str "/claim/cut.py" 608), (.int 151 0), (.int 3 0), (.int 0 0), (.int 0 0), (.int 3 0), (.ref 300), (.bool true), (.int 181 0), (.ref 301), .none, (.ref 302), (.ref 303), (.ref 304), (.int 614 0), (.int 151 0), (.str "/claim/cut.py" 615)]), #[]⟩) ::
  (nat_lit 306, ⟨(.type "function"), none, (fnD (stM 27 1) "PairClasses.find" 3 [] .none .none .none (.str "joinedhand.pair" 527) none (.ref 305) .none 0), #[]⟩) ::
  (nat_lit 307, ⟨(.type "tuple"), none, (.seq #[] 0), #[]⟩) ::
  (nat_lit 310, ⟨(.type "code"), none, (.fields #[(.str "told" 617), (.str "PairClasses.told" 618), (.str "/claim/cut.py" 619), (.int 160 0), (.int 1 0), (.int 0 0), (.int 0 0), (.int 3 0), (.ref 307), (.bool true), (.int 181 0), (.ref 308), .none, .none, .none, (.ref 309), (.int 620 0), (.int 160 0), (.str "/claim/cut.py" 621)]), #[]⟩) ::
  (nat_lit 311, ⟨(.type "function"), none, (fnD (stM 27 2) "PairClasses.told" 3 [] .none .none .none (.str "joinedhand.pair" 527) none (.ref 310) .none 0), #[]⟩) ::
  (nat_lit 312, ⟨(.type "tuple"), none, (.seq #[(.str "coverage" 623), (.str "firsts" 624), (.str "is_second" 625), (.str "rows" 626), (.str "seconds" 627)] 0), #[]⟩) ::
  (nat_lit 313, ⟨(.type "dict"), none, (.dict #[dEn P "__module__" 595 (.str "joinedhand.pair" 527), dEn P "__firstlineno__" 599 (.int 142 598), dEn P "__init__" 605 (.ref 299), dEn P "find" 616 (.ref 306), dEn P "told" 622 (.ref 311), dEn P "__static_attributes__" 628 (.ref 312), dEn P "__dict__" 630 (.ref 315), dEn P "__weakref__" 632 (.ref 316), dEn P "__doc__" 633 .none] 4), #[]⟩) ::
  (nat_lit 314, ⟨(.type "type"), none, (.cls ⟨"PairClasses", [(.type "object")], [(.ref 314), (.type "object")], 313, "PairClasses", true, [], [], false, none, false⟩), #[none, none, (some (.str "PairClasses" 588)), (some (.str "PairClasses" 596)), (some (.builtin "object.__new__")), (some (.bool true))]⟩) ::
  (nat_lit 315, ⟨(.type "getset_descriptor"), none, (.fields #[(.str "__dict__" 629), (.ref 314), (.builtin "function.__dict__"), (.builtin "function.__dict__#set")]), #[]⟩) ::
  (nat_lit 316, ⟨(.type "getset_descriptor"), none, (.fields #[(.str "__weakref__" 631), (.ref 314), (.builtin "ExceptionGroup.__weakref__"), .none]), #[]⟩) ::
  (nat_lit 319, ⟨(.type "tuple"), none, (.seq #[] 0), #[]⟩) ::
  (nat_lit 321, ⟨(.type "tuple"), none, (.seq #[(.str "table" 639)] 0), #[]⟩) ::
  (nat_lit 322, ⟨(.type "tuple"), none, (.seq #[] 0), #[]⟩) ::
  (nat_lit 324, ⟨(.type "code"), none, (.fields #[(.str "has_second" 636), (.str "has_second" 637), (.str "/claim/cut.py" 638), (.int 163 0), (.int 1 0), (.int 0 0), (.int 0 0), (.int 3 0), (.ref 319), (.bool true), (.int 181 0), (.ref 320), .none, (.ref 321), (.ref 322), (.ref 323), (.int 640 0), (.int 163 0), (.str "/claim/cut.py" 641)]), #[]⟩) ::
  (nat_lit 325, ⟨(.type "function"), none, (fnD (stA 28) "has_second" 3 [] .none .none .none (.str "joinedhand.pair" 527) none (.ref 324) .none 0), #[]⟩) ::
  (nat_lit 326, ⟨(.type "tuple"), none, (.seq #[] 0), #[]⟩) ::
  (nat_lit 328, ⟨(.type "tuple"), none, (.seq #[(.str "scene" 646), (.str "table" 647), (.str "at" 648), (.str "later" 649), (.str "row" 650), (.str "pair" 651)] 0), #[]⟩) ::
  (nat_lit 329, ⟨(.type "tuple"), none, (.seq #[] 0), #[]⟩) ::
  (nat_lit 331, ⟨(.type "code"), none, (.fields #[(.str "apply_pair" 643), (.str "apply_pair" 644), (.str "/claim/cut.py" 645), (.int 165 0), (.int 3 0), (.int 0 0), (.int 0 0), (.int 3 0), (.ref 326), (.bool true), (.int 181 0), (.ref 327), .none, (.ref 328), (.ref 329), (.ref 330), (.int 652 0), (.int 165 0), (.str "/claim/cut.py" 653)]), #[]⟩) ::
  (nat_lit 332, ⟨(.type "function"), none, (fnD (stA 29) "apply_pair" 3 [] .none .none .none (.str "joinedhand.pair" 527) none (.ref 331) .none 0), #[]⟩) ::
  (nat_lit 340, ⟨(.type "tuple"), none, (.seq #[] 0), #[]⟩) ::
  (nat_lit 342, ⟨(.type "tuple"), none, (.seq #[(.str "self" 672), (.str "classes" 673)] 0), #[]⟩) ::
  (nat_lit 343, ⟨(.type "tuple"), none, (.seq #[] 0), #[]⟩) ::
  (nat_lit 345, ⟨(.type "code"), none, (.fields #[(.str "__init__" 669), (.str "ClassDef.__init__" 670), (.str "/claim/cut.py" 671), (.int 180 0), (.int 2 0), (.int 0 0), (.int 0 0), (.int 3 0), (.ref 340), (.bool true), (.int 181 0), (.ref 341), .none, (.ref 342), (.ref 343), (.ref 344), (.int 674 0), (.int 180 0), (.str "/claim/cut.py" 675)]), #[]⟩) ::
  (nat_lit 346, ⟨(.type "function"), none, (fnD (stM 31 0) "ClassDef.__init__" 3 [] .none .none .none (.str "joinedhand.classdefs" 655) none (.ref 345) .none 0), #[]⟩) ::
  (nat_lit 347, ⟨(.type "tuple"), none, (.seq #[] 0), #[]⟩) ::
  (nat_lit 349, ⟨(.type "tuple"), none, (.seq #[(.str "self" 680), (.str "glyph" 681)] 0), #[]⟩) ::
  (nat_lit 350, ⟨(.type "tuple"), none, (.seq #[] 0), #[]⟩) ::
  (nat_lit 352, ⟨(.type "code"), none, (.fields #[(.str "class_of" 677), (.str "ClassDef.class_of" 678), (.str "/claim/cut.py" 679), (.int 183 0), (.int 2 0), (.int 0 0), (.int 0 0), (.int 3 0), (.ref 347), (.bool true), (.int 181 0), (.ref 348), .none, (.ref 349), (.ref 350), (.ref 351), (.int 682 0), (.int 183 0), (.str "/claim/cut.py" 683)]), #[]⟩) ::
  (nat_lit 353, ⟨(.type "function"), none, (fnD (stM 31 1) "ClassDef.class_of" 3 [] .none .none .none (.str "joinedhand.classdefs" 655) none (.ref 352) .none 0), #[]⟩) ::
  (nat_lit 354, ⟨(.type "tuple"), none, (.seq #[] 0), #[]⟩) ::
  (nat_lit 356, ⟨(.type "tuple"), none, (.seq #[(.str "self" 688), (.str "number" 689)] 0), #[]⟩) ::
  (nat_lit 357, ⟨(.type "tuple"), none, (.seq #[] 0), #[]⟩) ::
  (nat_lit 359, ⟨(.type "code"), none, (.fields #[(.str "glyphs_of" 685), (.str "ClassDef.glyphs_of" 686), (.str "/claim/cut.py" 687), (.int 186 0), (.int 2 0), (.int 0 0), (.int 0 0), (.int 3 0), (.ref 354), (.bool true), (.int 181 0), (.ref 355), .none, (.ref 356), (.ref 357), (.ref 358), (.int 690 0), (.int 186 0), (.str "/claim/cut.py" 691)]), #[]⟩) ::
  (nat_lit 360, ⟨(.type "function"), none, (fnD (stM 31 2) "ClassDef.glyphs_of" 3 [] .none .none .none (.str "joinedhand.classdefs" 655) none (.ref 359) .none 0), #[]⟩) ::
  (nat_lit 361, ⟨(.type "tuple"), none, (.seq #[] 0), #[]⟩) ::
  (nat_lit 363, ⟨(.type "tuple"), none, (.seq #[(.str "self" 696), (.str "most" 697), (.str "glyph" 698)] 0), #[]⟩) ::
  (nat_lit 364, ⟨(.type "tuple"), none, (.seq #[] 0), #[]⟩) ::
  (nat_lit 366, ⟨(.type "code"), none, (.fields #[(.str "count" 693), (.str "ClassDef.count" 694), (.str "/claim/cut.py" 695), (.int 189 0), (.int 1 0), (.int 0 0), (.int 0 0), (.int 3 0), (.ref 361), (.bool true), (.int 181 0), (.ref 362), .none, (.ref 363), (.ref 364), (.ref 365), (.int 699 0), (.int 189 0), (.str "/claim/cut.py" 700)]), #[]⟩) ::
  (nat_lit 367, ⟨(.type "function"), none, (fnD (stM 31 3) "ClassDef.count" 3 [] .none .none .none (.str "joinedhand.classdefs" 655) none (.ref 366) .none 0), #[]⟩) ::
  (nat_lit 368, ⟨(.type "tuple"), none, (.seq #[] 0), #[]⟩) ::
  (nat_lit 371, ⟨(.type "code"), none, (.fields #[(.str "told" 702), (.str "ClassDef.told" 703), (.str "/claim/cut.py" 704), (.int 195 0), (.int 1 0), (.int 0 0), (.int 0 0), (.int 3 0), (.ref 368), (.bool true), (.int 181 0), (.ref 369), .none, .none, .none, (.ref 370), (.int 705 0), (.int 195 0), (.str "/claim/cut.py" 706)]), #[]⟩) ::
  (nat_lit 372, ⟨(.type "function"), none, (fnD (stM 31 4) "ClassDef.told" 3 [] .none .none .none (.str "joinedhand.classdefs" 655) none (.ref 371) .none 0), #[]⟩) ::
  (nat_lit 373, ⟨(.type "tuple"), none, (.seq #[(.str "classes" 708)] 0), #[]⟩) ::
  (nat_lit 374, ⟨(.type "dict"), none, (.dict #[dEn P "__module__" 664 (.str "joinedhand.classdefs" 655), dEn P "__firstlineno__" 668 (.int 178 667), dEn P "__init__" 676 (.ref 346), dEn P "class_of" 684 (.ref 353), dEn P "glyphs_of" 692 (.ref 360), dEn P "count" 701 (.ref 367), dEn P "told" 707 (.ref 372), dEn P "__static_attributes__" 709 (.ref 373), dEn P "__dict__" 711 (.ref 376), dEn P "__weakref__" 713 (.ref 377), dEn P "__doc__" 714 .none] 4), #[]⟩) ::
  (nat_lit 375, ⟨(.type "type"), none, (.cls ⟨"ClassDef", [(.type "object")], [(.ref 375), (.type "object")], 374, "ClassDef", true, [], [], false, none, false⟩), #[none, none, (some (.str "ClassDef" 657)), (some (.str "ClassDef" 665)), (some (.builtin "object.__new__")), (some (.bool true))]⟩) ::
  (nat_lit 376, ⟨(.type "getset_descriptor"), none, (.fields #[(.str "__dict__" 710), (.ref 375), (.builtin "function.__dict__"), (.builtin "function.__dict__#set")]), #[]⟩) ::
  (nat_lit 377, ⟨(.type "getset_descriptor"), none, (.fields #[(.str "__weakref__" 712), (.ref 375), (.builtin "ExceptionGroup.__weakref__"), .none]), #[]⟩) ::
  (nat_lit 387, ⟨(.type "tuple"), none, (.seq #[] 0), #[]⟩) ::
  (nat_lit 389, ⟨(.type "tuple"), none, (.seq #[(.str "self" 734), (.str "glyphs" 735)] 0), #[]⟩) ::
  (nat_lit 390, ⟨(.type "tuple"), none, (.seq #[] 0), #[]⟩) ::
  (nat_lit 392, ⟨(.type "code"), none, (.fields #[(.str "__init__" 731), (.str "Coverage.__init__" 732), (.str "/claim/cut.py" 733), (.int 200 0), (.int 2 0), (.int 0 0), (.int 0 0), (.int 3 0), (.ref 387), (.bool true), (.int 181 0), (.ref 388), .none, (.ref 389), (.ref 390), (.ref 391), (.int 736 0), (.int 200 0), (.str "/claim/cut.py" 737)]), #[]⟩) ::
  (nat_lit 393, ⟨(.type "function"), none, (fnD (stM 33 0) "Coverage.__init__" 3 [] .none .none .none (.str "joinedhand.coverage" 717) none (.ref 392) .none 0), #[]⟩) ::
  (nat_lit 394, ⟨(.type "tuple"), none, (.seq #[] 0), #[]⟩) ::
  (nat_lit 396, ⟨(.type "tuple"), none, (.seq #[(.str "self" 742), (.str "glyph" 743), (.str "low" 744), (.str "high" 745), (.str "middle" 746)] 0), #[]⟩) ::
  (nat_lit 397, ⟨(.type "tuple"), none, (.seq #[] 0), #[]⟩) ::
  (nat_lit 399, ⟨(.type "code"), none, (.fields #[(.str "index" 739), (.str "Coverage.index" 740), (.str "/claim/cut.py" 741), (.int 203 0), (.int 2 0), (.int 0 0), (.int 0 0), (.int 3 0), (.ref 394), (.bool true), (.int 181 0), (.ref 395), .none, (.ref 396), (.ref 397), (.ref 398), (.int 747 0), (.int 203 0), (.str "/claim/cut.py" 748)]), #[]⟩) ::
  (nat_lit 400, ⟨(.type "function"), none, (fnD (stM 33 1) "Coverage.index" 3 [] .none .none .none (.str "joinedhand.coverage" 717) none (.ref 399) .none 0), #[]⟩) ::
  (nat_lit 401, ⟨(.type "tuple"), none, (.seq #[] 0), #[]⟩) ::
  (nat_lit 403, ⟨(.type "tuple"), none, (.seq #[(.str "self" 753), (.str "glyph" 754)] 0), #[]⟩) ::
  (nat_lit 404, ⟨(.type "tuple"), none, (.seq #[] 0), #[]⟩) ::
  (nat_lit 406, ⟨(.type "code"), none, (.fields #[(.str "has" 750), (.str "Coverage.has" 751), (.str "/claim/cut.py" 752), (.int 216 0), (.int 2 0), (.int 0 0), (.int 0 0), (.int 3 0), (.ref 401), (.bool true), (.int 181 0), (.ref 402), .none, (.ref 403), (.ref 404), (.ref 405), (.int 755 0), (.int 216 0), (.str "/claim/cut.py" 756)]), #[]⟩) ::
  (nat_lit 407, ⟨(.type "function"), none, (fnD (stM 33 2) "Coverage.has" 3 [] .none .none .none (.str "joinedhand.coverage" 717) none (.ref 406) .none 0), #[]⟩) ::
  (nat_lit 408, ⟨(.type "tuple"), none, (.seq #[] 0), #[]⟩) ::
  (nat_lit 410, ⟨(.type "tuple"), none, (.seq #[(.str "self" 761)] 0), #[]⟩) ::
  (nat_lit 411, ⟨(.type "tuple"), none, (.seq #[] 0), #[]⟩) ::
  (nat_lit 413, ⟨(.type "code"), none, (.fields #[(.str "told" 758), (.str "Coverage.told" 759), (.str "/claim/cut.py" 760), (.int 219 0), (.int 1 0), (.int 0 0), (.int 0 0), (.int 3 0), (.ref 408), (.bool true), (.int 181 0), (.ref 409), .none, (.ref 410), (.ref 411), (.ref 412), (.int 762 0), (.int 219 0), (.str "/claim/cut.py" 763)]), #[]⟩) ::
  (nat_lit 414, ⟨(.type "function"), none, (fnD (stM 33 3) "Coverage.told" 3 [] .none .none .none (.str "joinedhand.coverage" 717) none (.ref 413) .none 0), #[]⟩) ::
  (nat_lit 415, ⟨(.type "tuple"), none, (.seq #[(.str "glyphs" 765)] 0), #[]⟩) ::
  (nat_lit 416, ⟨(.type "dict"), none, (.dict #[dEn P "__module__" 726 (.str "joinedhand.coverage" 717), dEn P "__firstlineno__" 730 (.int 198 729), dEn P "__init__" 738 (.ref 393), dEn P "index" 749 (.ref 400), dEn P "has" 757 (.ref 407), dEn P "told" 764 (.ref 414), dEn P "__static_attributes__" 766 (.ref 415), dEn P "__dict__" 768 (.ref 418), dEn P "__weakref__" 770 (.ref 419), dEn P "__doc__" 771 .none] 4), #[]⟩) ::
  (nat_lit 417, ⟨(.type "type"), none, (.cls ⟨"Coverage", [(.type "object")], [(.ref 417), (.type "object")], 416, "Coverage", true, [], [], false, none, false⟩), #[none, none, (some (.str "Coverage" 719)), (some (.str "Coverage" 727)), (some (.builtin "object.__new__")), (some (.bool true))]⟩) ::
  (nat_lit 418, ⟨(.type "getset_descriptor"), none, (.fields #[(.str "__dict__" 767), (.ref 417), (.builtin "function.__dict__"), (.builtin "function.__dict__#set")]), #[]⟩) ::
  (nat_lit 419, ⟨(.type "getset_descriptor"), none, (.fields #[(.str "__weakref__" 769), (.ref 417), (.builtin "ExceptionGroup.__weakref__"), .none]), #[]⟩) ::
  (nat_lit 422, ⟨(.type "tuple"), none, (.seq #[] 0), #[]⟩) ::
  (nat_lit 424, ⟨(.type "tuple"), none, (.seq #[(.str "glyphs" 777), (.str "found" 778), (.str "glyph" 779)] 0), #[]⟩) ::
  (nat_lit 425, ⟨(.type "tuple"), none, (.seq #[] 0), #[]⟩) ::
  (nat_lit 427, ⟨(.type "code"), none, (.fields #[(.str "coverage_of" 774), (.str "coverage_of" 775), (.str "/claim/cut.py" 776), (.int 221 0), (.int 1 0), (.int 0 0), (.int 0 0), (.int 3 0), (.ref 422), (.bool true), (.int 181 0), (.ref 423), .none, (.ref 424), (.ref 425), (.ref 426), (.int 780 0), (.int 221 0), (.str "/claim/cut.py" 781)]), #[]⟩) ::
  (nat_lit 428, ⟨(.type "function"), none, (fnD (stA 34) "coverage_of" 3 [] .none .none .none (.str "joinedhand.coverage" 717) none (.ref 427) .none 0), #[]⟩) ::
  (nat_lit 436, ⟨(.type "tuple"), none, (.seq #[.none, .none] 0), #[]⟩) ::
  (nat_lit 437, ⟨(.type "tuple"), none, (.seq #[] 0), #[]⟩) ::
  (nat_lit 439, ⟨(.type "tuple"), none, (.seq #[(.str "self" 806), (.str "classes" 807), (.str "attach" 808), (.str "sets" 809), (.str "points" 810), (.str "carets" 811)] 0), #[]⟩) ::
  (nat_lit 440, ⟨(.type "tuple"), none, (.seq #[] 0), #[]⟩) ::
  (nat_lit 442, ⟨(.type "code"), none, (.fields #[(.str "__init__" 803), (.str "Gdef.__init__" 804), (.str "/claim/cut.py" 805), (.int 232 0), (.int 6 0), (.int 0 0), (.int 0 0), (.int 3 0), (.ref 437), (.bool true), (.int 181 0), (.ref 438), .none, (.ref 439), (.ref 440), (.ref 441), (.int 812 0), (.int 232 0), (.str "/claim/cut.py" 813)]), #[]⟩) ::
  (nat_lit 443, ⟨(.type "function"), none, (fnD (stM 39 0) "Gdef.__init__" 3 [] (.ref 436) .none .none (.str "joinedhand.gdef" 783) none (.ref 442) .none 0), #[]⟩) ::
  (nat_lit 444, ⟨(.type "tuple"), none, (.seq #[] 0), #[]⟩) ::
  (nat_lit 446, ⟨(.type "tuple"), none, (.seq #[(.str "self" 818), (.str "glyph" 819), (.str "number" 820)] 0), #[]⟩) ::
  (nat_lit 447, ⟨(.type "tuple"), none, (.seq #[] 0), #[]⟩) ::
  (nat_lit 449, ⟨(.type "code"), none, (.fields #[(.str "glyph_class" 815), (.str "Gdef.glyph_class" 816), (.str "/claim/cut.py" 817), (.int 239 0), (.int 2 0), (.int 0 0), (.int 0 0), (.int 3 0), (.ref 444), (.bool true), (.int 181 0), (.ref 445), .none, (.ref 446), (.ref 447), (.ref 448), (.int 821 0), (.int 239 0), (.str "/claim/cut.py" 822)]), #[]⟩) ::
  (nat_lit 450, ⟨(.type "function"), none, (fnD (stM 39 1) "Gdef.glyph_class" 3 [] .none .none .none (.str "joinedhand.gdef" 783) none (.ref 449) .none 0), #[]⟩) ::
  (nat_lit 451, ⟨(.type "tuple"), none, (.seq #[] 0), #[]⟩) ::
  (nat_lit 453, ⟨(.type "tuple"), none, (.seq #[(.str "self" 827), (.str "glyph" 828)] 0), #[]⟩) ::
  (nat_lit 454, ⟨(.type "tuple"), none, (.seq #[] 0), #[]⟩) ::
  (nat_lit 456, ⟨(.type "code"), none, (.fields #[(.str "attach_class" 824), (.str "Gdef.attach_class" 825), (.str "/claim/cut.py" 826), (.int 243 0), (.int 2 0), (.int 0 0), (.int 0 0), (.int 3 0), (.ref 451), (.bool true), (.int 181 0), (.ref 452), .none, (.ref 453), (.ref 454), (.ref 455), (.int 829 0), (.int 243 0), (.str "/claim/cut.py" 830)]), #[]⟩) ::
  (nat_lit 457, ⟨(.type "function"), none, (fnD (stM 39 2) "Gdef.attach_class" 3 [] .none .none .none (.str "joinedhand.gdef" 783) none (.ref 456) .none 0), #[]⟩) ::
  (nat_lit 458, ⟨(.type "tuple"), none, (.seq #[] 0), #[]⟩) ::
  (nat_lit 460, ⟨(.type "tuple"), none, (.seq #[(.str "self" 835), (.str "number" 836), (.str "glyph" 837)] 0), #[]⟩) ::
  (nat_lit 461, ⟨(.type "tuple"), none, (.seq #[] 0), #[]⟩) ::
  (nat_lit 463, ⟨(.type "code"), none, (.fields #[(.str "is_in_set" 832), (.str "Gdef.is_in_set" 833), (.str "/claim/cut.py" 834), (.int 246 0), (.int 3 0), (.int 0 0), (.int 0 0), (.int 3 0), (.ref 458), (.bool true), (.int 181 0), (.ref 459), .none, (.ref 460), (.ref 461), (.ref 462), (.int 838 0), (.int 246 0), (.str "/claim/cut.py" 839)]), #[]⟩) ::
  (nat_lit 464, ⟨(.type "function"), none, (fnD (stM 39 3) "Gdef.is_in_set" 3 [] .none .none .none (.str "joinedhand.gdef" 783) none (.ref 463) .none 0), #[]⟩) ::
  (nat_lit 465, ⟨(.type "tuple"), none, (.seq #[] 0), #[]⟩) ::
  (nat_lit 468, ⟨(.type "code"), none, (.fields #[(.str "told" 841), (.str "Gdef.told" 842), (.str "/claim/cut.py" 843), (.int 249 0), (.int 1 0), (.int 0 0), (.int 0 0), (.int 3 0), (.ref 465), (.bool true), (.int 181 0), (.ref 466), .none, .none, .none, (.ref 467), (.int 844 0), (.int 249 0), (.str "/claim/cut.py" 845)]), #[]⟩) ::
  (nat_lit 469, ⟨(.type "function"), none, (fnD (stM 39 4) "Gdef.told" 3 [] .none .none .none (.str "joinedhand.gdef" 783) none (.ref 468) .none 0), #[]⟩) ::
  (nat_lit 470, ⟨(.type "tuple"), none, (.seq #[(.str "attach" 847), (.str "carets" 848), (.str "classes" 849), (.str "points" 850), (.str "sets" 851)] 0), #[]⟩) ::
  (nat_lit 471, ⟨(.type "dict"), none, (.dict #[dEn P "__module__" 798 (.str "joinedhand.gdef" 783), dEn P "__firstlineno__" 802 (.int 230 801), dEn P "__init__" 814 (.ref 443), dEn P "glyph_class" 823 (.ref 450), dEn P "attach_class" 831 (.ref 457), dEn P "is_in_set" 840 (.ref 464), dEn P "told" 846 (.ref 469), dEn P "__static_attributes__" 852 (.ref 470), dEn P "__dict__" 854 (.ref 473), dEn P "__weakref__" 856 (.ref 474), dEn P "__doc__" 857 .none] 4), #[]⟩) ::
  (nat_lit 472, ⟨(.type "type"), none, (.cls ⟨"Gdef", [(.type "object")], [(.ref 472), (.type "object")], 471, "Gdef", true, [], [], false, none, false⟩), #[none, none, (some (.str "Gdef" 791)), (some (.str "Gdef" 799)), (some (.builtin "object.__new__")), (some (.bool true))]⟩) ::
  (nat_lit 473, ⟨(.type "getset_descriptor"), none, (.fields #[(.str "__dict__" 853), (.ref 472), (.builtin "function.__dict__"), (.builtin "function.__dict__#set")]), #[]⟩) ::
  (nat_lit 474, ⟨(.type "getset_descriptor"), none, (.fields #[(.str "__weakref__" 855), (.ref 472), (.builtin "ExceptionGroup.__weakref__"), .none]), #[]⟩) ::
  (nat_lit 477, ⟨(.type "tuple"), none, (.seq #[(.int 0 862), (.int 0 863), (.int (-30) 865), (.int 0 866)] 0), #[]⟩) ::
  (nat_lit 478, ⟨(.type "tuple"), none, (.seq #[(.int 0 867), (.int 0 868), (.int 0 869), (.int 0 870)] 0), #[]⟩) ::
  (nat_lit 479, ⟨(.type "tuple"), none, (.seq #[(.int 5 871), (.int (-7) 873), (.int 0 874), (.int 11 875)] 0), #[]⟩) ::
  (nat_lit 480, ⟨(.type "tuple"), none, (.seq #[(.int 1 876), (.int 2 877), (.int 3 878), (.int 4 879)] 0), #[]⟩) ::
  (nat_lit 481, ⟨(.type "tuple"), none, (.seq #[(.ref 477), (.ref 478), (.ref 479), (.ref 480)] 0), #[]⟩) ::
  (nat_lit 482, ⟨(.type "tuple"), none, (.seq #[] 0), #[]⟩) ::
  (nat_lit 484, ⟨(.type "tuple"), none, (.seq #[(.str "pen" 884), (.str "many" 885), (.str "digit" 886), (.str "spot" 887), (.str "cell" 888), (.str "great" 889)] 0), #[]⟩) ::
  (nat_lit 485, ⟨(.type "tuple"), none, (.seq #[] 0), #[]⟩) ::
  (nat_lit 487, ⟨(.type "code"), none, (.fields #[(.str "_law_draw" 881), (.str "_law_draw" 882), (.str "/claim/cut.py" 883), (.int 255 0), (.int 2 0), (.int 0 0), (.int 0 0), (.int 3 0), (.ref 482), (.bool true), (.int 181 0), (.ref 483), .none, (.ref 484), (.ref 485), (.ref 486), (.int 890 0), (.int 255 0), (.str "/claim/cut.py" 891)]), #[]⟩) ::
  (nat_lit 488, ⟨(.type "function"), none, (fnD (stA 42) "_law_draw" 3 [] .none .none .none (.str "law_nu0181_01" 860) none (.ref 487) .none 0), #[]⟩) ::
  (nat_lit 489, ⟨(.type "tuple"), none, (.seq #[] 0), #[]⟩) ::
  (nat_lit 491, ⟨(.type "tuple"), none, (.seq #[(.str "script" 896)] 0), #[]⟩) ::
  (nat_lit 492, ⟨(.type "tuple"), none, (.seq #[] 0), #[]⟩) ::
  (nat_lit 494, ⟨(.type "code"), none, (.fields #[(.str "_law_pen" 893), (.str "_law_pen" 894), (.str "/claim/cut.py" 895), (.int 270 0), (.int 1 0), (.int 0 0), (.int 0 0), (.int 3 0), (.ref 489), (.bool true), (.int 181 0), (.ref 490), .none, (.ref 491), (.ref 492), (.ref 493), (.int 897 0), (.int 270 0), (.str "/claim/cut.py" 898)]), #[]⟩) ::
  (nat_lit 495, ⟨(.type "function"), none, (fnD (stA 43) "_law_pen" 3 [] .none .none .none (.str "law_nu0181_01" 860) none (.ref 494) .none 0), #[]⟩) ::
  (nat_lit 496, ⟨(.type "tuple"), none, (.seq #[] 0), #[]⟩) ::
  (nat_lit 498, ⟨(.type "tuple"), none, (.seq #[(.str "row" 903)] 0), #[]⟩) ::
  (nat_lit 499, ⟨(.type "tuple"), none, (.seq #[] 0), #[]⟩) ::
  (nat_lit 501, ⟨(.type "code"), none, (.fields #[(.str "_law_value" 900), (.str "_law_value" 901), (.str "/claim/cut.py" 902), (.int 272 0), (.int 1 0), (.int 0 0), (.int 0 0), (.int 3 0), (.ref 496), (.bool true), (.int 181 0), (.ref 497), .none, (.ref 498), (.ref 499), (.ref 500), (.int 904 0), (.int 272 0), (.str "/claim/cut.py" 905)]), #[]⟩) ::
  (nat_lit 502, ⟨(.type "function"), none, (fnD (stA 44) "_law_value" 3 [] .none .none .none (.str "law_nu0181_01" 860) none (.ref 501) .none 0), #[]⟩) ::
  (nat_lit 503, ⟨(.type "tuple"), none, (.seq #[] 0), #[]⟩) ::
  (nat_lit 505, ⟨(.type "tuple"), none, (.seq #[(.str "pen" 910), (.str "is_backward" 911), (.str "found" 912), (.str "cluster" 913), (.str "spot" 914)] 0), #[]⟩) ::
  (nat_lit 506, ⟨(.type "tuple"), none, (.seq #[] 0), #[]⟩) ::
  (nat_lit 508, ⟨(.type "code"), none, (.fields #[(.str "_law_row" 907), (.str "_law_row" 908), (.str "/claim/cut.py" 909), (.int 274 0), (.int 1 0), (.int 0 0), (.int 0 0), (.int 3 0), (.ref 503), (.bool true), (.int 181 0), (.ref 504), .none, (.ref 505), (.ref 506), (.ref 507), (.int 915 0), (.int 274 0), (.str "/claim/cut.py" 916)]), #[]⟩) ::
  (nat_lit 509, ⟨(.type "function"), none, (fnD (stA 45) "_law_row" 3 [] .none .none .none (.str "law_nu0181_01" 860) none (.ref 508) .none 0), #[]⟩) ::
  (nat_lit 510, ⟨(.type "tuple"), none, (.seq #[] 0), #[]⟩) ::
  (nat_lit 512, ⟨(.type "tuple"), none, (.seq #[(.str "pen" 921), (.str "is_second" 922), (.str "found" 923), (.str "spot" 924), (.str "key" 925)] 0), #[]⟩) ::
  (nat_lit 513, ⟨(.type "tuple"), none, (.seq #[] 0), #[]⟩) ::
  (nat_lit 515, ⟨(.type "code"), none, (.fields #[(.str "_law_pairs" 918), (.str "_law_pairs" 919), (.str "/claim/cut.py" 920), (.int 280 0), (.int 2 0), (.int 0 0), (.int 0 0), (.int 3 0), (.ref 510), (.bool true), (.int 181 0), (.ref 511), .none, (.ref 512), (.ref 513), (.ref 514), (.int 926 0), (.int 280 0), (.str "/claim/cut.py" 927)]), #[]⟩) ::
  (nat_lit 516, ⟨(.type "function"), none, (fnD (stA 46) "_law_pairs" 3 [] .none .none .none (.str "law_nu0181_01" 860) none (.ref 515) .none 0), #[]⟩) ::
  (nat_lit 517, ⟨(.type "tuple"), none, (.seq #[] 0), #[]⟩) ::
  (nat_lit 520, ⟨(.type "code"), none, (.fields #[(.str "_law_glyph_table" 929), (.str "_law_glyph_table" 930), (.str "/claim/cut.py" 931), (.int 286 0), (.int 2 0), (.int 0 0), (.int 0 0), (.int 3 0), (.ref 517), (.bool true), (.int 181 0), (.ref 518), .none, .none, .none, (.ref 519), (.int 932 0), (.int 286 0), (.str "/claim/cut.py" 933)]), #[]⟩) ::
  (nat_lit 521, ⟨(.type "function"), none, (fnD (stA 47) "_law_glyph_table" 3 [] .none .none .none (.str "law_nu0181_01" 860) none (.ref 520) .none 0), #[]⟩) ::
  (nat_lit 522, ⟨(.type "tuple"), none, (.seq #[] 0), #[]⟩) ::
  (nat_lit 525, ⟨(.type "code"), none, (.fields #[(.str "_law_class_table" 935), (.str "_law_class_table" 936), (.str "/claim/cut.py" 937), (.int 290 0), (.int 2 0), (.int 0 0), (.int 0 0), (.int 3 0), (.ref 522), (.bool true), (.int 181 0), (.ref 523), .none, .none, .none, (.ref 524), (.int 938 0), (.int 290 0), (.str "/claim/cut.py" 939)]), #[]⟩) ::
  (nat_lit 526, ⟨(.type "function"), none, (fnD (stA 48) "_law_class_table" 3 [] .none .none .none (.str "law_nu0181_01" 860) none (.ref 525) .none 0), #[]⟩) ::
  (nat_lit 527, ⟨(.type "tuple"), none, (.seq #[] 0), #[]⟩) ::
  (nat_lit 530, ⟨(.type "code"), none, (.fields #[(.str "_law_step" 941), (.str "_law_step" 942), (.str "/claim/cut.py" 943), (.int 303 0), (.int 5 0), (.int 0 0), (.int 0 0), (.int 3 0), (.ref 527), (.bool true), (.int 181 0), (.ref 528), .none, .none, .none, (.ref 529), (.int 944 0), (.int 303 0), (.str "/claim/cut.py" 945)]), #[]⟩) ::
  (nat_lit 531, ⟨(.type "function"), none, (fnD (stA 49) "_law_step" 3 [] .none .none .none (.str "law_nu0181_01" 860) none (.ref 530) .none 0), #[]⟩) ::
  (nat_lit 532, ⟨(.type "tuple"), none, (.seq #[] 0), #[]⟩) ::
  (nat_lit 535, ⟨(.type "code"), none, (.fields #[(.str "_law_shown" 947), (.str "_law_shown" 948), (.str "/claim/cut.py" 949), (.int 313 0), (.int 1 0), (.int 0 0), (.int 0 0), (.int 3 0), (.ref 532), (.bool true), (.int 181 0), (.ref 533), .none, .none, .none, (.ref 534), (.int 950 0), (.int 313 0), (.str "/claim/cut.py" 951)]), #[]⟩) ::
  (nat_lit 536, ⟨(.type "function"), none, (fnD (stA 50) "_law_shown" 3 [] .none .none .none (.str "law_nu0181_01" 860) none (.ref 535) .none 0), #[]⟩) ::
  (nat_lit 537, ⟨(.type "tuple"), none, (.seq #[] 0), #[]⟩) ::
  (nat_lit 539, ⟨(.type "tuple"), none, (.seq #[(.str "row" 956), (.str "found" 957), (.str "glyph" 958), (.str "kind" 959), (.str "cluster" 960), (.str "info" 961)] 0), #[]⟩) ::
  (nat_lit 540, ⟨(.type "tuple"), none, (.seq #[] 0), #[]⟩) ::
  (nat_lit 542, ⟨(.type "code"), none, (.fields #[(.str "_law_infos" 953), (.str "_law_infos" 954), (.str "/claim/cut.py" 955), (.int 315 0), (.int 1 0), (.int 0 0), (.int 0 0), (.int 3 0), (.ref 537), (.bool true), (.int 181 0), (.ref 538), .none, (.ref 539), (.ref 540), (.ref 541), (.int 962 0), (.int 315 0), (.str "/claim/cut.py" 963)]), #[]⟩) ::
  (nat_lit 543, ⟨(.type "function"), none, (fnD (stA 51) "_law_infos" 3 [] .none .none .none (.str "law_nu0181_01" 860) none (.ref 542) .none 0), #[]⟩) ::
  (nat_lit 544, ⟨(.type "tuple"), none, (.seq #[] 0), #[]⟩) ::
  (nat_lit 546, ⟨(.type "tuple"), none, (.seq #[(.str "infos" 968), (.str "is_backward" 969), (.str "table" 970), (.str "is_passing" 971), (.str "lookup" 972)] 0), #[]⟩) ::
  (nat_lit 547, ⟨(.type "tuple"), none, (.seq #[] 0), #[]⟩) ::
  (nat_lit 549, ⟨(.type "code"), none, (.fields #[(.str "_law_scene" 965), (.str "_law_scene" 966), (.str "/claim/cut.py" 967), (.int 323 0), (.int 4 0), (.int 0 0), (.int 0 0), (.int 3 0), (.ref 544), (.bool true), (.int 181 0), (.ref 545), .none, (.ref 546), (.ref 547), (.ref 548), (.int 973 0), (.int 323 0), (.str "/claim/cut.py" 974)]), #[]⟩) ::
  (nat_lit 550, ⟨(.type "function"), none, (fnD (stA 52) "_law_scene" 3 [] .none .none .none (.str "law_nu0181_01" 860) none (.ref 549) .none 0), #[]⟩) ::
  (nat_lit 551, ⟨(.type "tuple"), none, (.seq #[] 0), #[]⟩) ::
  (nat_lit 553, ⟨(.type "tuple"), none, (.seq #[(.str "row" 979), (.str "is_backward" 980), (.str "table" 981), (.str "pairs" 982), (.str "is_passing" 983), (.str "is_second" 984), (.str "at" 985), (.str "infos" 986), (.str "line" 987), (.str "due" 988), (.str "here" 989), (.str "scene" 990), (.str "turn" 991)] 0), #[]⟩) ::
  (nat_lit 554, ⟨(.type "tuple"), none, (.seq #[] 0), #[]⟩) ::
  (nat_lit 556, ⟨(.type "code"), none, (.fields #[(.str "_law_right" 976), (.str "_law_right" 977), (.str "/claim/cut.py" 978), (.int 326 0), (.int 6 0), (.int 0 0), (.int 0 0), (.int 3 0), (.ref 551), (.bool true), (.int 181 0), (.ref 552), .none, (.ref 553), (.ref 554), (.ref 555), (.int 992 0), (.int 326 0), (.str "/claim/cut.py" 993)]), #[]⟩) ::
  (nat_lit 557, ⟨(.type "function"), none, (fnD (stA 53) "_law_right" 3 [] .none .none .none (.str "law_nu0181_01" 860) none (.ref 556) .none 0), #[]⟩) ::
  (nat_lit 558, ⟨(.type "tuple"), none, (.seq #[] 0), #[]⟩) ::
  (nat_lit 560, ⟨(.type "tuple"), none, (.seq #[(.str "script" 998), (.str "pen" 999), (.str "is_second" 1000), (.str "is_passing" 1001), (.str "row" 1002), (.str "is_backward" 1003), (.str "make" 1004), (.str "table" 1005), (.str "pairs" 1006)] 0), #[]⟩) ::
  (nat_lit 561, ⟨(.type "tuple"), none, (.seq #[] 0), #[]⟩) ::
  (nat_lit 563, ⟨(.type "code"), none, (.fields #[(.str "law" 995), (.str "law" 996), (.str "/claim/cut.py" 997), (.int 341 0), (.int 1 0), (.int 0 0), (.int 0 0), (.int 3 0), (.ref 558), (.bool true), (.int 181 0), (.ref 559), .none, (.ref 560), (.ref 561), (.ref 562), (.int 1007 0), (.int 341 0), (.str "/claim/cut.py" 1008)]), #[]⟩) ::
  (nat_lit 564, ⟨(.type "function"), none, (fnD (stA 54) "law" 3 [] .none .none .none (.str "law_nu0181_01" 860) none (.ref 563) .none 0), #[]⟩) ::
  []
noncomputable def kAddrs : List Addr := 2 :: 3 :: 15 :: 17 :: 18 :: 20 :: 21 :: 29 :: 31 :: 32 :: 34 :: 35 :: 36 :: 38 :: 39 :: 41 :: 42 :: 43 :: 45 :: 46 :: 48 :: 49 :: 50 :: 51 :: 52 :: 53 :: 54 :: 64 :: 65 :: 67 :: 68 :: 70 :: 71 :: 72 :: 75 :: 76 :: 77 :: 79 :: 80 :: 82 :: 83 :: 84 :: 87 :: 88 :: 89 :: 91 :: 92 :: 94 :: 95 :: 96 :: 97 :: 98 :: 99 :: 100 :: 103 :: 106 :: 107 :: 115 :: 117 :: 118 :: 120 :: 121 :: 122 :: 125 :: 126 :: 127 :: 128 :: 129 :: 130 :: 131 :: 141 :: 142 :: 144 :: 145 :: 147 :: 148 :: 149 :: 150 :: 151 :: 152 :: 153 :: 156 :: 158 :: 159 :: 161 :: 162 :: 163 :: 165 :: 166 :: 168 :: 169 :: 170 :: 172 :: 173 :: 175 :: 176 :: 177 :: 179 :: 180 :: 182 :: 183 :: 184 :: 185 :: 187 :: 188 :: 190 :: 191 :: 192 :: 194 :: 195 :: 197 :: 198 :: 206 :: 208 :: 209 :: 211 :: 212 :: 213 :: 215 :: 216 :: 218 :: 219 :: 220 :: 222 :: 223 :: 225 :: 226 :: 227 :: 228 :: 229 :: 230 :: 231 :: 234 :: 236 :: 237 :: 239 :: 240 :: 241 :: 243 :: 244 :: 246 :: 247 :: 248 :: 251 :: 252 :: 260 :: 261 :: 263 :: 264 :: 266 :: 267 :: 268 :: 270 :: 271 :: 273 :: 274 :: 275 :: 278 :: 279 :: 280 :: 281 :: 282 :: 283 :: 284 :: 294 :: 295 :: 298 :: 299 :: 300 :: 302 :: 303 :: 305 :: 306 :: 307 :: 310 :: 311 :: 312 :: 313 :: 314 :: 315 :: 316 :: 319 :: 321 :: 322 :: 324 :: 325 :: 326 :: 328 :: 329 :: 331 :: 332 :: 340 :: 342 :: 343 :: 345 :: 346 :: 347 :: 349 :: 350 :: 352 :: 353 :: 354 :: 356 :: 357 :: 359 :: 360 :: 361 :: 363 :: 364 :: 366 :: 367 :: 368 :: 371 :: 372 :: 373 :: 374 :: 375 :: 376 :: 377 :: 387 :: 389 :: 390 :: 392 :: 393 :: 394 :: 396 :: 397 :: 399 :: 400 :: 401 :: 403 :: 404 :: 406 :: 407 :: 408 :: 410 :: 411 :: 413 :: 414 :: 415 :: 416 :: 417 :: 418 :: 419 :: 422 :: 424 :: 425 :: 427 :: 428 :: 436 :: 437 :: 439 :: 440 :: 442 :: 443 :: 444 :: 446 :: 447 :: 449 :: 450 :: 451 :: 453 :: 454 :: 456 :: 457 :: 458 :: 460 :: 461 :: 463 :: 464 :: 465 :: 468 :: 469 :: 470 :: 471 :: 472 :: 473 :: 474 :: 477 :: 478 :: 479 :: 480 :: 481 :: 482 :: 484 :: 485 :: 487 :: 488 :: 489 :: 491 :: 492 :: 494 :: 495 :: 496 :: 498 :: 499 :: 501 :: 502 :: 503 :: 505 :: 506 :: 508 :: 509 :: 510 :: 512 :: 513 :: 515 :: 516 :: 517 :: 520 :: 521 :: 522 :: 525 :: 526 :: 527 :: 530 :: 531 :: 532 :: 535 :: 536 :: 537 :: 539 :: 540 :: 542 :: 543 :: 544 :: 546 :: 547 :: 549 :: 550 :: 551 :: 553 :: 554 :: 556 :: 557 :: 558 :: 560 :: 561 :: 563 :: 564 :: []
noncomputable def lawView : Program := { lawProg with main := { lawProg.main with body := [stA 0, stA 2, stA 3, stA 4, stA 6, stA 7, stA 8, stA 9, stA 10, stA 11, stA 12, stA 13, stA 14, stA 15, stA 17, stA 18, stA 19, stA 21, stA 22, stA 24, stA 25, stA 26, stA 27, stA 28, stA 29, stA 31, stA 33, stA 34, stA 36, stA 37, stA 38, stA 39, stA 41, stA 42, stA 43, stA 44, stA 45, stA 46, stA 47, stA 48, stA 49, stA 50, stA 51, stA 52, stA 53, stA 54] } }
noncomputable def runG (thr ok : Thread → Bool) (st : SharedT → Thread → Option (SharedT × Thread)) : Nat → SharedT → Thread → Option SharedT
  | 0, _, _ => none
  | n + 1, s, t => match thr t with
    | true => some s
    | false => match ok t with
      | false => none
      | true => match st s t with
        | some (s', t') => runG thr ok st n s' t'
        | none => none
theorem runG_of {tb : String → Option Builtin} {p : Program} {w : World} {n₀ : Nat} {ann : Option Value} : ∀ {n : Nat} {s s' : SharedT} {t : Thread}, runG through (stepOk n₀ ann) (stepT (denote tb) p w) n s t = some s' → topRun tb p w n₀ ann n s.abs t = some s'.abs
  | 0, _, _, _, h => by cases h
  | n + 1, s, s', t, h => by
    unfold runG at h
    unfold topRun
    cases he : through t with
    | true => rw [he] at h; cases h; rfl
    | false =>
      rw [he] at h
      cases hk : stepOk n₀ ann t with
      | false => rw [hk] at h; cases h
      | true =>
        rw [hk] at h
        cases hs : stepT (denote tb) p w s t with
        | none => rw [hs] at h; cases h
        | some r => obtain ⟨s₂, t₂⟩ := r; rw [hs] at h; rw [stepT_spec hs]; exact runG_of h
noncomputable def treeOf (l : List Obj) : BT := (l.foldl (fun (x : BT × Nat) o => (x.1.ins x.2 o, x.2 + 1)) (BT.nil, 0)).1

theorem kAddrs_eq (P : Params) : kAddrs = (KF P).map (·.1) := by kernel_rfl
noncomputable abbrev kHk : Hook := kHook KF kAddrs kAddrs_eq
noncomputable abbrev bootS (w : World) (os : OsState) : SharedT := ⟨treeOf (boot_heap w.params).objs.toList, 11, (boot_heap w.params).life, ⟨[]⟩, boot_drawn, boot_toks, os⟩

noncomputable abbrev topXt : Shared → Bool := fun s => xlAt lawView [] s && recOk (RowW.records PySem.Challenge.rw_nu0181_01.row.toRowW) s
noncomputable abbrev lawMods : List Str := importedModules lawProg.main.body
noncomputable abbrev topRuns (w : World) (os : OsState) : Option SharedT := runG through (stepOk 11 (some (.ref 6))) (stepT (denote treeTable) lawProg w) 8218 (bootS w os) (topStub lawProg)
noncomputable def RF (P : Params) : Frag :=
  (nat_lit 0, boot_o_0 P) ::
  (nat_lit 1, boot_o_1 P) ::
  (nat_lit 4, boot_o_4 P) ::
  (nat_lit 5, boot_o_5 P) ::
  (nat_lit 6, boot_o_6 P) ::
  (nat_lit 7, boot_o_7 P) ::
  (nat_lit 8, boot_o_8 P) ::
  (nat_lit 9, boot_o_9 P) ::
  (nat_lit 10, boot_o_10 P) ::
  (nat_lit 11, ⟨(.type "tuple"), none, (.seq #[] 0), #[]⟩) ::
  (nat_lit 12, ⟨.none, none, (.fields #[(.int 1 0), (.int 0 0), (.ref 20), (.int 5 0), (.int 0 0), (.ref 27), (.int 29 0), (.int 0 0), (.ref 62), (.int 47 0), (.int 0 0), (.ref 106), (.int 60 0), (.int 0 0), (.ref 113), (.int 71 0), (.int 0 0), (.ref 139), (.int 80 0), (.int 0 0), (.ref 161), (.int 82 0), (.int 0 0), (.ref 168), (.int 84 0), (.int 0 0), (.ref 175), (.int 94 0), (.int 0 0), (.ref 182), (.int 98 0), (.int 0 0), (.ref 190), (.int 105 0), (.int 0 0), (.ref 197), (.int 108 0), (.int 0 0), (.ref 204), (.int 121 0), (.int 0 0), (.ref 239), (.int 126 0), (.int 0 0), (.ref 246), (.int 128 0), (.int 0 0), (.ref 251), (.int 130 0), (.int 0 0), (.ref 258), (.int 142 0), (.int 0 0), (.ref 292), (.int 163 0), (.int 0 0), (.ref 324), (.int 165 0), (.int 0 0), (.ref 331), (.int 178 0), (.int 0 0), (.ref 338), (.int 198 0), (.int 0 0), (.ref 385), (.int 221 0), (.int 0 0), (.ref 427), (.int 230 0), (.int 0 0), (.ref 434), (.int 255 0), (.int 0 0), (.ref 487), (.int 270 0), (.int 0 0), (.ref 494), (.int 272 0), (.int 0 0), (.ref 501), (.int 274 0), (.int 0 0), (.ref 508), (.int 280 0), (.int 0 0), (.ref 515), (.int 286 0), (.int 0 0), (.ref 520), (.int 290 0), (.int 0 0), (.ref 525), (.int 303 0), (.int 0 0), (.ref 530), (.int 313 0), (.int 0 0), (.ref 535), (.int 315 0), (.int 0 0), (.ref 542), (.int 323 0), (.int 0 0), (.ref 549), (.int 326 0), (.int 0 0), (.ref 556), (.int 341 0), (.int 0 0), (.ref 563)]), #[]⟩) ::
  (nat_lit 13, ⟨(.type "code"), none, (.fields #[(.str "<module>" 182), (.str "<module>" 183), (.str "/claim/cut.py" 184), (.int 1 0), (.int 0 0), (.int 0 0), (.int 0 0), (.int 0 0), (.ref 11), (.bool false), (.int 181 0), (.ref 12), .none, .none, .none, .none, (.int 185 0), (.int 1 0), (.str "/claim/cut.py" 186)]), #[]⟩) ::
  (nat_lit 14, ⟨(.type "frame"), none, .plain, #[(some (.ref 13)), (some (.ref 3)), (some (.ref 3)), none, (some (.str "__main__" 164)), none, (some (.ref 0))]⟩) ::
  (nat_lit 16, ⟨.none, none, (.fields #[]), #[]⟩) ::
  (nat_lit 19, ⟨.none, none, (fnD (stA 0) "_wall" 0 [] .none .none .none .none none .none .none 0), #[]⟩) ::
  (nat_lit 22, ⟨(.type "tuple"), none, (.seq #[] 0), #[]⟩) ::
  (nat_lit 23, ⟨(.type "builtin_function_or_method"), none, (.fields #[(.builtin "type.__prepare__"), (.type "type")]), #[]⟩) ::
  (nat_lit 24, ⟨(.type "dict"), none, (.dict #[dEn P "__module__" 203 (.str "joinedhand.buffer" 194), dEn P "__qualname__" 205 (.str "Info" 204), dEn P "__firstlineno__" 207 (.int 5 206), dEn P "__init__" 217 (.ref 35), dEn P "copied" 224 (.ref 42), dEn P "told" 231 (.ref 49), dEn P "__static_attributes__" 247 (.ref 50)] 7), #[]⟩) ::
  (nat_lit 25, ⟨(.type "tuple"), none, (.seq #[] 0), #[]⟩) ::
  (nat_lit 26, ⟨.none, none, (.fields #[(.int 7 0), (.int 4 0), (.ref 34), (.int 24 0), (.int 4 0), (.ref 41), (.int 27 0), (.int 4 0), (.ref 48)]), #[]⟩) ::
  (nat_lit 27, ⟨(.type "code"), none, (.fields #[(.str "Info" 198), (.str "Info" 199), (.str "/claim/cut.py" 200), (.int 5 0), (.int 0 0), (.int 0 0), (.int 0 0), (.int 0 0), (.ref 25), (.bool false), (.int 181 0), (.ref 26), .none, .none, .none, .none, (.int 201 0), (.int 5 0), (.str "/claim/cut.py" 202)]), #[]⟩) ::
  (nat_lit 28, ⟨(.type "frame"), none, .plain, #[(some (.ref 27)), (some (.ref 3)), (some (.ref 24)), none, (some (.str "joinedhand.buffer" 194)), none, (some (.ref 0))]⟩) ::
  (nat_lit 30, ⟨.none, none, (.fields #[]), #[]⟩) ::
  (nat_lit 33, ⟨.none, none, (fnD (stM 2 0) "Info.__init__" 0 [] .none .none .none .none none .none .none 0), #[]⟩) ::
  (nat_lit 37, ⟨.none, none, (.fields #[]), #[]⟩) ::
  (nat_lit 40, ⟨.none, none, (fnD (stM 2 1) "Info.copied" 0 [] .none .none .none .none none .none .none 0), #[]⟩) ::
  (nat_lit 44, ⟨.none, none, (.fields #[]), #[]⟩) ::
  (nat_lit 47, ⟨.none, none, (fnD (stM 2 2) "Info.told" 0 [] .none .none .none .none none .none .none 0), #[]⟩) ::
  (nat_lit 55, ⟨(.type "super"), none, (.fields #[(.ref 52), (.ref 52), (.ref 52)]), #[]⟩) ::
  (nat_lit 56, ⟨(.type "builtin_function_or_method"), none, (.fields #[(.builtin "object.__init_subclass__"), (.ref 52)]), #[]⟩) ::
  (nat_lit 57, ⟨(.type "tuple"), none, (.seq #[] 0), #[]⟩) ::
  (nat_lit 58, ⟨(.type "builtin_function_or_method"), none, (.fields #[(.builtin "type.__prepare__"), (.type "type")]), #[]⟩) ::
  (nat_lit 59, ⟨(.type "dict"), none, (.dict #[dEn P "__module__" 262 (.str "joinedhand.buffer" 194), dEn P "__qualname__" 264 (.str "Buffer" 263), dEn P "__firstlineno__" 266 (.int 29 265), dEn P "__init__" 275 (.ref 71), dEn P "glyphs" 281 (.ref 76), dEn P "clusters" 288 (.ref 83), dEn P "told" 294 (.ref 88), dEn P "next_lig" 301 (.ref 95), dEn P "__static_attributes__" 305 (.ref 96)] 9), #[]⟩) ::
  (nat_lit 60, ⟨(.type "tuple"), none, (.seq #[] 0), #[]⟩) ::
  (nat_lit 61, ⟨.none, none, (.fields #[(.int 31 0), (.int 4 0), (.ref 70), (.int 36 0), (.int 4 0), (.ref 75), (.int 39 0), (.int 4 0), (.ref 82), (.int 42 0), (.int 4 0), (.ref 87), (.int 45 0), (.int 4 0), (.ref 94)]), #[]⟩) ::
  (nat_lit 62, ⟨(.type "code"), none, (.fields #[(.str "Buffer" 257), (.str "Buffer" 258), (.str "/claim/cut.py" 259), (.int 29 0), (.int 0 0), (.int 0 0), (.int 0 0), (.int 0 0), (.ref 60), (.bool false), (.int 181 0), (.ref 61), .none, .none, .none, .none, (.int 260 0), (.int 29 0), (.str "/claim/cut.py" 261)]), #[]⟩) ::
  (nat_lit 63, ⟨(.type "frame"), none, .plain, #[(some (.ref 62)), (some (.ref 3)), (some (.ref 59)), none, (some (.str "joinedhand.buffer" 194)), none, (some (.ref 0))]⟩) ::
  (nat_lit 66, ⟨.none, none, (.fields #[]), #[]⟩) ::
  (nat_lit 69, ⟨.none, none, (fnD (stM 3 0) "Buffer.__init__" 0 [] .none .none .none .none none .none .none 0), #[]⟩) ::
  (nat_lit 73, ⟨.none, none, (.fields #[]), #[]⟩) ::
  (nat_lit 74, ⟨.none, none, (fnD (stM 3 1) "Buffer.glyphs" 0 [] .none .none .none .none none .none .none 0), #[]⟩) ::
  (nat_lit 78, ⟨.none, none, (.fields #[]), #[]⟩) ::
  (nat_lit 81, ⟨.none, none, (fnD (stM 3 2) "Buffer.clusters" 0 [] .none .none .none .none none .none .none 0), #[]⟩) ::
  (nat_lit 85, ⟨.none, none, (.fields #[]), #[]⟩) ::
  (nat_lit 86, ⟨.none, none, (fnD (stM 3 3) "Buffer.told" 0 [] .none .none .none .none none .none .none 0), #[]⟩) ::
  (nat_lit 90, ⟨.none, none, (.fields #[]), #[]⟩) ::
  (nat_lit 93, ⟨.none, none, (fnD (stM 3 4) "Buffer.next_lig" 0 [] .none .none .none .none none .none .none 0), #[]⟩) ::
  (nat_lit 101, ⟨(.type "super"), none, (.fields #[(.ref 98), (.ref 98), (.ref 98)]), #[]⟩) ::
  (nat_lit 102, ⟨(.type "builtin_function_or_method"), none, (.fields #[(.builtin "object.__init_subclass__"), (.ref 98)]), #[]⟩) ::
  (nat_lit 104, ⟨.none, none, (.fields #[]), #[]⟩) ::
  (nat_lit 105, ⟨.none, none, (fnD (stA 4) "hang" 0 [] .none .none .none .none none .none .none 0), #[]⟩) ::
  (nat_lit 108, ⟨(.type "tuple"), none, (.seq #[] 0), #[]⟩) ::
  (nat_lit 109, ⟨(.type "builtin_function_or_method"), none, (.fields #[(.builtin "type.__prepare__"), (.type "type")]), #[]⟩) ::
  (nat_lit 110, ⟨(.type "dict"), none, (.dict #[dEn P "__module__" 336 (.str "joinedhand.flags" 319), dEn P "__qualname__" 338 (.str "Lookup" 337), dEn P "__firstlineno__" 340 (.int 60 339), dEn P "__init__" 351 (.ref 121), dEn P "told" 357 (.ref 126), dEn P "__static_attributes__" 362 (.ref 127)] 6), #[]⟩) ::
  (nat_lit 111, ⟨(.type "tuple"), none, (.seq #[] 0), #[]⟩) ::
  (nat_lit 112, ⟨.none, none, (.fields #[(.int 62 0), (.int 4 0), (.ref 120), (.int 68 0), (.int 4 0), (.ref 125)]), #[]⟩) ::
  (nat_lit 113, ⟨(.type "code"), none, (.fields #[(.str "Lookup" 331), (.str "Lookup" 332), (.str "/claim/cut.py" 333), (.int 60 0), (.int 0 0), (.int 0 0), (.int 0 0), (.int 0 0), (.ref 111), (.bool false), (.int 181 0), (.ref 112), .none, .none, .none, .none, (.int 334 0), (.int 60 0), (.str "/claim/cut.py" 335)]), #[]⟩) ::
  (nat_lit 114, ⟨(.type "frame"), none, .plain, #[(some (.ref 113)), (some (.ref 3)), (some (.ref 110)), none, (some (.str "joinedhand.flags" 319)), none, (some (.ref 0))]⟩) ::
  (nat_lit 116, ⟨.none, none, (.fields #[]), #[]⟩) ::
  (nat_lit 119, ⟨.none, none, (fnD (stM 10 0) "Lookup.__init__" 0 [] .none .none .none .none none .none .none 0), #[]⟩) ::
  (nat_lit 123, ⟨.none, none, (.fields #[]), #[]⟩) ::
  (nat_lit 124, ⟨.none, none, (fnD (stM 10 1) "Lookup.told" 0 [] .none .none .none .none none .none .none 0), #[]⟩) ::
  (nat_lit 132, ⟨(.type "super"), none, (.fields #[(.ref 129), (.ref 129), (.ref 129)]), #[]⟩) ::
  (nat_lit 133, ⟨(.type "builtin_function_or_method"), none, (.fields #[(.builtin "object.__init_subclass__"), (.ref 129)]), #[]⟩) ::
  (nat_lit 134, ⟨(.type "tuple"), none, (.seq #[] 0), #[]⟩) ::
  (nat_lit 135, ⟨(.type "builtin_function_or_method"), none, (.fields #[(.builtin "type.__prepare__"), (.type "type")]), #[]⟩) ::
  (nat_lit 136, ⟨(.type "dict"), none, (.dict #[dEn P "__module__" 377 (.str "joinedhand.flags" 319), dEn P "__qualname__" 379 (.str "Scene" 378), dEn P "__firstlineno__" 381 (.int 71 380), dEn P "__init__" 395 (.ref 148), dEn P "__static_attributes__" 402 (.ref 149)] 5), #[]⟩) ::
  (nat_lit 137, ⟨(.type "tuple"), none, (.seq #[] 0), #[]⟩) ::
  (nat_lit 138, ⟨.none, none, (.fields #[(.int 73 0), (.int 4 0), (.ref 147)]), #[]⟩) ::
  (nat_lit 139, ⟨(.type "code"), none, (.fields #[(.str "Scene" 372), (.str "Scene" 373), (.str "/claim/cut.py" 374), (.int 71 0), (.int 0 0), (.int 0 0), (.int 0 0), (.int 0 0), (.ref 137), (.bool false), (.int 181 0), (.ref 138), .none, .none, .none, .none, (.int 375 0), (.int 71 0), (.str "/claim/cut.py" 376)]), #[]⟩) ::
  (nat_lit 140, ⟨(.type "frame"), none, .plain, #[(some (.ref 139)), (some (.ref 3)), (some (.ref 136)), none, (some (.str "joinedhand.flags" 319)), none, (some (.ref 0))]⟩) ::
  (nat_lit 143, ⟨.none, none, (.fields #[]), #[]⟩) ::
  (nat_lit 146, ⟨.none, none, (fnD (stM 11 0) "Scene.__init__" 0 [] .none .none .none .none none .none .none 0), #[]⟩) ::
  (nat_lit 154, ⟨(.type "super"), none, (.fields #[(.ref 151), (.ref 151), (.ref 151)]), #[]⟩) ::
  (nat_lit 155, ⟨(.type "builtin_function_or_method"), none, (.fields #[(.builtin "object.__init_subclass__"), (.ref 151)]), #[]⟩) ::
  (nat_lit 157, ⟨.none, none, (.fields #[]), #[]⟩) ::
  (nat_lit 160, ⟨.none, none, (fnD (stA 12) "attach_wanted" 0 [] .none .none .none .none none .none .none 0), #[]⟩) ::
  (nat_lit 164, ⟨.none, none, (.fields #[]), #[]⟩) ::
  (nat_lit 167, ⟨.none, none, (fnD (stA 13) "class_bit" 0 [] .none .none .none .none none .none .none 0), #[]⟩) ::
  (nat_lit 171, ⟨.none, none, (.fields #[]), #[]⟩) ::
  (nat_lit 174, ⟨.none, none, (fnD (stA 14) "is_ignored" 0 [] .none .none .none .none none .none .none 0), #[]⟩) ::
  (nat_lit 178, ⟨.none, none, (.fields #[]), #[]⟩) ::
  (nat_lit 181, ⟨.none, none, (fnD (stA 15) "passes" 0 [] .none .none .none .none none .none .none 0), #[]⟩) ::
  (nat_lit 186, ⟨.none, none, (.fields #[]), #[]⟩) ::
  (nat_lit 189, ⟨.none, none, (fnD (stA 18) "neighbour" 0 [] .none .none .none .none none .none .none 0), #[]⟩) ::
  (nat_lit 193, ⟨.none, none, (.fields #[]), #[]⟩) ::
  (nat_lit 196, ⟨.none, none, (fnD (stA 19) "next_at" 0 [] .none .none .none .none none .none .none 0), #[]⟩) ::
  (nat_lit 199, ⟨(.type "tuple"), none, (.seq #[] 0), #[]⟩) ::
  (nat_lit 200, ⟨(.type "builtin_function_or_method"), none, (.fields #[(.builtin "type.__prepare__"), (.type "type")]), #[]⟩) ::
  (nat_lit 201, ⟨(.type "dict"), none, (.dict #[dEn P "__module__" 476 (.str "joinedhand.values" 467), dEn P "__qualname__" 478 (.str "Value" 477), dEn P "__firstlineno__" 480 (.int 108 479), dEn P "__init__" 491 (.ref 212), dEn P "told" 498 (.ref 219), dEn P "is_nothing" 505 (.ref 226), dEn P "__static_attributes__" 510 (.ref 227)] 7), #[]⟩) ::
  (nat_lit 202, ⟨(.type "tuple"), none, (.seq #[] 0), #[]⟩) ::
  (nat_lit 203, ⟨.none, none, (.fields #[(.int 110 0), (.int 4 0), (.ref 211), (.int 116 0), (.int 4 0), (.ref 218), (.int 119 0), (.int 4 0), (.ref 225)]), #[]⟩) ::
  (nat_lit 204, ⟨(.type "code"), none, (.fields #[(.str "Value" 471), (.str "Value" 472), (.str "/claim/cut.py" 473), (.int 108 0), (.int 0 0), (.int 0 0), (.int 0 0), (.int 0 0), (.ref 202), (.bool false), (.int 181 0), (.ref 203), .none, .none, .none, .none, (.int 474 0), (.int 108 0), (.str "/claim/cut.py" 475)]), #[]⟩) ::
  (nat_lit 205, ⟨(.type "frame"), none, .plain, #[(some (.ref 204)), (some (.ref 3)), (some (.ref 201)), none, (some (.str "joinedhand.values" 467)), none, (some (.ref 0))]⟩) ::
  (nat_lit 207, ⟨.none, none, (.fields #[]), #[]⟩) ::
  (nat_lit 210, ⟨.none, none, (fnD (stM 21 0) "Value.__init__" 0 [] .none .none .none .none none .none .none 0), #[]⟩) ::
  (nat_lit 214, ⟨.none, none, (.fields #[]), #[]⟩) ::
  (nat_lit 217, ⟨.none, none, (fnD (stM 21 1) "Value.told" 0 [] .none .none .none .none none .none .none 0), #[]⟩) ::
  (nat_lit 221, ⟨.none, none, (.fields #[]), #[]⟩) ::
  (nat_lit 224, ⟨.none, none, (fnD (stM 21 2) "Value.is_nothing" 0 [] .none .none .none .none none .none .none 0), #[]⟩) ::
  (nat_lit 232, ⟨(.type "super"), none, (.fields #[(.ref 229), (.ref 229), (.ref 229)]), #[]⟩) ::
  (nat_lit 233, ⟨(.type "builtin_function_or_method"), none, (.fields #[(.builtin "object.__init_subclass__"), (.ref 229)]), #[]⟩) ::
  (nat_lit 235, ⟨.none, none, (.fields #[]), #[]⟩) ::
  (nat_lit 238, ⟨.none, none, (fnD (stA 22) "add_value" 0 [] .none .none .none .none none .none .none 0), #[]⟩) ::
  (nat_lit 242, ⟨.none, none, (.fields #[]), #[]⟩) ::
  (nat_lit 245, ⟨.none, none, (fnD (stA 24) "pair_told" 0 [] .none .none .none .none none .none .none 0), #[]⟩) ::
  (nat_lit 249, ⟨.none, none, (.fields #[]), #[]⟩) ::
  (nat_lit 250, ⟨.none, none, (fnD (stA 25) "moves_second" 0 [] .none .none .none .none none .none .none 0), #[]⟩) ::
  (nat_lit 253, ⟨(.type "tuple"), none, (.seq #[] 0), #[]⟩) ::
  (nat_lit 254, ⟨(.type "builtin_function_or_method"), none, (.fields #[(.builtin "type.__prepare__"), (.type "type")]), #[]⟩) ::
  (nat_lit 255, ⟨(.type "dict"), none, (.dict #[dEn P "__module__" 549 (.str "joinedhand.pair" 527), dEn P "__qualname__" 551 (.str "PairGlyphs" 550), dEn P "__firstlineno__" 553 (.int 130 552), dEn P "__init__" 562 (.ref 267), dEn P "find" 571 (.ref 274), dEn P "told" 577 (.ref 279), dEn P "__static_attributes__" 580 (.ref 280)] 7), #[]⟩) ::
  (nat_lit 256, ⟨(.type "tuple"), none, (.seq #[] 0), #[]⟩) ::
  (nat_lit 257, ⟨.none, none, (.fields #[(.int 132 0), (.int 4 0), (.ref 266), (.int 136 0), (.int 4 0), (.ref 273), (.int 139 0), (.int 4 0), (.ref 278)]), #[]⟩) ::
  (nat_lit 258, ⟨(.type "code"), none, (.fields #[(.str "PairGlyphs" 544), (.str "PairGlyphs" 545), (.str "/claim/cut.py" 546), (.int 130 0), (.int 0 0), (.int 0 0), (.int 0 0), (.int 0 0), (.ref 256), (.bool false), (.int 181 0), (.ref 257), .none, .none, .none, .none, (.int 547 0), (.int 130 0), (.str "/claim/cut.py" 548)]), #[]⟩) ::
  (nat_lit 259, ⟨(.type "frame"), none, .plain, #[(some (.ref 258)), (some (.ref 3)), (some (.ref 255)), none, (some (.str "joinedhand.pair" 527)), none, (some (.ref 0))]⟩) ::
  (nat_lit 262, ⟨.none, none, (.fields #[]), #[]⟩) ::
  (nat_lit 265, ⟨.none, none, (fnD (stM 26 0) "PairGlyphs.__init__" 0 [] .none .none .none .none none .none .none 0), #[]⟩) ::
  (nat_lit 269, ⟨.none, none, (.fields #[]), #[]⟩) ::
  (nat_lit 272, ⟨.none, none, (fnD (stM 26 1) "PairGlyphs.find" 0 [] .none .none .none .none none .none .none 0), #[]⟩) ::
  (nat_lit 276, ⟨.none, none, (.fields #[]), #[]⟩) ::
  (nat_lit 277, ⟨.none, none, (fnD (stM 26 2) "PairGlyphs.told" 0 [] .none .none .none .none none .none .none 0), #[]⟩) ::
  (nat_lit 285, ⟨(.type "super"), none, (.fields #[(.ref 282), (.ref 282), (.ref 282)]), #[]⟩) ::
  (nat_lit 286, ⟨(.type "builtin_function_or_method"), none, (.fields #[(.builtin "object.__init_subclass__"), (.ref 282)]), #[]⟩) ::
  (nat_lit 287, ⟨(.type "tuple"), none, (.seq #[] 0), #[]⟩) ::
  (nat_lit 288, ⟨(.type "builtin_function_or_method"), none, (.fields #[(.builtin "type.__prepare__"), (.type "type")]), #[]⟩) ::
  (nat_lit 289, ⟨(.type "dict"), none, (.dict #[dEn P "__module__" 595 (.str "joinedhand.pair" 527), dEn P "__qualname__" 597 (.str "PairClasses" 596), dEn P "__firstlineno__" 599 (.int 142 598), dEn P "__init__" 605 (.ref 299), dEn P "find" 616 (.ref 306), dEn P "told" 622 (.ref 311), dEn P "__static_attributes__" 628 (.ref 312)] 7), #[]⟩) ::
  (nat_lit 290, ⟨(.type "tuple"), none, (.seq #[] 0), #[]⟩) ::
  (nat_lit 291, ⟨.none, none, (.fields #[(.int 144 0), (.int 4 0), (.ref 298), (.int 151 0), (.int 4 0), (.ref 305), (.int 160 0), (.int 4 0), (.ref 310)]), #[]⟩) ::
  (nat_lit 292, ⟨(.type "code"), none, (.fields #[(.str "PairClasses" 590), (.str "PairClasses" 591), (.str "/claim/cut.py" 592), (.int 142 0), (.int 0 0), (.int 0 0), (.int 0 0), (.int 0 0), (.ref 290), (.bool false), (.int 181 0), (.ref 291), .none, .none, .none, .none, (.int 593 0), (.int 142 0), (.str "/claim/cut.py" 594)]), #[]⟩) ::
  (nat_lit 293, ⟨(.type "frame"), none, .plain, #[(some (.ref 292)), (some (.ref 3)), (some (.ref 289)), none, (some (.str "joinedhand.pair" 527)), none, (some (.ref 0))]⟩) ::
  (nat_lit 296, ⟨.none, none, (.fields #[]), #[]⟩) ::
  (nat_lit 297, ⟨.none, none, (fnD (stM 27 0) "PairClasses.__init__" 0 [] .none .none .none .none none .none .none 0), #[]⟩) ::
  (nat_lit 301, ⟨.none, none, (.fields #[]), #[]⟩) ::
  (nat_lit 304, ⟨.none, none, (fnD (stM 27 1) "PairClasses.find" 0 [] .none .none .none .none none .none .none 0), #[]⟩) ::
  (nat_lit 308, ⟨.none, none, (.fields #[]), #[]⟩) ::
  (nat_lit 309, ⟨.none, none, (fnD (stM 27 2) "PairClasses.told" 0 [] .none .none .none .none none .none .none 0), #[]⟩) ::
  (nat_lit 317, ⟨(.type "super"), none, (.fields #[(.ref 314), (.ref 314), (.ref 314)]), #[]⟩) ::
  (nat_lit 318, ⟨(.type "builtin_function_or_method"), none, (.fields #[(.builtin "object.__init_subclass__"), (.ref 314)]), #[]⟩) ::
  (nat_lit 320, ⟨.none, none, (.fields #[]), #[]⟩) ::
  (nat_lit 323, ⟨.none, none, (fnD (stA 28) "has_second" 0 [] .none .none .none .none none .none .none 0), #[]⟩) ::
  (nat_lit 327, ⟨.none, none, (.fields #[]), #[]⟩) ::
  (nat_lit 330, ⟨.none, none, (fnD (stA 29) "apply_pair" 0 [] .none .none .none .none none .none .none 0), #[]⟩) ::
  (nat_lit 333, ⟨(.type "tuple"), none, (.seq #[] 0), #[]⟩) ::
  (nat_lit 334, ⟨(.type "builtin_function_or_method"), none, (.fields #[(.builtin "type.__prepare__"), (.type "type")]), #[]⟩) ::
  (nat_lit 335, ⟨(.type "dict"), none, (.dict #[dEn P "__module__" 664 (.str "joinedhand.classdefs" 655), dEn P "__qualname__" 666 (.str "ClassDef" 665), dEn P "__firstlineno__" 668 (.int 178 667), dEn P "__init__" 676 (.ref 346), dEn P "class_of" 684 (.ref 353), dEn P "glyphs_of" 692 (.ref 360), dEn P "count" 701 (.ref 367), dEn P "told" 707 (.ref 372), dEn P "__static_attributes__" 709 (.ref 373)] 9), #[]⟩) ::
  (nat_lit 336, ⟨(.type "tuple"), none, (.seq #[] 0), #[]⟩) ::
  (nat_lit 337, ⟨.none, none, (.fields #[(.int 180 0), (.int 4 0), (.ref 345), (.int 183 0), (.int 4 0), (.ref 352), (.int 186 0), (.int 4 0), (.ref 359), (.int 189 0), (.int 4 0), (.ref 366), (.int 195 0), (.int 4 0), (.ref 371)]), #[]⟩) ::
  (nat_lit 338, ⟨(.type "code"), none, (.fields #[(.str "ClassDef" 659), (.str "ClassDef" 660), (.str "/claim/cut.py" 661), (.int 178 0), (.int 0 0), (.int 0 0), (.int 0 0), (.int 0 0), (.ref 336), (.bool false), (.int 181 0), (.ref 337), .none, .none, .none, .none, (.int 662 0), (.int 178 0), (.str "/claim/cut.py" 663)]), #[]⟩) ::
  (nat_lit 339, ⟨(.type "frame"), none, .plain, #[(some (.ref 338)), (some (.ref 3)), (some (.ref 335)), none, (some (.str "joinedhand.classdefs" 655)), none, (some (.ref 0))]⟩) ::
  (nat_lit 341, ⟨.none, none, (.fields #[]), #[]⟩) ::
  (nat_lit 344, ⟨.none, none, (fnD (stM 31 0) "ClassDef.__init__" 0 [] .none .none .none .none none .none .none 0), #[]⟩) ::
  (nat_lit 348, ⟨.none, none, (.fields #[]), #[]⟩) ::
  (nat_lit 351, ⟨.none, none, (fnD (stM 31 1) "ClassDef.class_of" 0 [] .none .none .none .none none .none .none 0), #[]⟩) ::
  (nat_lit 355, ⟨.none, none, (.fields #[]), #[]⟩) ::
  (nat_lit 358, ⟨.none, none, (fnD (stM 31 2) "ClassDef.glyphs_of" 0 [] .none .none .none .none none .none .none 0), #[]⟩) ::
  (nat_lit 362, ⟨.none, none, (.fields #[]), #[]⟩) ::
  (nat_lit 365, ⟨.none, none, (fnD (stM 31 3) "ClassDef.count" 0 [] .none .none .none .none none .none .none 0), #[]⟩) ::
  (nat_lit 369, ⟨.none, none, (.fields #[]), #[]⟩) ::
  (nat_lit 370, ⟨.none, none, (fnD (stM 31 4) "ClassDef.told" 0 [] .none .none .none .none none .none .none 0), #[]⟩) ::
  (nat_lit 378, ⟨(.type "super"), none, (.fields #[(.ref 375), (.ref 375), (.ref 375)]), #[]⟩) ::
  (nat_lit 379, ⟨(.type "builtin_function_or_method"), none, (.fields #[(.builtin "object.__init_subclass__"), (.ref 375)]), #[]⟩) ::
  (nat_lit 380, ⟨(.type "tuple"), none, (.seq #[] 0), #[]⟩) ::
  (nat_lit 381, ⟨(.type "builtin_function_or_method"), none, (.fields #[(.builtin "type.__prepare__"), (.type "type")]), #[]⟩) ::
  (nat_lit 382, ⟨(.type "dict"), none, (.dict #[dEn P "__module__" 726 (.str "joinedhand.coverage" 717), dEn P "__qualname__" 728 (.str "Coverage" 727), dEn P "__firstlineno__" 730 (.int 198 729), dEn P "__init__" 738 (.ref 393), dEn P "index" 749 (.ref 400), dEn P "has" 757 (.ref 407), dEn P "told" 764 (.ref 414), dEn P "__static_attributes__" 766 (.ref 415)] 8), #[]⟩) ::
  (nat_lit 383, ⟨(.type "tuple"), none, (.seq #[] 0), #[]⟩) ::
  (nat_lit 384, ⟨.none, none, (.fields #[(.int 200 0), (.int 4 0), (.ref 392), (.int 203 0), (.int 4 0), (.ref 399), (.int 216 0), (.int 4 0), (.ref 406), (.int 219 0), (.int 4 0), (.ref 413)]), #[]⟩) ::
  (nat_lit 385, ⟨(.type "code"), none, (.fields #[(.str "Coverage" 721), (.str "Coverage" 722), (.str "/claim/cut.py" 723), (.int 198 0), (.int 0 0), (.int 0 0), (.int 0 0), (.int 0 0), (.ref 383), (.bool false), (.int 181 0), (.ref 384), .none, .none, .none, .none, (.int 724 0), (.int 198 0), (.str "/claim/cut.py" 725)]), #[]⟩) ::
  (nat_lit 386, ⟨(.type "frame"), none, .plain, #[(some (.ref 385)), (some (.ref 3)), (some (.ref 382)), none, (some (.str "joinedhand.coverage" 717)), none, (some (.ref 0))]⟩) ::
  (nat_lit 388, ⟨.none, none, (.fields #[]), #[]⟩) ::
  (nat_lit 391, ⟨.none, none, (fnD (stM 33 0) "Coverage.__init__" 0 [] .none .none .none .none none .none .none 0), #[]⟩) ::
  (nat_lit 395, ⟨.none, none, (.fields #[]), #[]⟩) ::
  (nat_lit 398, ⟨.none, none, (fnD (stM 33 1) "Coverage.index" 0 [] .none .none .none .none none .none .none 0), #[]⟩) ::
  (nat_lit 402, ⟨.none, none, (.fields #[]), #[]⟩) ::
  (nat_lit 405, ⟨.none, none, (fnD (stM 33 2) "Coverage.has" 0 [] .none .none .none .none none .none .none 0), #[]⟩) ::
  (nat_lit 409, ⟨.none, none, (.fields #[]), #[]⟩) ::
  (nat_lit 412, ⟨.none, none, (fnD (stM 33 3) "Coverage.told" 0 [] .none .none .none .none none .none .none 0), #[]⟩) ::
  (nat_lit 420, ⟨(.type "super"), none, (.fields #[(.ref 417), (.ref 417), (.ref 417)]), #[]⟩) ::
  (nat_lit 421, ⟨(.type "builtin_function_or_method"), none, (.fields #[(.builtin "object.__init_subclass__"), (.ref 417)]), #[]⟩) ::
  (nat_lit 423, ⟨.none, none, (.fields #[]), #[]⟩) ::
  (nat_lit 426, ⟨.none, none, (fnD (stA 34) "coverage_of" 0 [] .none .none .none .none none .none .none 0), #[]⟩) ::
  (nat_lit 429, ⟨(.type "tuple"), none, (.seq #[] 0), #[]⟩) ::
  (nat_lit 430, ⟨(.type "builtin_function_or_method"), none, (.fields #[(.builtin "type.__prepare__"), (.type "type")]), #[]⟩) ::
  (nat_lit 431, ⟨(.type "dict"), none, (.dict #[dEn P "__module__" 798 (.str "joinedhand.gdef" 783), dEn P "__qualname__" 800 (.str "Gdef" 799), dEn P "__firstlineno__" 802 (.int 230 801), dEn P "__init__" 814 (.ref 443), dEn P "glyph_class" 823 (.ref 450), dEn P "attach_class" 831 (.ref 457), dEn P "is_in_set" 840 (.ref 464), dEn P "told" 846 (.ref 469), dEn P "__static_attributes__" 852 (.ref 470)] 9), #[]⟩) ::
  (nat_lit 432, ⟨(.type "tuple"), none, (.seq #[] 0), #[]⟩) ::
  (nat_lit 433, ⟨.none, none, (.fields #[(.int 232 0), (.int 4 0), (.ref 442), (.int 239 0), (.int 4 0), (.ref 449), (.int 243 0), (.int 4 0), (.ref 456), (.int 246 0), (.int 4 0), (.ref 463), (.int 249 0), (.int 4 0), (.ref 468)]), #[]⟩) ::
  (nat_lit 434, ⟨(.type "code"), none, (.fields #[(.str "Gdef" 793), (.str "Gdef" 794), (.str "/claim/cut.py" 795), (.int 230 0), (.int 0 0), (.int 0 0), (.int 0 0), (.int 0 0), (.ref 432), (.bool false), (.int 181 0), (.ref 433), .none, .none, .none, .none, (.int 796 0), (.int 230 0), (.str "/claim/cut.py" 797)]), #[]⟩) ::
  (nat_lit 435, ⟨(.type "frame"), none, .plain, #[(some (.ref 434)), (some (.ref 3)), (some (.ref 431)), none, (some (.str "joinedhand.gdef" 783)), none, (some (.ref 0))]⟩) ::
  (nat_lit 438, ⟨.none, none, (.fields #[]), #[]⟩) ::
  (nat_lit 441, ⟨.none, none, (fnD (stM 39 0) "Gdef.__init__" 0 [] .none .none .none .none none .none .none 0), #[]⟩) ::
  (nat_lit 445, ⟨.none, none, (.fields #[]), #[]⟩) ::
  (nat_lit 448, ⟨.none, none, (fnD (stM 39 1) "Gdef.glyph_class" 0 [] .none .none .none .none none .none .none 0), #[]⟩) ::
  (nat_lit 452, ⟨.none, none, (.fields #[]), #[]⟩) ::
  (nat_lit 455, ⟨.none, none, (fnD (stM 39 2) "Gdef.attach_class" 0 [] .none .none .none .none none .none .none 0), #[]⟩) ::
  (nat_lit 459, ⟨.none, none, (.fields #[]), #[]⟩) ::
  (nat_lit 462, ⟨.none, none, (fnD (stM 39 3) "Gdef.is_in_set" 0 [] .none .none .none .none none .none .none 0), #[]⟩) ::
  (nat_lit 466, ⟨.none, none, (.fields #[]), #[]⟩) ::
  (nat_lit 467, ⟨.none, none, (fnD (stM 39 4) "Gdef.told" 0 [] .none .none .none .none none .none .none 0), #[]⟩) ::
  (nat_lit 475, ⟨(.type "super"), none, (.fields #[(.ref 472), (.ref 472), (.ref 472)]), #[]⟩) ::
  (nat_lit 476, ⟨(.type "builtin_function_or_method"), none, (.fields #[(.builtin "object.__init_subclass__"), (.ref 472)]), #[]⟩) ::
  (nat_lit 483, ⟨.none, none, (.fields #[]), #[]⟩) ::
  (nat_lit 486, ⟨.none, none, (fnD (stA 42) "_law_draw" 0 [] .none .none .none .none none .none .none 0), #[]⟩) ::
  (nat_lit 490, ⟨.none, none, (.fields #[]), #[]⟩) ::
  (nat_lit 493, ⟨.none, none, (fnD (stA 43) "_law_pen" 0 [] .none .none .none .none none .none .none 0), #[]⟩) ::
  (nat_lit 497, ⟨.none, none, (.fields #[]), #[]⟩) ::
  (nat_lit 500, ⟨.none, none, (fnD (stA 44) "_law_value" 0 [] .none .none .none .none none .none .none 0), #[]⟩) ::
  (nat_lit 504, ⟨.none, none, (.fields #[]), #[]⟩) ::
  (nat_lit 507, ⟨.none, none, (fnD (stA 45) "_law_row" 0 [] .none .none .none .none none .none .none 0), #[]⟩) ::
  (nat_lit 511, ⟨.none, none, (.fields #[]), #[]⟩) ::
  (nat_lit 514, ⟨.none, none, (fnD (stA 46) "_law_pairs" 0 [] .none .none .none .none none .none .none 0), #[]⟩) ::
  (nat_lit 518, ⟨.none, none, (.fields #[]), #[]⟩) ::
  (nat_lit 519, ⟨.none, none, (fnD (stA 47) "_law_glyph_table" 0 [] .none .none .none .none none .none .none 0), #[]⟩) ::
  (nat_lit 523, ⟨.none, none, (.fields #[]), #[]⟩) ::
  (nat_lit 524, ⟨.none, none, (fnD (stA 48) "_law_class_table" 0 [] .none .none .none .none none .none .none 0), #[]⟩) ::
  (nat_lit 528, ⟨.none, none, (.fields #[]), #[]⟩) ::
  (nat_lit 529, ⟨.none, none, (fnD (stA 49) "_law_step" 0 [] .none .none .none .none none .none .none 0), #[]⟩) ::
  (nat_lit 533, ⟨.none, none, (.fields #[]), #[]⟩) ::
  (nat_lit 534, ⟨.none, none, (fnD (stA 50) "_law_shown" 0 [] .none .none .none .none none .none .none 0), #[]⟩) ::
  (nat_lit 538, ⟨.none, none, (.fields #[]), #[]⟩) ::
  (nat_lit 541, ⟨.none, none, (fnD (stA 51) "_law_infos" 0 [] .none .none .none .none none .none .none 0), #[]⟩) ::
  (nat_lit 545, ⟨.none, none, (.fields #[]), #[]⟩) ::
  (nat_lit 548, ⟨.none, none, (fnD (stA 52) "_law_scene" 0 [] .none .none .none .none none .none .none 0), #[]⟩) ::
  (nat_lit 552, ⟨.none, none, (.fields #[]), #[]⟩) ::
  (nat_lit 555, ⟨.none, none, (fnD (stA 53) "_law_right" 0 [] .none .none .none .none none .none .none 0), #[]⟩) ::
  (nat_lit 559, ⟨.none, none, (.fields #[]), #[]⟩) ::
  (nat_lit 562, ⟨.none, none, (fnD (stA 54) "law" 0 [] .none .none .none .none none .none .none 0), #[]⟩) ::
  []

noncomputable def mergeF : Nat → Frag → Frag → List Obj
  | 0, _, _ => []
  | n + 1, a, b => match a with
    | [] => match b with
      | [] => []
      | y :: b' => y.2 :: mergeF n [] b'
    | x :: a' => match b with
      | [] => x.2 :: mergeF n a' []
      | y :: b' => match Nat.blt x.1 y.1 with
        | true => x.2 :: mergeF n a' (y :: b')
        | false => y.2 :: mergeF n (x :: a') b'
noncomputable def finL (P : Params) : List Obj := mergeF 565 (KF P) (RF P)
noncomputable def halves : List Obj → List Obj × List Obj
  | [] => ([], [])
  | x :: l => match halves l with
    | (a, b) => (x :: b, a)
noncomputable def build : Nat → List Obj → BT
  | 0, _ => .nil
  | n + 1, l => match l with
    | [] => .nil
    | x :: l' => match halves l' with
      | (a, b) => .node x (build n a) (build n b)
noncomputable def finB (P : Params) : BT := build 12 (finL P)
noncomputable def finT (w : World) (os : OsState) : SharedT := ⟨finB w.params, 565, {}, ⟨[]⟩, {}, 1010, os⟩
noncomputable def finS (w : World) (os : OsState) : Shared := ⟨⟨⟨finL w.params⟩, {}⟩, ⟨[]⟩, {}, 1010, os⟩
theorem topFin : ∀ w : World, (fun os => topRuns w os) = fun os => some (finT w os) := by
  intro w
  unfold topRuns
  rw [PySem.W.Fast.te6613529449190102663, PySem.W.Fast.te10156331382660048174, PySem.W.Fast.te11892475500146522536, PySem.W.Fast.te14364793385576792824]
  kernel_rfl
end

section
theorem boot_abs (P : Params) : boot_heap P = absHeap (treeOf (boot_heap P).objs.toList) 11 (boot_heap P).life := by kernel_rfl
theorem boot_ok (P : Params) : ((boot_heap P).isNs mainGlobals && (#[] : Array GenState).size == 0, (boot_heap P).objs.size, (boot_heap P).nsMap mainGlobals "__annotations__") = (true, 11, some (.ref 6)) := by kernel_rfl
theorem fence_pw : ∀ s, fenceModules? lawProg s = some s := fun s => by kernel_rfl
theorem open_pw : opening lawProg = plainProg lawProg.main.scope.names := by kernel_rfl
theorem finList (P : Params) : (finB P).list 565 = finL P := by kernel_rfl
theorem finAbs (w : World) (os : OsState) : (finT w os).abs = finS w os := by
  show Shared.mk ⟨⟨(finB w.params).list 565⟩, {}⟩ _ _ _ _ = _
  rw [finList]
  rfl
theorem get_abs (t : BT) (n : Nat) (life : Life) (a : Nat) : (absHeap t n life).get? a = match Nat.blt a n with | true => alive ((t.get a).getD default) | false => none := by
  cases h : Nat.blt a n with
  | false => exact abs_get_none fun q => by rw [Nat.blt_eq.mpr q] at h; cases h
  | true =>
    have h' : a < n := Nat.blt_eq.mp h
    unfold Heap.get?
    rw [absHeap_at, if_pos h']
    generalize (t.get a).getD default = o
    obtain ⟨c, d, dt, sl⟩ := o
    cases dt <;> rfl
theorem finObs0 (P : Params) : (kAddrs.map fun a => match Nat.blt a 565 with | true => alive (((finB P).get a).getD default) | false => none) = (KF P).map fun p => some p.2 := by kernel_rfl
theorem finObs (w : World) (os : OsState) : kHk.obs (finT w os).abs = kHk.val w :=
  (congrArg kAddrs.map (funext fun a => get_abs (finB w.params) 565 {} a)).trans (finObs0 w.params)
theorem finOk1 (w : World) : staticsOk lawMods (boot_heap w.params) ⟨⟨finL w.params⟩, {}⟩ = true := by kernel_rfl
theorem finOk2 (w : World) : namesBound lawProg ⟨⟨finL w.params⟩, {}⟩ = true := by kernel_rfl
theorem finOk3 (w : World) : laidKept (boot_heap w.params) ⟨⟨finL w.params⟩, {}⟩ = true := by kernel_rfl
theorem finOk (w : World) (os : OsState) : (staticsOk lawMods (boot_heap w.params) (finS w os).heap && namesBound lawProg (finS w os).heap && gensDone (finS w os) && laidKept (boot_heap w.params) (finS w os).heap) = true := by
  show (staticsOk lawMods (boot_heap w.params) ⟨⟨finL w.params⟩, {}⟩ && namesBound lawProg ⟨⟨finL w.params⟩, {}⟩ && true && laidKept (boot_heap w.params) ⟨⟨finL w.params⟩, {}⟩) = true
  rw [finOk1, finOk2, finOk3]
  rfl
theorem fs0 (w : World) (os : OsState) : seen (List.map (fun x => x.name) (recsOf lawView)) (ownsOf lawView) [] { finS w os with gens := #[] } = expectedOf lawView := by
  rewrite [PySem.W.Fast.te5160383126252970620, PySem.W.Fast.te3399658132070893891, PySem.W.Fast.te5991557255702980513]
  kernel_rfl
theorem fs1 (w : World) (os : OsState) : (finS w os).heap.bltView = bltViewBooted := by
  kernel_rfl
theorem fs2 (w : World) (os : OsState) : (finS w os).heap.keysOk (looseW lawView []) (List.map (fun x => x.name) (recsOf lawView)) (List.map (fun x => x.fst) (litsOf lawView)) (List.map (fun x => x.name) (clssOf lawView (looseW lawView []))) = true := by
  rewrite [PySem.W.Fast.te10880121769531294198, PySem.W.Fast.te821141287760084731, PySem.W.Fast.te3399658132070893891, PySem.W.Fast.te7409074990110511671, PySem.W.Fast.te13664370479719496447]
  kernel_rfl
theorem fs3 (w : World) (os : OsState) : (finS w os).heap.accountedOkI lawMods = true := by
  rewrite [PySem.W.Fast.te14722251495701143533]
  kernel_rfl
theorem fs4 (w : World) (os : OsState) : (finS w os).heap.isNs mainGlobals = true := by
  kernel_rfl
theorem fs5 (w : World) (os : OsState) : (finS w os).heap.isNs PySem.builtinsNs = true := by
  kernel_rfl
theorem fs6 (w : World) (os : OsState) : tablesOk lawView (finS w os).heap = true := by
  rewrite [PySem.W.Fast.te10994771534591457954]
  kernel_rfl
theorem fs7 (w : World) (os : OsState) : xlAt lawView [] (finS w os) = true := by
  kernel_rfl
theorem fs8 (w : World) (os : OsState) : recOk (RowW.records PySem.Challenge.rw_nu0181_01.row.toRowW) (finS w os) = true := by
  kernel_rfl
theorem fs9 (w : World) (os : OsState) : (if true = true then (finS w os).gens.size == 0 else !leftWithCleanup (finS w os).gens) = true := by
  kernel_rfl
theorem fs10 (w : World) (os : OsState) : tabsOk lawView (finS w os) = true := by
  rewrite [PySem.W.Fast.te479339242167458305]
  kernel_rfl
theorem fs11 (w : World) (os : OsState) : pinSeenD lawView (drecsOf lawView) (finS w os) = pinGoodD (drecsOf lawView) := by
  rewrite [PySem.W.Fast.te16090120013241838585, PySem.W.Fast.te3247288618530077131]
  kernel_rfl
theorem fs12 (w : World) (os : OsState) : plainSeenE lawView (looseW lawView []) (finS w os) = plainGoodE lawView (looseW lawView []) := by
  rewrite [PySem.W.Fast.te2386780881361962483, PySem.W.Fast.te821141287760084731]
  kernel_rfl
theorem fs13 (w : World) (os : OsState) : plainSeenD lawView [] (finS w os) = plainGoodD lawView [] := by
  rewrite [PySem.W.Fast.te11698064438423848299]
  kernel_rfl
theorem fs14 (w : World) (os : OsState) : wideSeen lawView (finS w os) = wideGood lawView := by
  rewrite [PySem.W.Fast.te7317090234206586261]
  kernel_rfl
theorem fs15 (w : World) (os : OsState) : clsSeenW lawView [] (finS w os) = clsGoodW lawView [] := by
  rewrite [PySem.W.Fast.te7369524293546568484]
  kernel_rfl
theorem finSeen (w : World) (os : OsState) : openSeen lawView [] lawMods topXt true (finS w os) = openGood lawView [] := by
  unfold openSeen openGood
  with_reducible refine congr (congrArg Prod.mk (fs0 w os)) (congr (congrArg Prod.mk (fs1 w os)) (congr (congrArg Prod.mk ?_) (congr (congrArg Prod.mk (fs10 w os)) (congr (congrArg Prod.mk (fs11 w os)) (congr (congrArg Prod.mk (fs12 w os)) (congr (congrArg Prod.mk (fs13 w os)) (congr (congrArg Prod.mk (fs14 w os)) (fs15 w os))))))))
  exact look_both (look_both (look_both (look_both (look_both (look_both (fs2 w os) (fs3 w os)) (fs4 w os)) (fs5 w os)) (fs6 w os)) (look_both (fs7 w os) (fs8 w os))) (fs9 w os)
theorem left_of {p q : Program} {mods : List Str} {Xt : Shared → Bool} {α : Type} {Yf : Shared → α} {Ya : World → α} {N : Nat} {runs : World → OsState → Option SharedT} {F : World → OsState → SharedT} {S : World → OsState → Shared} (hm : importedModules p.main.body = mods)
    (open_ : ∀ w : World, (fencedOpening treeTable p w N).map (fun s => (s.heap, s.gens, s.drawn, s.toks)) = some (boot_heap w.params, Array.mk [], boot_drawn, boot_toks))
    (hr : ∀ w os, runs w os = runG through (stepOk 11 (some (.ref 6))) (stepT (denote treeTable) p w) N (bootS w os) (topStub p))
    (hf : ∀ w : World, (fun os => runs w os) = fun os => some (F w os))
    (ha : ∀ w os, (F w os).abs = S w os)
    (l1 : ∀ w os, (staticsOk mods (boot_heap w.params) (S w os).heap && namesBound p (S w os).heap && gensDone (S w os) && laidKept (boot_heap w.params) (S w os).heap) = true)
    (l2 : ∀ w os, Yf (S w os) = Ya w)
    (l3 : ∀ w os, openSeen q [] mods Xt true (S w os) = openGood q []) : LeftO p q [] Xt Yf Ya N := fun w => by
  subst hm
  obtain ⟨⟨h, gs, d, k, os⟩, e, e'⟩ := Option.map_eq_some_iff.mp (open_ w)
  obtain ⟨rfl, rfl, rfl, rfl⟩ : h = boot_heap w.params ∧ gs = #[] ∧ d = boot_drawn ∧ k = boot_toks := by simpa using e'
  obtain ⟨z1, z2, z3⟩ : _ ∧ _ ∧ _ := by simpa only [Prod.mk.injEq] using boot_ok w.params
  have rr := runG_of ((hr w os).symm.trans (congrFun (hf w) os))
  rw [ha] at rr
  have hs : (bootS w os).abs = ⟨boot_heap w.params, #[], boot_drawn, boot_toks, os⟩ := by
    unfold SharedT.abs
    rw [← boot_abs]
  rw [hs] at rr
  have ht : topFrom treeTable p w N ⟨boot_heap w.params, #[], boot_drawn, boot_toks, os⟩ = some (S w os) := by
    simp only [topFrom, z1, z2, z3, rr, Option.bind_some, l1 w os]
  simp only [openEnds, e, Option.bind_some, ht, Option.map_some, l3 w os, l2 w os]
theorem finObsS (w : World) (os : OsState) : kHk.obs (finS w os) = kHk.val w := by
  rw [← finAbs]
  exact finObs w os
theorem leftO : LeftO lawProg lawView [] topXt kHk.obs kHk.val 8218 := left_of (mods := lawMods) (runs := topRuns) (F := finT) (S := finS) rfl (boot_open (N := 8218) open_pw (by rfl) fence_pw) (fun _ _ => rfl) topFin finAbs finOk finObsS finSeen
theorem lawSaid : PySem.Challenge.rw_nu0181_01.wellSaid = true := by
  unfold OpenLaw.wellSaid
  repeat' with_reducible refine look_both ?_ ?_
  all_goals (try unfold OpenRow.wellSaid)
  all_goals (repeat' with_reducible refine look_both ?_ ?_)
  all_goals (try unfold OpenRow.partSaid)
  all_goals (repeat' with_reducible refine look_both ?_ ?_)
  all_goals (try unfold looksOpen)
  all_goals (repeat' with_reducible refine look_both ?_ ?_)
  all_goals (try rewrite [PySem.W.Fast.te11788848310118352699])
  all_goals (try rewrite [PySem.W.Fast.te9807087744658564304])
  all_goals (try rewrite [PySem.W.Fast.te12862048085361865435])
  all_goals (try rewrite [PySem.W.Fast.te8377067652309620493])
  all_goals (try rewrite [PySem.W.Fast.te18344453789297297638])
  all_goals (try rewrite [PySem.W.Fast.te14412699480532031325])
  all_goals (try rewrite [PySem.W.Fast.te8326940854005059898])
  all_goals (try rewrite [PySem.W.Fast.te5923862056798008813])
  all_goals (try rewrite [PySem.W.Fast.te17691160309236699985])
  all_goals (try rewrite [PySem.W.Fast.te13343964577679436407])
  all_goals (try rewrite [PySem.W.Fast.te17119622794617984870])
  all_goals (try rewrite [PySem.W.Fast.te17868728402115742887])
  all_goals (try rewrite [PySem.W.Fast.te10501279942588096481])
  all_goals (try rewrite [PySem.W.Fast.te8179353310426384613])
  all_goals (try rewrite [PySem.W.Fast.te797321630700447069])
  all_goals (try rewrite [PySem.W.Fast.te9558739934217749035])
  all_goals (try rewrite [PySem.W.Fast.te16286561074155671207])
  all_goals (try rewrite [PySem.W.Fast.te6984425678791042302])
  all_goals (try rewrite [PySem.W.Fast.te10792542408131684335])
  all_goals (try rewrite [PySem.W.Fast.te3471404346716756564])
  all_goals (try rewrite [PySem.W.Fast.sDec_eq])
  all_goals (try rewrite [PySem.W.Fast.named_eq])
  all_goals (as_aux_lemma => kernel_rfl)
end

theorem fill : PySem.Challenge.rw_nu0181_01 = PySem.Challenge.rw_nu0181_01 ∧ KF = KF := by k_fill; exact ⟨rfl, rfl⟩
theorem gl_Info {W : Wd KF} : nsIn (KF W.w.params) mainGlobals (Str.ofString "Info") = some (some (.ref 52)) := by k_is
theorem kp_52 {W : Wd KF} : keepIn (KF W.w.params) (.ref 52) = true := by k_is
theorem gl_Buffer {W : Wd KF} : nsIn (KF W.w.params) mainGlobals (Str.ofString "Buffer") = some (some (.ref 98)) := by k_is
theorem kp_98 {W : Wd KF} : keepIn (KF W.w.params) (.ref 98) = true := by k_is
theorem gl_hang {W : Wd KF} : nsIn (KF W.w.params) mainGlobals (Str.ofString "hang") = some (some (.ref 107)) := by k_is
theorem kp_107 {W : Wd KF} : keepIn (KF W.w.params) (.ref 107) = true := by k_is
theorem gl_Lookup {W : Wd KF} : nsIn (KF W.w.params) mainGlobals (Str.ofString "Lookup") = some (some (.ref 129)) := by k_is
theorem kp_129 {W : Wd KF} : keepIn (KF W.w.params) (.ref 129) = true := by k_is
theorem gl_Scene {W : Wd KF} : nsIn (KF W.w.params) mainGlobals (Str.ofString "Scene") = some (some (.ref 151)) := by k_is
theorem kp_151 {W : Wd KF} : keepIn (KF W.w.params) (.ref 151) = true := by k_is
theorem gl_attach_wanted {W : Wd KF} : nsIn (KF W.w.params) mainGlobals (Str.ofString "attach_wanted") = some (some (.ref 162)) := by k_is
theorem kp_162 {W : Wd KF} : keepIn (KF W.w.params) (.ref 162) = true := by k_is
theorem gl_class_bit {W : Wd KF} : nsIn (KF W.w.params) mainGlobals (Str.ofString "class_bit") = some (some (.ref 169)) := by k_is
theorem kp_169 {W : Wd KF} : keepIn (KF W.w.params) (.ref 169) = true := by k_is
theorem gl_is_ignored {W : Wd KF} : nsIn (KF W.w.params) mainGlobals (Str.ofString "is_ignored") = some (some (.ref 176)) := by k_is
theorem kp_176 {W : Wd KF} : keepIn (KF W.w.params) (.ref 176) = true := by k_is
theorem gl_passes {W : Wd KF} : nsIn (KF W.w.params) mainGlobals (Str.ofString "passes") = some (some (.ref 183)) := by k_is
theorem kp_183 {W : Wd KF} : keepIn (KF W.w.params) (.ref 183) = true := by k_is
theorem gl_KINDS_AROUND {W : Wd KF} : nsIn (KF W.w.params) mainGlobals (Str.ofString "KINDS_AROUND") = some (some (.ref 184)) := by k_is
theorem gl_neighbour {W : Wd KF} : nsIn (KF W.w.params) mainGlobals (Str.ofString "neighbour") = some (some (.ref 191)) := by k_is
theorem kp_191 {W : Wd KF} : keepIn (KF W.w.params) (.ref 191) = true := by k_is
theorem gl_next_at {W : Wd KF} : nsIn (KF W.w.params) mainGlobals (Str.ofString "next_at") = some (some (.ref 198)) := by k_is
theorem kp_198 {W : Wd KF} : keepIn (KF W.w.params) (.ref 198) = true := by k_is
theorem gl_Value {W : Wd KF} : nsIn (KF W.w.params) mainGlobals (Str.ofString "Value") = some (some (.ref 229)) := by k_is
theorem kp_229 {W : Wd KF} : keepIn (KF W.w.params) (.ref 229) = true := by k_is
theorem gl_add_value {W : Wd KF} : nsIn (KF W.w.params) mainGlobals (Str.ofString "add_value") = some (some (.ref 240)) := by k_is
theorem kp_240 {W : Wd KF} : keepIn (KF W.w.params) (.ref 240) = true := by k_is
theorem gl_moves_second {W : Wd KF} : nsIn (KF W.w.params) mainGlobals (Str.ofString "moves_second") = some (some (.ref 252)) := by k_is
theorem kp_252 {W : Wd KF} : keepIn (KF W.w.params) (.ref 252) = true := by k_is
theorem gl_PairGlyphs {W : Wd KF} : nsIn (KF W.w.params) mainGlobals (Str.ofString "PairGlyphs") = some (some (.ref 282)) := by k_is
theorem kp_282 {W : Wd KF} : keepIn (KF W.w.params) (.ref 282) = true := by k_is
theorem gl_PairClasses {W : Wd KF} : nsIn (KF W.w.params) mainGlobals (Str.ofString "PairClasses") = some (some (.ref 314)) := by k_is
theorem kp_314 {W : Wd KF} : keepIn (KF W.w.params) (.ref 314) = true := by k_is
theorem gl_has_second {W : Wd KF} : nsIn (KF W.w.params) mainGlobals (Str.ofString "has_second") = some (some (.ref 325)) := by k_is
theorem kp_325 {W : Wd KF} : keepIn (KF W.w.params) (.ref 325) = true := by k_is
theorem gl_apply_pair {W : Wd KF} : nsIn (KF W.w.params) mainGlobals (Str.ofString "apply_pair") = some (some (.ref 332)) := by k_is
theorem kp_332 {W : Wd KF} : keepIn (KF W.w.params) (.ref 332) = true := by k_is
theorem gl_ClassDef {W : Wd KF} : nsIn (KF W.w.params) mainGlobals (Str.ofString "ClassDef") = some (some (.ref 375)) := by k_is
theorem kp_375 {W : Wd KF} : keepIn (KF W.w.params) (.ref 375) = true := by k_is
theorem gl_Coverage {W : Wd KF} : nsIn (KF W.w.params) mainGlobals (Str.ofString "Coverage") = some (some (.ref 417)) := by k_is
theorem kp_417 {W : Wd KF} : keepIn (KF W.w.params) (.ref 417) = true := by k_is
theorem gl_coverage_of {W : Wd KF} : nsIn (KF W.w.params) mainGlobals (Str.ofString "coverage_of") = some (some (.ref 428)) := by k_is
theorem kp_428 {W : Wd KF} : keepIn (KF W.w.params) (.ref 428) = true := by k_is
theorem gl_Gdef {W : Wd KF} : nsIn (KF W.w.params) mainGlobals (Str.ofString "Gdef") = some (some (.ref 472)) := by k_is
theorem kp_472 {W : Wd KF} : keepIn (KF W.w.params) (.ref 472) = true := by k_is
theorem gl_law_menu {W : Wd KF} : nsIn (KF W.w.params) mainGlobals (Str.ofString "_law_menu") = some (some (.ref 481)) := by k_is
theorem gl_law_draw {W : Wd KF} : nsIn (KF W.w.params) mainGlobals (Str.ofString "_law_draw") = some (some (.ref 488)) := by k_is
theorem kp_488 {W : Wd KF} : keepIn (KF W.w.params) (.ref 488) = true := by k_is
theorem gl_law_pen {W : Wd KF} : nsIn (KF W.w.params) mainGlobals (Str.ofString "_law_pen") = some (some (.ref 495)) := by k_is
theorem kp_495 {W : Wd KF} : keepIn (KF W.w.params) (.ref 495) = true := by k_is
theorem gl_law_value {W : Wd KF} : nsIn (KF W.w.params) mainGlobals (Str.ofString "_law_value") = some (some (.ref 502)) := by k_is
theorem kp_502 {W : Wd KF} : keepIn (KF W.w.params) (.ref 502) = true := by k_is
theorem gl_law_row {W : Wd KF} : nsIn (KF W.w.params) mainGlobals (Str.ofString "_law_row") = some (some (.ref 509)) := by k_is
theorem kp_509 {W : Wd KF} : keepIn (KF W.w.params) (.ref 509) = true := by k_is
theorem gl_law_pairs {W : Wd KF} : nsIn (KF W.w.params) mainGlobals (Str.ofString "_law_pairs") = some (some (.ref 516)) := by k_is
theorem kp_516 {W : Wd KF} : keepIn (KF W.w.params) (.ref 516) = true := by k_is
theorem gl_law_glyph_table {W : Wd KF} : nsIn (KF W.w.params) mainGlobals (Str.ofString "_law_glyph_table") = some (some (.ref 521)) := by k_is
theorem kp_521 {W : Wd KF} : keepIn (KF W.w.params) (.ref 521) = true := by k_is
theorem gl_law_class_table {W : Wd KF} : nsIn (KF W.w.params) mainGlobals (Str.ofString "_law_class_table") = some (some (.ref 526)) := by k_is
theorem kp_526 {W : Wd KF} : keepIn (KF W.w.params) (.ref 526) = true := by k_is
theorem gl_law_step {W : Wd KF} : nsIn (KF W.w.params) mainGlobals (Str.ofString "_law_step") = some (some (.ref 531)) := by k_is
theorem kp_531 {W : Wd KF} : keepIn (KF W.w.params) (.ref 531) = true := by k_is
theorem gl_law_shown {W : Wd KF} : nsIn (KF W.w.params) mainGlobals (Str.ofString "_law_shown") = some (some (.ref 536)) := by k_is
theorem kp_536 {W : Wd KF} : keepIn (KF W.w.params) (.ref 536) = true := by k_is
theorem gl_law_infos {W : Wd KF} : nsIn (KF W.w.params) mainGlobals (Str.ofString "_law_infos") = some (some (.ref 543)) := by k_is
theorem kp_543 {W : Wd KF} : keepIn (KF W.w.params) (.ref 543) = true := by k_is
theorem gl_law_scene {W : Wd KF} : nsIn (KF W.w.params) mainGlobals (Str.ofString "_law_scene") = some (some (.ref 550)) := by k_is
theorem kp_550 {W : Wd KF} : keepIn (KF W.w.params) (.ref 550) = true := by k_is
theorem gl_law_right {W : Wd KF} : nsIn (KF W.w.params) mainGlobals (Str.ofString "_law_right") = some (some (.ref 557)) := by k_is
theorem kp_557 {W : Wd KF} : keepIn (KF W.w.params) (.ref 557) = true := by k_is
theorem gb_len {W : Wd KF} : nsIn (KF W.w.params) mainGlobals (Str.ofString "len") = some none := by k_is
theorem bb_len : bootBuiltins (Str.ofString "len") = some (.builtin "len") := rfl
theorem gb_range {W : Wd KF} : nsIn (KF W.w.params) mainGlobals (Str.ofString "range") = some none := by k_is
theorem bb_range : bootBuiltins (Str.ofString "range") = some (.type "range") := rfl
theorem gb_abs {W : Wd KF} : nsIn (KF W.w.params) mainGlobals (Str.ofString "abs") = some none := by k_is
theorem bb_abs : bootBuiltins (Str.ofString "abs") = some (.builtin "abs") := rfl
theorem gb_min {W : Wd KF} : nsIn (KF W.w.params) mainGlobals (Str.ofString "min") = some none := by k_is
theorem bb_min : bootBuiltins (Str.ofString "min") = some (.builtin "min") := rfl
theorem gb_max {W : Wd KF} : nsIn (KF W.w.params) mainGlobals (Str.ofString "max") = some none := by k_is
theorem bb_max : bootBuiltins (Str.ofString "max") = some (.builtin "max") := rfl
theorem gb_sum {W : Wd KF} : nsIn (KF W.w.params) mainGlobals (Str.ofString "sum") = some none := by k_is
theorem bb_sum : bootBuiltins (Str.ofString "sum") = some (.builtin "sum") := rfl
theorem gb_tuple {W : Wd KF} : nsIn (KF W.w.params) mainGlobals (Str.ofString "tuple") = some none := by k_is
theorem bb_tuple : bootBuiltins (Str.ofString "tuple") = some (.type "tuple") := rfl
theorem gb_list {W : Wd KF} : nsIn (KF W.w.params) mainGlobals (Str.ofString "list") = some none := by k_is
theorem bb_list : bootBuiltins (Str.ofString "list") = some (.type "list") := rfl
theorem gb_dict {W : Wd KF} : nsIn (KF W.w.params) mainGlobals (Str.ofString "dict") = some none := by k_is
theorem bb_dict : bootBuiltins (Str.ofString "dict") = some (.type "dict") := rfl
theorem gb_sorted {W : Wd KF} : nsIn (KF W.w.params) mainGlobals (Str.ofString "sorted") = some none := by k_is
theorem bb_sorted : bootBuiltins (Str.ofString "sorted") = some (.builtin "sorted") := rfl
theorem cls_s52 {W : Wd KF} : findIn (KF W.w.params) (.ref 52) "__setattr__" = some (some (.builtin "object.__setattr__")) := by k_is
theorem cls_p52 {W : Wd KF} : plainOver (KF W.w.params) 52 = true := by k_is
theorem cls_h52 {W : Wd KF} : hasDictIn (KF W.w.params) 52 = true := by k_is
theorem cls_m52 {W : Wd KF} : makesIn (KF W.w.params) 52 = true := by k_is
theorem cls_i52 {W : Wd KF} : findIn (KF W.w.params) (.ref 52) "__init__" = some (some (.ref 35)) := by k_is
theorem cls_f52 {W : Wd KF} : isFn (KF W.w.params) (.ref 35) = true := by k_is
theorem cls_s98 {W : Wd KF} : findIn (KF W.w.params) (.ref 98) "__setattr__" = some (some (.builtin "object.__setattr__")) := by k_is
theorem cls_p98 {W : Wd KF} : plainOver (KF W.w.params) 98 = true := by k_is
theorem cls_h98 {W : Wd KF} : hasDictIn (KF W.w.params) 98 = true := by k_is
theorem cls_m98 {W : Wd KF} : makesIn (KF W.w.params) 98 = true := by k_is
theorem cls_i98 {W : Wd KF} : findIn (KF W.w.params) (.ref 98) "__init__" = some (some (.ref 71)) := by k_is
theorem cls_f98 {W : Wd KF} : isFn (KF W.w.params) (.ref 71) = true := by k_is
theorem cls_s129 {W : Wd KF} : findIn (KF W.w.params) (.ref 129) "__setattr__" = some (some (.builtin "object.__setattr__")) := by k_is
theorem cls_p129 {W : Wd KF} : plainOver (KF W.w.params) 129 = true := by k_is
theorem cls_h129 {W : Wd KF} : hasDictIn (KF W.w.params) 129 = true := by k_is
theorem cls_m129 {W : Wd KF} : makesIn (KF W.w.params) 129 = true := by k_is
theorem cls_i129 {W : Wd KF} : findIn (KF W.w.params) (.ref 129) "__init__" = some (some (.ref 121)) := by k_is
theorem cls_f129 {W : Wd KF} : isFn (KF W.w.params) (.ref 121) = true := by k_is
theorem cls_s151 {W : Wd KF} : findIn (KF W.w.params) (.ref 151) "__setattr__" = some (some (.builtin "object.__setattr__")) := by k_is
theorem cls_p151 {W : Wd KF} : plainOver (KF W.w.params) 151 = true := by k_is
theorem cls_h151 {W : Wd KF} : hasDictIn (KF W.w.params) 151 = true := by k_is
theorem cls_m151 {W : Wd KF} : makesIn (KF W.w.params) 151 = true := by k_is
theorem cls_i151 {W : Wd KF} : findIn (KF W.w.params) (.ref 151) "__init__" = some (some (.ref 148)) := by k_is
theorem cls_f151 {W : Wd KF} : isFn (KF W.w.params) (.ref 148) = true := by k_is
theorem cls_s229 {W : Wd KF} : findIn (KF W.w.params) (.ref 229) "__setattr__" = some (some (.builtin "object.__setattr__")) := by k_is
theorem cls_p229 {W : Wd KF} : plainOver (KF W.w.params) 229 = true := by k_is
theorem cls_h229 {W : Wd KF} : hasDictIn (KF W.w.params) 229 = true := by k_is
theorem cls_m229 {W : Wd KF} : makesIn (KF W.w.params) 229 = true := by k_is
theorem cls_i229 {W : Wd KF} : findIn (KF W.w.params) (.ref 229) "__init__" = some (some (.ref 212)) := by k_is
theorem cls_f229 {W : Wd KF} : isFn (KF W.w.params) (.ref 212) = true := by k_is
theorem cls_s282 {W : Wd KF} : findIn (KF W.w.params) (.ref 282) "__setattr__" = some (some (.builtin "object.__setattr__")) := by k_is
theorem cls_p282 {W : Wd KF} : plainOver (KF W.w.params) 282 = true := by k_is
theorem cls_h282 {W : Wd KF} : hasDictIn (KF W.w.params) 282 = true := by k_is
theorem cls_m282 {W : Wd KF} : makesIn (KF W.w.params) 282 = true := by k_is
theorem cls_i282 {W : Wd KF} : findIn (KF W.w.params) (.ref 282) "__init__" = some (some (.ref 267)) := by k_is
theorem cls_f282 {W : Wd KF} : isFn (KF W.w.params) (.ref 267) = true := by k_is
theorem cls_s314 {W : Wd KF} : findIn (KF W.w.params) (.ref 314) "__setattr__" = some (some (.builtin "object.__setattr__")) := by k_is
theorem cls_p314 {W : Wd KF} : plainOver (KF W.w.params) 314 = true := by k_is
theorem cls_h314 {W : Wd KF} : hasDictIn (KF W.w.params) 314 = true := by k_is
theorem cls_m314 {W : Wd KF} : makesIn (KF W.w.params) 314 = true := by k_is
theorem cls_i314 {W : Wd KF} : findIn (KF W.w.params) (.ref 314) "__init__" = some (some (.ref 299)) := by k_is
theorem cls_f314 {W : Wd KF} : isFn (KF W.w.params) (.ref 299) = true := by k_is
theorem cls_s375 {W : Wd KF} : findIn (KF W.w.params) (.ref 375) "__setattr__" = some (some (.builtin "object.__setattr__")) := by k_is
theorem cls_p375 {W : Wd KF} : plainOver (KF W.w.params) 375 = true := by k_is
theorem cls_h375 {W : Wd KF} : hasDictIn (KF W.w.params) 375 = true := by k_is
theorem cls_m375 {W : Wd KF} : makesIn (KF W.w.params) 375 = true := by k_is
theorem cls_i375 {W : Wd KF} : findIn (KF W.w.params) (.ref 375) "__init__" = some (some (.ref 346)) := by k_is
theorem cls_f375 {W : Wd KF} : isFn (KF W.w.params) (.ref 346) = true := by k_is
theorem cls_s417 {W : Wd KF} : findIn (KF W.w.params) (.ref 417) "__setattr__" = some (some (.builtin "object.__setattr__")) := by k_is
theorem cls_p417 {W : Wd KF} : plainOver (KF W.w.params) 417 = true := by k_is
theorem cls_h417 {W : Wd KF} : hasDictIn (KF W.w.params) 417 = true := by k_is
theorem cls_m417 {W : Wd KF} : makesIn (KF W.w.params) 417 = true := by k_is
theorem cls_i417 {W : Wd KF} : findIn (KF W.w.params) (.ref 417) "__init__" = some (some (.ref 393)) := by k_is
theorem cls_f417 {W : Wd KF} : isFn (KF W.w.params) (.ref 393) = true := by k_is
theorem cls_s472 {W : Wd KF} : findIn (KF W.w.params) (.ref 472) "__setattr__" = some (some (.builtin "object.__setattr__")) := by k_is
theorem cls_p472 {W : Wd KF} : plainOver (KF W.w.params) 472 = true := by k_is
theorem cls_h472 {W : Wd KF} : hasDictIn (KF W.w.params) 472 = true := by k_is
theorem cls_m472 {W : Wd KF} : makesIn (KF W.w.params) 472 = true := by k_is
theorem cls_i472 {W : Wd KF} : findIn (KF W.w.params) (.ref 472) "__init__" = some (some (.ref 443)) := by k_is
theorem cls_f472 {W : Wd KF} : isFn (KF W.w.params) (.ref 443) = true := by k_is
theorem szl {vs : List Value} (h : vs.length ≤ 1000) : vs.length ≤ sizeLine := by rw [sizeLine_eq]; omega
section
variable {KK : Params → Frag} {W : Wd KK} {n : Nat} {env : Env} {g : Gh} {l : Lm}
theorem R_argsB0 {f : Value} {e : Expr} {rest : List Expr} {pos : Pos} {Q : Value → Gh → Lm → Prop} (hk : ∀ a, f ≠ .ref a)
    (he : starEach (e :: rest) env = (false, eval e env) :: starEach rest env) (hplain : (backTo pos (starEach rest env)).any (·.1) = false)
    (h : R W n env g l (spliced (backTo pos (starEach (e :: rest) env))) fun vs g' l' => R W n env g' l' (call f vs) Q) : R W n env g l (callWith pos f [] (backTo pos (starEach (e :: rest) env)) []) Q := R_callArgsB hk he hplain h
theorem R_argsB1 {f x : Value} {e : Expr} {rest : List Expr} {pos : Pos} {Q : Value → Gh → Lm → Prop} (hk : ∀ a, f ≠ .ref a)
    (he : starEach (e :: rest) env = (false, eval e env) :: starEach rest env) (hplain : (backTo pos (starEach rest env)).any (·.1) = false)
    (h : R W n env g l (spliced (backTo pos (starEach (e :: rest) env))) fun vs g' l' => R W n env g' l' (call f (x :: vs)) Q) : R W n env g l (callWith pos f [x] (backTo pos (starEach (e :: rest) env)) []) Q := R_callArgsB hk he hplain h
theorem R_argsK0 {f : Value} {e : Expr} {rest : List Expr} {pos : Pos} {Q : Value → Gh → Lm → Prop} (hk : keepIn (KK W.w.params) f = true)
    (he : starEach (e :: rest) env = (false, eval e env) :: starEach rest env) (hplain : (backTo pos (starEach rest env)).any (·.1) = false)
    (h : R W n env g l (spliced (backTo pos (starEach (e :: rest) env))) fun vs g' l' => R W n env g' l' (call f vs) Q) : R W n env g l (callWith pos f [] (backTo pos (starEach (e :: rest) env)) []) Q := R_callArgs hk he hplain h
theorem R_argsK1 {f x : Value} {e : Expr} {rest : List Expr} {pos : Pos} {Q : Value → Gh → Lm → Prop} (hk : keepIn (KK W.w.params) f = true)
    (he : starEach (e :: rest) env = (false, eval e env) :: starEach rest env) (hplain : (backTo pos (starEach rest env)).any (·.1) = false)
    (h : R W n env g l (spliced (backTo pos (starEach (e :: rest) env))) fun vs g' l' => R W n env g' l' (call f (x :: vs)) Q) : R W n env g l (callWith pos f [x] (backTo pos (starEach (e :: rest) env)) []) Q := R_callArgs hk he hplain h
theorem R_argsK00 {f : Value} {pos : Pos} {Q : Value → Gh → Lm → Prop} (hk : keepIn (KK W.w.params) f = true)
    (h : R W n env g l (call f []) Q) : R W n env g l (callWith pos f [] (backTo pos (starEach [] env)) []) Q := R_callArgs0 hk h
theorem R_argsK10 {f x : Value} {pos : Pos} {Q : Value → Gh → Lm → Prop} (hk : keepIn (KK W.w.params) f = true)
    (h : R W n env g l (call f [x]) Q) : R W n env g l (callWith pos f [x] (backTo pos (starEach [] env)) []) Q := R_callArgs0 hk h
theorem R_argsB10 {f x : Value} {pos : Pos} {Q : Value → Gh → Lm → Prop} (hk : ∀ a, f ≠ .ref a)
    (h : R W n env g l (call f [x]) Q) : R W n env g l (callWith pos f [x] (backTo pos (starEach [] env)) []) Q := R_callArgsB0 hk h
end

local macro_rules | `(tactic| walk_at "gl") => `(tactic| first | with_reducible exact gl_Info | with_reducible exact gl_Buffer | with_reducible exact gl_hang | with_reducible exact gl_Lookup | with_reducible exact gl_Scene | with_reducible exact gl_attach_wanted | with_reducible exact gl_class_bit | with_reducible exact gl_is_ignored | with_reducible exact gl_passes | with_reducible exact gl_KINDS_AROUND | with_reducible exact gl_neighbour | with_reducible exact gl_next_at | with_reducible exact gl_Value | with_reducible exact gl_add_value | with_reducible exact gl_moves_second | with_reducible exact gl_PairGlyphs | with_reducible exact gl_PairClasses | with_reducible exact gl_has_second | with_reducible exact gl_apply_pair | with_reducible exact gl_ClassDef | with_reducible exact gl_Coverage | with_reducible exact gl_coverage_of | with_reducible exact gl_Gdef | with_reducible exact gl_law_menu | with_reducible exact gl_law_draw | with_reducible exact gl_law_pen | with_reducible exact gl_law_value | with_reducible exact gl_law_row | with_reducible exact gl_law_pairs | with_reducible exact gl_law_glyph_table | with_reducible exact gl_law_class_table | with_reducible exact gl_law_step | with_reducible exact gl_law_shown | with_reducible exact gl_law_infos | with_reducible exact gl_law_scene | with_reducible exact gl_law_right | k_is)
local macro_rules | `(tactic| walk_at "gb") => `(tactic| first | with_reducible exact gb_len | with_reducible exact gb_range | with_reducible exact gb_abs | with_reducible exact gb_min | with_reducible exact gb_max | with_reducible exact gb_sum | with_reducible exact gb_tuple | with_reducible exact gb_list | with_reducible exact gb_dict | with_reducible exact gb_sorted)
local macro_rules | `(tactic| walk_at "bb") => `(tactic| first | with_reducible exact bb_len | with_reducible exact bb_range | with_reducible exact bb_abs | with_reducible exact bb_min | with_reducible exact bb_max | with_reducible exact bb_sum | with_reducible exact bb_tuple | with_reducible exact bb_list | with_reducible exact bb_dict | with_reducible exact bb_sorted)
local macro_rules | `(tactic| walk_at "kp") => `(tactic| first | with_reducible assumption | with_reducible exact kp_52 | with_reducible exact kp_98 | with_reducible exact kp_107 | with_reducible exact kp_129 | with_reducible exact kp_151 | with_reducible exact kp_162 | with_reducible exact kp_169 | with_reducible exact kp_176 | with_reducible exact kp_183 | with_reducible exact kp_191 | with_reducible exact kp_198 | with_reducible exact kp_229 | with_reducible exact kp_240 | with_reducible exact kp_252 | with_reducible exact kp_282 | with_reducible exact kp_314 | with_reducible exact kp_325 | with_reducible exact kp_332 | with_reducible exact kp_375 | with_reducible exact kp_417 | with_reducible exact kp_428 | with_reducible exact kp_472 | with_reducible exact kp_488 | with_reducible exact kp_495 | with_reducible exact kp_502 | with_reducible exact kp_509 | with_reducible exact kp_516 | with_reducible exact kp_521 | with_reducible exact kp_526 | with_reducible exact kp_531 | with_reducible exact kp_536 | with_reducible exact kp_543 | with_reducible exact kp_550 | with_reducible exact kp_557 | k_is)
local macro_rules | `(tactic| walk_at "cls") => `(tactic| first | with_reducible exact cls_s52 | with_reducible exact cls_p52 | with_reducible exact cls_h52 | with_reducible exact cls_m52 | with_reducible exact cls_i52 | with_reducible exact cls_f52 | with_reducible exact cls_s98 | with_reducible exact cls_p98 | with_reducible exact cls_h98 | with_reducible exact cls_m98 | with_reducible exact cls_i98 | with_reducible exact cls_f98 | with_reducible exact cls_s129 | with_reducible exact cls_p129 | with_reducible exact cls_h129 | with_reducible exact cls_m129 | with_reducible exact cls_i129 | with_reducible exact cls_f129 | with_reducible exact cls_s151 | with_reducible exact cls_p151 | with_reducible exact cls_h151 | with_reducible exact cls_m151 | with_reducible exact cls_i151 | with_reducible exact cls_f151 | with_reducible exact cls_s229 | with_reducible exact cls_p229 | with_reducible exact cls_h229 | with_reducible exact cls_m229 | with_reducible exact cls_i229 | with_reducible exact cls_f229 | with_reducible exact cls_s282 | with_reducible exact cls_p282 | with_reducible exact cls_h282 | with_reducible exact cls_m282 | with_reducible exact cls_i282 | with_reducible exact cls_f282 | with_reducible exact cls_s314 | with_reducible exact cls_p314 | with_reducible exact cls_h314 | with_reducible exact cls_m314 | with_reducible exact cls_i314 | with_reducible exact cls_f314 | with_reducible exact cls_s375 | with_reducible exact cls_p375 | with_reducible exact cls_h375 | with_reducible exact cls_m375 | with_reducible exact cls_i375 | with_reducible exact cls_f375 | with_reducible exact cls_s417 | with_reducible exact cls_p417 | with_reducible exact cls_h417 | with_reducible exact cls_m417 | with_reducible exact cls_i417 | with_reducible exact cls_f417 | with_reducible exact cls_s472 | with_reducible exact cls_p472 | with_reducible exact cls_h472 | with_reducible exact cls_m472 | with_reducible exact cls_i472 | with_reducible exact cls_f472 | k_is)

local macro_rules | `(tactic| walk_at "ne") => `(tactic| first
  | with_reducible assumption
  | exact Ne.symm (by with_reducible assumption))
local macro_rules | `(tactic| walk_at "get") => `(tactic| first
  | with_reducible assumption
  | with_reducible exact up_same
  | ((with_reducible refine up_old (by with_reducible assumption) ?_); walk_at "get")
  | ((with_reducible refine (up_ne ?hne).trans ?_); (case hne => walk_at "ne"); walk_at "get"))
local macro_rules | `(tactic| walk_at "ife") => `(tactic| with_reducible refine R_ifexp ?_)
local macro_rules | `(tactic| walk_at "s") => `(tactic| first
  | with_reducible refine R_cons ?_
  | with_reducible refine Then_next ?_
  | with_reducible refine Then_ret ?_
  | with_reducible refine R_nil ?_
  | ((with_reducible refine R_assign ?hk ?hx ?hs ?_); (case hk => rfl); (case hx => rfl); (case hs => rfl))
  | ((with_reducible refine R_assignAttr ?hs ?_); (case hs => rfl))
  | ((with_reducible refine R_assignSub ?hs ?_); (case hs => rfl))
  | (with_reducible refine R_return ?_)
  | (with_reducible refine R_if ?_)
  | ((with_reducible refine R_isCmp ?hm ?_); (case hm => rfl))
  | ((with_reducible refine R_cmp ?hm ?_); (case hm => rfl))
  | (with_reducible refine R_isNot ?_)
  | (with_reducible refine R_isBool ?_)
  | ((with_reducible refine R_int ?_); intro _)
  | ((with_reducible refine R_str ?_); intro _)
  | ((with_reducible refine' R_local ?hk ?hx ?hd ?hv ?_); (case hk => rfl); (case hx => rfl); (case hd => rfl); (case hv => rfl))
  | ((with_reducible refine' R_builtin ?he ?hx ?hd ?hv ?hb ?hn ?_); (case he => exact ⟨rfl, rfl, rfl⟩); (case hx => rfl); (case hd => rfl); (case hv => walk_at "gb"); (case hb => walk_at "bb"); (case hn => decide))
  | ((with_reducible refine' R_global ?he ?hx ?hd ?hv ?_); (case he => exact ⟨rfl, rfl, rfl⟩); (case hx => rfl); (case hd => rfl); (case hv => walk_at "gl"))
  | (with_reducible refine R_binop ?_)
  | (with_reducible refine R_unop ?_)
  | (with_reducible refine R_slice ?_)
  | (with_reducible refine R_opt1 ?_)
  | (with_reducible refine R_opt0 ?_)
  | (with_reducible refine R_subs ?_)
  | ((with_reducible refine R_attr ?hs ?_); (case hs => rfl))
  | ((with_reducible refine R_call ?hf ?_); (case hf => intro _ _ _ h; cases h))
  | ((with_reducible refine R_argsB0 ?hk ?he ?hp ?_); (case hk => intro _ h; cases h); (case he => rfl); (case hp => rfl))
  | ((with_reducible refine R_argsB1 ?hk ?he ?hp ?_); (case hk => intro _ h; cases h); (case he => rfl); (case hp => rfl))
  | ((with_reducible refine R_argsK0 ?hk ?he ?hp ?_); (case hk => walk_at "kp"); (case he => rfl); (case hp => rfl))
  | ((with_reducible refine R_argsK1 ?hk ?he ?hp ?_); (case hk => walk_at "kp"); (case he => rfl); (case hp => rfl))
  | ((with_reducible refine R_argsK00 ?hk ?_); (case hk => walk_at "kp"))
  | ((with_reducible refine R_argsK10 ?hk ?_); (case hk => walk_at "kp"))
  | ((with_reducible refine R_argsB10 ?hk ?_); (case hk => intro _ h; cases h))
  | ((with_reducible refine' R_lenL ?hl ?hz ?_); (case hl => first | with_reducible assumption | exact ⟨_, by walk_at "get"⟩); (case hz => first | with_reducible assumption | (simp; done) | omega); intro _)
  | ((with_reducible refine R_pow ?h0 ?h1 ?h2 ?_); (case h0 => decide); (case h1 => decide); (case h2 => decide); intro _)
  | ((with_reducible refine R_neg ?_); intro _)
  | (with_reducible refine R_itNil ?_)
  | ((with_reducible refine R_itCons ?hs ?_); (case hs => rfl))
  | ((with_reducible refine R_add ?_); intro _)
  | ((with_reducible refine R_sub ?_); intro _)
  | (with_reducible refine R_lt ?_)
  | (with_reducible refine R_gt ?_)
  | (with_reducible refine R_le ?_)
  | (with_reducible refine R_ge ?_)
  | (with_reducible refine R_trB ?_)
  | ((with_reducible refine' R_itemL ?hl ?h0 ?hz ?hv ?hs ?_); (case hl => first | with_reducible assumption | exact ⟨_, by walk_at "get"⟩); (case h0 => decide); (case hz => decide); (case hv => rfl); (case hs => rfl))
  | ((with_reducible refine' R_setL ?hl ?hB ?h0 ?hz ?hk ?_); (case hl => exact ⟨_, by walk_at "get"⟩); (case hB => with_reducible assumption); (case h0 => decide); (case hz => decide); (case hk => simp); intro _)
  | ((with_reducible refine R_mod ?hb ?_); (case hb => with_reducible assumption); intro _)
  | ((with_reducible refine R_div ?hb ?hp ?_); (case hb => with_reducible assumption); (case hp => with_reducible assumption); intro _)
  | ((with_reducible refine R_abs ?_); intro _)
  | ((with_reducible refine' R_setNew ?hd ?hx ?hB ?hk ?hs ?hp ?ht ?hh ?hn ?_); (case hd => with_reducible assumption); (case hx => walk_at "get"); (case hB => with_reducible assumption); (case hk => decide); (case hs => walk_at "cls"); (case hp => walk_at "cls"); (case ht => k_is); (case hh => walk_at "cls"); (case hn => rfl); intro _ _)
  | ((with_reducible refine' R_itemT ?hl ?h0 ?hz ?hv ?hs ?_); (case hl => first | with_reducible assumption | exact ⟨_, by walk_at "get"⟩); (case h0 => decide); (case hz => decide); (case hv => rfl); (case hs => rfl))
  | ((with_reducible refine' R_getI ?hx ?hg ?hh ?ha ?hn ?hv ?hi ?_); (case hx => with_reducible assumption); (case hg => k_is); (case hh => walk_at "cls"); (case ha => k_is); (case hn => k_is); (case hv => first | with_reducible assumption | rfl); (case hi => rfl))
  | ((with_reducible refine' R_methU ?he ?_); (case he => rfl))
  | ((with_reducible refine' R_getM ?hx ?hg ?hf ?ht ?hv ?_); (case hx => with_reducible assumption); (case hg => k_is); (case hf => k_is); (case ht => k_is); (case hv => first | with_reducible assumption | rfl))
  | (with_reducible refine R_none ?_)
  | (with_reducible refine R_bool ?_)
  | (with_reducible refine R_tuple ?_)
  | (with_reducible refine R_list ?_)
  | ((with_reducible refine And.intro (szl ?hz) ?_); (case hz => simp); intro _ _ _)
  | ((with_reducible refine R_expr ?hi ?hs ?_); (case hi => rfl); (case hs => rfl))
  | ((with_reducible refine' R_getAppend ?hl ?_); (case hl => first | with_reducible assumption | exact ⟨_, by walk_at "get"⟩))
  | ((with_reducible refine' R_append ?hl ?hB ?hz ?_); (case hl => first | with_reducible assumption | exact ⟨_, by walk_at "get"⟩); (case hB => with_reducible assumption); (case hz => first | with_reducible assumption | (simp; done) | (simp; omega) | omega); intro _)
  | (with_reducible refine and_none ?_)
  | ((with_reducible refine R_toName ?hk ?hx ?_); (case hk => rfl); (case hx => rfl))
  | ((with_reducible refine' R_to2 ?ht ?hk ?ha ?hb ?_); (case ht => first | with_reducible assumption | exact ⟨_, by walk_at "get"⟩); (case hk => rfl); (case ha => rfl); (case hb => rfl))
  | ((with_reducible refine' R_to3 ?ht ?hk ?ha ?hb ?hc ?_); (case ht => first | with_reducible assumption | exact ⟨_, by walk_at "get"⟩); (case hk => rfl); (case ha => rfl); (case hb => rfl); (case hc => rfl))
  | ((with_reducible refine' R_swap2 ?hs ?hw ?hk ?ha ?hb ?_); (case hs => rfl); (case hw => rfl); (case hk => rfl); (case ha => rfl); (case hb => rfl))
  | ((with_reducible refine' R_swap3 ?hs ?hw ?hk ?ha ?hb ?hc ?_); (case hs => rfl); (case hw => rfl); (case hk => rfl); (case ha => rfl); (case hb => rfl); (case hc => rfl))
  | ((with_reducible refine R_AssignTuple ?hs ?hw ?_); (case hs => rfl); (case hw => rfl))
  | (with_reducible refine Turn_next ?_)
  | (with_reducible refine Turn_ret ?_)
  | (with_reducible refine Uncur_intro ?_)
  | ((with_reducible refine R_emptyDict ?_); intro _ _ _ _)
  | ((with_reducible refine R_isChain ?hm ?_); (case hm => rfl))
  | (with_reducible refine R_trI ?_)
  | ((with_reducible refine R_and ?_); intro _)
  | ((with_reducible refine R_isValue ?hi ?_); (case hi => rfl))
  )


structure PenD (W : Wd KF) (g : Gh) (p : Addr) (o : Obj) (cl : Addr) (spot carry seed : Int) (b : Int) : Prop where
  obj : ∃ t u v c, o = lstO [.ref cl, .int spot t, .int carry u, .int seed v] c
  cells : ∃ vs ns, LI g cl vs ∧ IntsAre vs ns ∧ ns.length ≤ 63
  ne : cl ≠ p
  base : W.B.get? p = none
  spot0 : 0 ≤ spot
  spotB : spot ≤ b
  carry0 : 0 ≤ carry
  seed0 : 0 ≤ seed
  seedB : seed < 1009
def Pen (W : Wd KF) (g : Gh) (p cl : Addr) (b : Int) : Prop := ∃ o spot carry seed, g p = some o ∧ PenD W g p o cl spot carry seed b

theorem bits_small {x : Int} (h0 : 0 ≤ x) (h1 : x < 2 ^ 63) : Builtin.Int.intBits x ≤ 64 := by
  unfold Builtin.Int.intBits
  split
  · omega
  · rename_i h
    have hx : x.natAbs ≠ 0 := by simpa using h
    have : x.natAbs.log2 < 63 := (Nat.log2_lt hx).mpr (by omega)
    omega

theorem draw {W : Wd KF} {n : Nat} {L : Addr} {l : Lm} {g : Gh} {p cl : Addr} {many b : Int} {t : Tok} {Q : Value → Gh → Prop} (hp : Pen W g p cl b) (h1 : 1 ≤ many) (h2 : many ≤ 10) (hb : b ≤ 1000)
    (h : ∀ k t o, 0 ≤ k → k < many → Pen W (up g p o) p cl (b + 1) → Q (.int k t) (up g p o)) :
    RC W (n+1) L l g (.call (.ref 488) ⟨[.ref p, .int many t], []⟩) Q := by
  obtain ⟨o, spot, carry, seed, ho, ⟨⟨t1, t2, t3, c, rfl⟩, ⟨vs, ns, hcl, hvs, hlen⟩, hne, hB, s0, sB, c0, e0, eB⟩⟩ := hp
  refine RC_def (binds := [(Str.ofString "pen", .ref p), (Str.ofString "many", .int many t)]) (by k_is) (by k_is) (fun _ _ => BindsTo.of_eq rfl) rfl rfl rfl rfl rfl fun L' => ?_
  have hmany : many ≠ 0 := by omega
  have hlog : many.natAbs.log2 < 9000 := Nat.lt_of_le_of_lt (Nat.log2_le_self _) (by omega)
  repeat walk_at "s"
  refine ⟨fun q => ?_, fun q => ?_⟩
  · have q' : 0 < carry := of_decide_eq_true q
    repeat walk_at "s"
    refine h _ _ _ (Int.fmod_nonneg_of_pos _ (by omega)) (Int.fmod_lt_of_pos _ (by omega)) ⟨_, spot, carry.fdiv many, seed, up_same, ⟨⟨_, _, _, _, rfl⟩, ?_, hne, hB, s0, by omega, ?_, e0, eB⟩⟩
    · exact ⟨vs, ns, ⟨hcl.choose, (up_ne hne).trans hcl.choose_spec⟩, hvs, hlen⟩
    · rw [Int.fdiv_eq_ediv_of_nonneg _ (by omega)]; exact Int.ediv_nonneg (by omega) (by omega)
  · have hcl' : ∀ o, LI (up g p o) cl vs := fun o => ⟨hcl.choose, (up_ne hne).trans hcl.choose_spec⟩
    have hvl : vs.length = ns.length := hvs.length
    have q' : ¬ 0 < carry := of_decide_eq_false q
    have h7 : (7 : Int) ≠ 0 := by decide
    have hl7 : (7 : Int).natAbs.log2 < 9000 := by decide
    have hcell : ∀ o, ∃ vs ns, LI (up g p o) cl vs ∧ IntsAre vs ns ∧ ns.length ≤ 63 := fun o => ⟨vs, ns, hcl' o, hvs, hlen⟩
    repeat walk_at "s"
    refine R_lenL (hcl' _) (by omega) fun _ => ?_
    repeat walk_at "s"
    refine ⟨fun z => ?_, fun z => ?_⟩
    · have z' : (vs.length : Int) ≤ spot := of_decide_eq_true z
      repeat walk_at "s"
      refine R_mul (.of_left (bits_small (by omega) (by omega))) fun _ => ?_
      repeat walk_at "s"
      refine R_mul (.of_right (bits_small (by omega) (by omega))) fun _ => ?_
      repeat walk_at "s"
      exact h _ _ _ (Int.fmod_nonneg_of_pos _ (by omega)) (Int.fmod_lt_of_pos _ (by omega)) ⟨_, spot + 1, carry, seed, up_same, ⟨⟨_, _, _, _, rfl⟩, hcell _, hne, hB, by omega, by omega, c0, e0, eB⟩⟩
    · have z' : ¬ (vs.length : Int) ≤ spot := of_decide_eq_false z
      obtain ⟨k, u, hv⟩ : ∃ k u, vs[spot.toNat]? = some (.int k u) := by
        have hlt : spot.toNat < vs.length := by omega
        obtain ⟨u, hu⟩ := hvs.int_at spot.toNat vs[spot.toNat] (by simp [hlt])
        exact ⟨_, u, by rw [← hu]; simp [hlt]⟩
      repeat walk_at "s"
      refine R_itemL (hcl' _) s0 (by omega) hv rfl ?_
      repeat walk_at "s"
      refine ⟨fun y => ?_, fun y => ?_⟩
      · repeat walk_at "s"
        exact h _ _ _ (Int.fmod_nonneg_of_pos _ (by omega)) (Int.fmod_lt_of_pos _ (by omega)) ⟨_, spot + 1, carry, seed, up_same, ⟨⟨_, _, _, _, rfl⟩, hcell _, hne, hB, by omega, by omega, c0, e0, eB⟩⟩
      · have y' := of_decide_eq_false y
        repeat walk_at "s"
        refine R_mul (.of_left (by decide)) fun _ => ?_
        repeat walk_at "s"
        have key : ∀ w : Int, (w = 1 ∨ w = 0) → 0 ≤ 2 * ((if k < 0 then -k else k) - 10 ^ Int.toNat 18) + w := fun w hw => by omega
        walk_at "ife"
        repeat walk_at "s"
        refine ⟨fun x => ?_, fun x => ?_⟩
        all_goals
          repeat walk_at "s"
          rw [up_up]
          refine h _ _ _ (Int.fmod_nonneg_of_pos _ (by omega)) (Int.fmod_lt_of_pos _ (by omega)) ⟨_, spot + 1, _, seed, up_same, ⟨⟨_, _, _, _, rfl⟩, hcell _, hne, hB, by omega, by omega, ?_, e0, eB⟩⟩
          rw [Int.fdiv_eq_ediv_of_nonneg _ (by omega)]
          exact Int.ediv_nonneg (key _ (by first | exact .inl rfl | exact .inr rfl)) (by omega)

structure V4 where
  a : Int
  b : Int
  c : Int
  e : Int
def T4 (g : Gh) (r : Addr) (v : V4) : Prop := ∃ t u w z, TU g r [.int v.a t, .int v.b u, .int v.c w, .int v.e z]
def valM (a b c e : Value) : Str → Option Value := fun y => if y = Str.ofString "y_advance" then some e else if y = Str.ofString "x_advance" then some c else if y = Str.ofString "y_offset" then some b else if y = Str.ofString "x_offset" then some a else none
def ValAt (g : Gh) (x : Addr) (v : V4) : Prop := ∃ d t u w z, Ins g 229 x d 4 (valM (.int v.a t) (.int v.b u) (.int v.c w) (.int v.e z))
theorem T4.sub {g g' : Gh} {r : Addr} {v : V4} (x : T4 g r v) (h : Sub g g') : T4 g' r v := let ⟨t, u, w, z, e⟩ := x; ⟨t, u, w, z, e.sub h⟩
theorem ValAt.sub {g g' : Gh} {r : Addr} {v : V4} (x : ValAt g r v) (h : Sub g g') : ValAt g' r v := let ⟨d, t, u, w, z, e⟩ := x; ⟨d, t, u, w, z, e.sub h⟩

theorem value_init {W : Wd KF} {n : Nat} {L : Addr} {l : Lm} {g : Gh} {x d : Addr} {a b c e : Value} {Q : Value → Gh → Prop} (hx : g x = some (instObj 229 d)) (gd : g d = none) (hB : W.B.get? d = none)
    (h : ∀ o, DSo 4 (valM a b c e) o → Q .none (up g d o)) : RC W (n+1) L l (up g d (dictOf [] 0)) (.call (.ref 212) ⟨[.ref x, a, b, c, e], []⟩) Q := by
  have h0 := DSo.nil
  have hxd : x ≠ d := fun q => by rw [q, gd] at hx; cases hx
  refine RC_def (binds := [(Str.ofString "self", .ref x), (Str.ofString "x_offset", a), (Str.ofString "y_offset", b), (Str.ofString "x_advance", c), (Str.ofString "y_advance", e)]) (by k_is) (by k_is) (fun _ _ => BindsTo.of_eq rfl) rfl rfl rfl rfl rfl fun L' => ?_
  repeat walk_at "s"
  exact h _ (by assumption)

theorem law_value {W : Wd KF} {n : Nat} {L : Addr} {l : Lm} {g : Gh} {r : Addr} {v : V4} {Q : Value → Gh → Prop} (hr : T4 g r v)
    (h : ∀ g' x, Sub g g' → g x = none → ValAt g' x v → Q (.ref x) g') : RC W (n+3) L l g (.call (.ref 502) ⟨[.ref r], []⟩) Q := by
  obtain ⟨t, u, w, z, hr⟩ := hr
  refine RC_def (binds := [(Str.ofString "row", .ref r)]) (by k_is) (by k_is) (fun _ _ => BindsTo.of_eq rfl) rfl rfl rfl rfl rfl fun L' => ?_
  repeat walk_at "s"
  refine R_make cls_m229 cls_i229 cls_f229 fun x d gx gd Bx Bd => ?_
  refine value_init (g := up g x (instObj 229 d)) up_same gd Bd fun o ho => ⟨rfl, ?_⟩
  exact h _ x ((Sub.refl.up gx).up gd) gx ⟨d, t, u, w, z, (by rw [up_ne fun q => by rw [q, up_same] at gd; cases gd]; exact up_same), o, up_same, ho⟩

theorem value_told {W : Wd KF} {n : Nat} {L : Addr} {l : Lm} {g : Gh} {x : Addr} {v : V4} {Q : Value → Gh → Prop} (hx : ValAt g x v)
    (h : ∀ g' r, Sub g g' → T4 g' r v → Q (.ref r) g') : RC W (n+1) L l g (.call (.ref 219) ⟨[.ref x], []⟩) Q := by
  obtain ⟨d, t, u, w, z, hi⟩ := hx
  refine RC_def (binds := [(Str.ofString "self", .ref x)]) (by k_is) (by k_is) (fun _ _ => BindsTo.of_eq rfl) rfl rfl rfl rfl rfl fun L' => ?_
  repeat walk_at "s"
  exact h _ _ (Sub.refl.up (by assumption)) ⟨t, u, w, z, _, up_same⟩

theorem reads4 {g : Gh} {r : Addr} {v : V4} (hr : T4 g r v) : ∀ h : Heap, (∀ c o, g c = some o → h.get? c = some o) → ∃ as, Reads h (.ref r) (.tuple [.int v.a, .int v.b, .int v.c, .int v.e]) as := fun h hk => by
  obtain ⟨t, u, w, z, c, e⟩ := hr
  exact ⟨_, reads_tuple_at (hk _ _ e) rfl rfl (.cons (.int _ _) (.cons (.int _ _) (.cons (.int _ _) (.cons (.int _ _) .nil))))⟩
def V4.zero : V4 := ⟨0, 0, 0, 0⟩
theorem value_nothing {W : Wd KF} {n : Nat} {L : Addr} {l : Lm} {g : Gh} {x : Addr} {v : V4} {Q : Value → Gh → Prop} (hx : ValAt g x v)
    (h : ∀ g', Sub g g' → Q (.bool (decide (v.a = 0 ∧ v.b = 0 ∧ v.c = 0 ∧ v.e = 0))) g') : RC W (n+2) L l g (.call (.ref 226) ⟨[.ref x], []⟩) Q := by
  obtain ⟨d, t, u, w, z, hi⟩ := id hx
  refine RC_def (binds := [(Str.ofString "self", .ref x)]) (by k_is) (by k_is) (fun _ _ => BindsTo.of_eq rfl) rfl rfl rfl rfl rfl fun L' => ?_
  repeat walk_at "s"
  refine R_ofRC (value_told hx fun g' r hs hr => ?_)
  repeat walk_at "s"
  rename_i a ga Ba
  refine R_eqD (reads4 (v := v) (hr.sub (Sub.refl.up ga))) (reads4 (v := V4.zero) ⟨_, _, _, _, _, up_same⟩) rfl rfl ?_
  have e : PyData.eqv (.tuple [.int v.a, .int v.b, .int v.c, .int v.e]) (.tuple [.int V4.zero.a, .int V4.zero.b, .int V4.zero.c, .int V4.zero.e]) = decide (v.a = 0 ∧ v.b = 0 ∧ v.c = 0 ∧ v.e = 0) := by
    obtain ⟨a, b, c, e⟩ := v
    simp [PyData.eqv, PyData.eqvAll, V4.zero]
    by_cases h1 : a = 0 <;> by_cases h2 : b = 0 <;> by_cases h3 : c = 0 <;> by_cases h4 : e = 0 <;> simp [h1, h2, h3, h4]
  rw [e]
  repeat walk_at "s"
  exact h _ (hs.up ga)

structure Rec where
  glyph : Int
  kind : Str
  cluster : Int
  xo : Int
  yo : Int
  xa : Int
  un : Bool
structure InfM (m : Str → Option Value) (r : Rec) : Prop where
  gl : ∃ t, m (Str.ofString "glyph") = some (.int r.glyph t)
  ki : ∃ t, m (Str.ofString "kind") = some (.str r.kind t)
  cl : ∃ t, m (Str.ofString "cluster") = some (.int r.cluster t)
  xo : ∃ t, m (Str.ofString "x_offset") = some (.int r.xo t)
  yo : ∃ t, m (Str.ofString "y_offset") = some (.int r.yo t)
  xa : ∃ t, m (Str.ofString "x_advance") = some (.int r.xa t)
  un : m (Str.ofString "is_unsafe") = some (.bool r.un)
theorem setM {m : Str → Option Value} {a b : Str} {v : Value} {x : Option Value} (h : a ≠ b) (e : m a = x) : (fun y => if y = b then some v else m y) a = x := (if_neg h).trans e
theorem InfM.setK {m : Str → Option Value} {r : Rec} (i : InfM m r) (k : Str) (t : Tok) : InfM (fun y => if y = Str.ofString "kind" then some (.str k t) else m y) { r with kind := k } :=
  ⟨(let ⟨z, e⟩ := i.gl; ⟨z, setM (by decide) e⟩), ⟨t, if_pos rfl⟩, (let ⟨z, e⟩ := i.cl; ⟨z, setM (by decide) e⟩), (let ⟨z, e⟩ := i.xo; ⟨z, setM (by decide) e⟩), (let ⟨z, e⟩ := i.yo; ⟨z, setM (by decide) e⟩), (let ⟨z, e⟩ := i.xa; ⟨z, setM (by decide) e⟩), setM (by decide) i.un⟩
theorem InfM.setXa {m : Str → Option Value} {r : Rec} (i : InfM m r) (k : Int) (t : Tok) : InfM (fun y => if y = Str.ofString "x_advance" then some (.int k t) else m y) { r with xa := k } :=
  ⟨(let ⟨z, e⟩ := i.gl; ⟨z, setM (by decide) e⟩), (let ⟨z, e⟩ := i.ki; ⟨z, setM (by decide) e⟩), (let ⟨z, e⟩ := i.cl; ⟨z, setM (by decide) e⟩), (let ⟨z, e⟩ := i.xo; ⟨z, setM (by decide) e⟩), (let ⟨z, e⟩ := i.yo; ⟨z, setM (by decide) e⟩), ⟨t, if_pos rfl⟩, setM (by decide) i.un⟩
theorem InfM.setXo {m : Str → Option Value} {r : Rec} (i : InfM m r) (k : Int) (t : Tok) : InfM (fun y => if y = Str.ofString "x_offset" then some (.int k t) else m y) { r with xo := k } :=
  ⟨(let ⟨z, e⟩ := i.gl; ⟨z, setM (by decide) e⟩), (let ⟨z, e⟩ := i.ki; ⟨z, setM (by decide) e⟩), (let ⟨z, e⟩ := i.cl; ⟨z, setM (by decide) e⟩), ⟨t, if_pos rfl⟩, (let ⟨z, e⟩ := i.yo; ⟨z, setM (by decide) e⟩), (let ⟨z, e⟩ := i.xa; ⟨z, setM (by decide) e⟩), setM (by decide) i.un⟩
theorem InfM.setYo {m : Str → Option Value} {r : Rec} (i : InfM m r) (k : Int) (t : Tok) : InfM (fun y => if y = Str.ofString "y_offset" then some (.int k t) else m y) { r with yo := k } :=
  ⟨(let ⟨z, e⟩ := i.gl; ⟨z, setM (by decide) e⟩), (let ⟨z, e⟩ := i.ki; ⟨z, setM (by decide) e⟩), (let ⟨z, e⟩ := i.cl; ⟨z, setM (by decide) e⟩), (let ⟨z, e⟩ := i.xo; ⟨z, setM (by decide) e⟩), ⟨t, if_pos rfl⟩, (let ⟨z, e⟩ := i.xa; ⟨z, setM (by decide) e⟩), setM (by decide) i.un⟩
theorem InfM.setUn {m : Str → Option Value} {r : Rec} (i : InfM m r) (b : Bool) : InfM (fun y => if y = Str.ofString "is_unsafe" then some (.bool b) else m y) { r with un := b } :=
  ⟨(let ⟨z, e⟩ := i.gl; ⟨z, setM (by decide) e⟩), (let ⟨z, e⟩ := i.ki; ⟨z, setM (by decide) e⟩), (let ⟨z, e⟩ := i.cl; ⟨z, setM (by decide) e⟩), (let ⟨z, e⟩ := i.xo; ⟨z, setM (by decide) e⟩), (let ⟨z, e⟩ := i.yo; ⟨z, setM (by decide) e⟩), (let ⟨z, e⟩ := i.xa; ⟨z, setM (by decide) e⟩), if_pos rfl⟩
def Inf (W : Wd KF) (g : Gh) (x d : Addr) (r : Rec) : Prop := W.B.get? d = none ∧ ∃ k m, k ≤ 20 ∧ Ins g 52 x d k m ∧ InfM m r
theorem Inf.sub {W : Wd KF} {g g' : Gh} {x d : Addr} {r : Rec} (i : Inf W g x d r) (h : Sub g g') : Inf W g' x d r := let ⟨a, k, m, b, c, e⟩ := i; ⟨a, k, m, b, c.sub h, e⟩
theorem ne_dict {g : Gh} {C x d d' : Addr} {k k' : Nat} {m m' : Str → Option Value} {C' x' : Addr} (i : Ins g C x d k m) (j : Ins g C' x' d' k' m') : x ≠ d' := fun q => by
  obtain ⟨o, ho, es, c, rfl, _⟩ := j.2
  have := i.1
  rw [q, ho] at this
  cases this
theorem Ins.other {g : Gh} {C x d d' : Addr} {k : Nat} {m : Str → Option Value} {o : Obj} (i : Ins g C x d k m) (h : d ≠ d') (hx : x ≠ d') : Ins (up g d' o) C x d k m :=
  ⟨(up_ne hx).trans i.1, let ⟨p, e, r⟩ := i.2; ⟨p, (up_ne h).trans e, r⟩⟩
theorem Inf.step {W : Wd KF} {g : Gh} {x d : Addr} {k : Nat} {m m' : Str → Option Value} {o : Obj} {r : Rec} (hB : W.B.get? d = none) (hk : k ≤ 20) (i : Ins g 52 x d k m) (ho : DSo k m' o) (hm : InfM m' r) : Inf W (up g d o) x d r :=
  ⟨hB, k, m', hk, ⟨(up_ne (ne_dict i i)).trans i.1, o, up_same, ho⟩, hm⟩

theorem info_init {W : Wd KF} {n : Nat} {L : Addr} {l : Lm} {g : Gh} {x d : Addr} {a b c : Int} {t u w : Tok} {Q : Value → Gh → Prop} (hx : g x = some (instObj 52 d)) (gd : g d = none) (hB : W.B.get? d = none)
    (h : ∀ o m, DSo 15 m o → InfM m ⟨b, Str.ofString "", c, 0, 0, 0, false⟩ → Q .none (up g d o)) : RC W (n+1) L l (up g d (dictOf [] 0)) (.call (.ref 35) ⟨[.ref x, .int a t, .int b u, .int c w], []⟩) Q := by
  have h0 := DSo.nil
  have hxd : x ≠ d := fun q => by rw [q, gd] at hx; cases hx
  refine RC_def (binds := [(Str.ofString "self", .ref x), (Str.ofString "code", .int a t), (Str.ofString "glyph", .int b u), (Str.ofString "cluster", .int c w)]) (by k_is) (by k_is) (fun _ _ => BindsTo.of_eq rfl) rfl rfl rfl rfl rfl fun L' => ?_
  repeat walk_at "s"
  exact h _ _ (by assumption) ⟨⟨_, rfl⟩, ⟨_, rfl⟩, ⟨_, rfl⟩, ⟨_, rfl⟩, ⟨_, rfl⟩, ⟨_, rfl⟩, rfl⟩

structure Cel where
  glyph : Int
  kind : Str
  cluster : Int
def Cel.toRec (c : Cel) : Rec := ⟨c.glyph, c.kind, c.cluster, 0, 0, 100 * c.glyph, false⟩
structure Infos (W : Wd KF) (g : Gh) (a : Addr) (ads : List (Addr × Addr)) (rs : List Rec) : Prop where
  list : LI g a (ads.map fun q => .ref q.1)
  len : ads.length = rs.length
  at_ : ∀ (i : Nat) (x d : Addr), ads[i]? = some (x, d) → ∃ r, rs[i]? = some r ∧ Inf W g x d r
  nodup : (ads.map (·.2)).Nodup
structure RowT (g : Gh) (a : Addr) (ts : List Addr) (cs : List Cel) : Prop where
  list : LI g a (ts.map .ref)
  len : ts.length = cs.length
  at_ : ∀ (i : Nat) (t : Addr), ts[i]? = some t → ∃ c, cs[i]? = some c ∧ ∃ u w z, TU g t [.int c.glyph u, .str c.kind w, .int c.cluster z]
theorem RowT.sub {g g' : Gh} {a : Addr} {ts : List Addr} {cs : List Cel} (r : RowT g a ts cs) (h : Sub g g') : RowT g' a ts cs :=
  ⟨r.list.sub h, r.len, fun i t e => let ⟨c, hc, u, w, z, k⟩ := r.at_ i t e; ⟨c, hc, u, w, z, k.sub h⟩⟩
theorem Infos.sub {W : Wd KF} {g g' : Gh} {a : Addr} {ads : List (Addr × Addr)} {rs : List Rec} (r : Infos W g a ads rs) (h : Sub g g') : Infos W g' a ads rs :=
  ⟨r.list.sub h, r.len, fun i x d e => let ⟨r', hr, k⟩ := r.at_ i x d e; ⟨r', hr, k.sub h⟩, r.nodup⟩

theorem new_info {W : Wd KF} {n : Nat} {env : Env} {l : Lm} {g : Gh} {a b c : Int} {t u w : Tok} {Q : Value → Gh → Lm → Prop}
    (h : ∀ x d o m, g x = none → up g x (instObj 52 d) d = none → W.B.get? x = none → W.B.get? d = none → DSo 15 m o → InfM m ⟨b, Str.ofString "", c, 0, 0, 0, false⟩ → Q (.ref x) (up (up g x (instObj 52 d)) d o) l) :
    R W (n + 2) env g l (call (.ref 52) [.int a t, .int b u, .int c w]) Q :=
  R_make cls_m52 cls_i52 cls_f52 fun x d gx gd Bx Bd => info_init (g := up g x (instObj 52 d)) up_same gd Bd fun o m ho hm => ⟨rfl, h x d o m gx gd Bx Bd ho hm⟩

theorem law_infos {W : Wd KF} {n : Nat} {L : Addr} {l : Lm} {g : Gh} {row : Addr} {ts : List Addr} {cs : List Cel} {Q : Value → Gh → Prop} (hr : RowT g row ts cs) (hlen : cs.length ≤ 100)
    (h : ∀ g' a ads, Sub g g' → Infos W g' a ads (cs.map Cel.toRec) → (∀ q ∈ ads, g q.2 = none) → Q (.ref a) g') : RC W (n+4) L l g (.call (.ref 543) ⟨[.ref row], []⟩) Q := by
  refine RC_def (binds := [(Str.ofString "row", .ref row)]) (by k_is) (by k_is) (fun _ _ => BindsTo.of_eq rfl) rfl rfl rfl rfl rfl fun L' => ?_
  repeat walk_at "s"
  rename_i f gf Bf
  refine R_for (fun _ => rfl) ?_
  repeat walk_at "s"
  refine ⟨_, _, _, Src.list ((hr.list).sub (Sub.refl.up gf)), fun b hb => ?_, fun i g' l' => LK [(Str.ofString "row", .ref row), (Str.ofString "found", .ref f)] l' ∧ Sub g g' ∧ ∃ ads, Infos W g' f ads ((cs.take i).map Cel.toRec) ∧ ∀ q ∈ ads, g q.2 = none, ?_, ?_, ?_, ?_⟩
  · subst hb
    obtain ⟨k, e⟩ := hr.list
    exact ⟨_, up_old gf e⟩
  · exact ⟨.cons rfl (.cons rfl .nil), Sub.refl.up gf, [], ⟨⟨_, up_same⟩, rfl, fun i x d e => by simp at e, List.nodup_nil⟩, fun q hq => by cases hq⟩
  · rintro i g' l' ⟨_, hs, _⟩ b o hb e
    subst hb
    obtain ⟨k, e'⟩ := hr.list
    rw [up_old gf e'] at e
    rw [← e]; exact hs _ _ e'
  · rintro i v g' l' hi hv ⟨hk, hs, ads, hin, hfr⟩
    refine R_known hk ?_
    rw [List.getElem?_map] at hv
    cases ht : ts[i]? with
    | none => rw [ht] at hv; cases hv
    | some t =>
      rw [ht] at hv
      cases hv
      obtain ⟨c, hc, u, w, z, htu⟩ := hr.at_ i t ht
      have htu := htu.sub hs
      have hlen' : ads.length = i := by
        rw [hin.len, List.length_map, List.length_take]
        have := (List.getElem?_eq_some_iff.mp hc).1
        omega
      have hbits : IntMulOk 100 c.glyph := .of_left (by decide)
      repeat walk_at "s"
      refine new_info fun x d o m gx gd Bx Bd ho hm => ?_
      have hsub : Sub g' (up (up g' x (instObj 52 d)) d o) := (Sub.refl.up gx).up gd
      have hxd : x ≠ d := fun q => by rw [q, up_same] at gd; cases gd
      have gd' : g' d = none := by rwa [up_ne (Ne.symm hxd)] at gd
      repeat walk_at "s"
      refine R_setOld ho (by walk_at "get") up_same Bd (by decide) cls_s52 cls_p52 (by k_is) cls_h52 (by obtain ⟨_, e⟩ := hm.ki; rw [e]; rfl) fun o₂ ho₂ => ?_
      have hm₂ := hm.setK c.kind w
      rw [up_up]
      repeat walk_at "s"
      refine R_mul hbits fun _ => ?_
      repeat walk_at "s"
      refine R_setOld ho₂ (by walk_at "get") up_same Bd (by decide) cls_s52 cls_p52 (by k_is) cls_h52 (by obtain ⟨_, e⟩ := hm₂.xa; rw [e]; rfl) fun o₃ ho₃ => ?_
      rename_i tm
      have hm₃ := hm₂.setXa (100 * c.glyph) tm
      rw [up_up]
      have hsub₃ : Sub g' (up (up g' x (instObj 52 d)) d o₃) := (Sub.refl.up gx).up gd
      have hin₃ := hin.sub hsub₃
      have hl₃ := hin₃.list
      have hz₃ : (ads.map fun q => Value.ref q.1).length ≤ 1000000 := by
        have := (List.getElem?_eq_some_iff.mp hc).1
        rw [List.length_map]; omega
      repeat walk_at "s"
      rename_i k
      have hf3 : ∀ {b p}, up (up g' x (instObj 52 d)) d o₃ b = some p → b ≠ f → up (up (up g' x (instObj 52 d)) d o₃) f (lstO ((ads.map fun q => Value.ref q.1) ++ [.ref x]) k) b = some p := fun e q => by rw [up_ne q]; exact e
      have fB : ∀ {y e r}, Inf W (up (up g' x (instObj 52 d)) d o₃) y e r → Inf W (up (up (up g' x (instObj 52 d)) d o₃) f (lstO ((ads.map fun q => Value.ref q.1) ++ [.ref x]) k)) y e r := fun {y e r} j => by
        obtain ⟨a, k', m', b, ⟨c1, p, c2, c3⟩, c4⟩ := j
        obtain ⟨kf, ef⟩ := hl₃
        refine ⟨a, k', m', b, ⟨hf3 c1 (ne_obj c1 ef lst_ne_inst.symm), p, hf3 c2 (ne_obj c2 ef ?_), c3⟩, c4⟩
        obtain ⟨es, cc, rfl, _⟩ := c3
        exact lst_ne_dict.symm
      refine ⟨.cons rfl (.cons rfl .nil), ?_, ads ++ [(x, d)], ⟨⟨k, ?_⟩, ?_, ?_, ?_⟩, ?_⟩
      · intro b p e
        exact hf3 (hsub₃ _ _ (hs b p e)) (ne_get e gf)
      · rw [List.map_append]; exact up_same
      · rw [List.length_append, List.length_map, List.length_take, hlen']
        have := (List.getElem?_eq_some_iff.mp hc).1
        simp; omega
      · intro j y e hj
        rcases Nat.lt_or_ge j ads.length with hlt | hge
        · rw [List.getElem?_append_left hlt] at hj
          obtain ⟨r, hr', hi'⟩ := hin₃.at_ j y e hj
          refine ⟨r, ?_, fB hi'⟩
          rw [List.getElem?_map] at hr' ⊢
          rw [List.getElem?_take] at hr' ⊢
          rw [if_pos (by omega)] at hr' ⊢
          exact hr'
        · rw [List.getElem?_append_right hge] at hj
          have h0 : j - ads.length = 0 := by
            rcases Nat.eq_zero_or_pos (j - ads.length) with h | h
            · exact h
            · rw [List.getElem?_eq_none (by simp; omega)] at hj; cases hj
          rw [h0] at hj
          simp at hj
          obtain ⟨rfl, rfl⟩ := hj
          have hji : j = i := by omega
          subst hji
          refine ⟨c.toRec, ?_, fB ⟨Bd, 15, _, by decide, ⟨?_, _, up_same, ho₃⟩, hm₃⟩⟩
          · rw [List.getElem?_map, List.getElem?_take, if_pos (by omega), hc]; rfl
          · rw [up_ne hxd]; exact up_same
      · rw [List.map_append, List.nodup_append]
        refine ⟨hin.nodup, by simp, ?_⟩
        intro e he e' he' q
        simp at he'
        obtain ⟨p, hp, rfl⟩ := List.mem_map.mp he
        obtain ⟨j, hj⟩ := List.mem_iff_getElem?.mp hp
        obtain ⟨r, _, _, _, _, _, ⟨_, o', ho', _⟩, _⟩ := hin.at_ j p.1 p.2 hj
        rw [q, he', gd'] at ho'
        cases ho'
      · intro q hq
        rcases List.mem_append.mp hq with hq | hq
        · exact hfr q hq
        · simp at hq
          subst hq
          exact hs.none gd'
  · rintro g' l' ⟨hk, hs, ads, hin, hfr⟩
    refine R_known hk ?_
    repeat walk_at "s"
    rw [List.take_of_length_le (by rw [List.length_map, hr.len]; exact Nat.le_refl _)] at hin
    exact h g' f ads hs hin hfr

def RowAt (g : Gh) (a : Addr) (r : Rec) : Prop := ∃ o t u w t1 t2 t3, LI g a [.int r.glyph t, .str r.kind u, .int r.cluster w, .ref o, .bool r.un] ∧ LI g o [.int r.xo t1, .int r.yo t2, .int r.xa t3]
theorem RowAt.sub {g g' : Gh} {a : Addr} {r : Rec} (x : RowAt g a r) (h : Sub g g') : RowAt g' a r := let ⟨o, t, u, w, t1, t2, t3, p, q⟩ := x; ⟨o, t, u, w, t1, t2, t3, p.sub h, q.sub h⟩
structure Line (W : Wd KF) (g : Gh) (ln : Addr) (as : List Addr) (rs : List Rec) : Prop where
  list : LI g ln (as.map .ref)
  len : as.length = rs.length
  at_ : ∀ (i : Nat) (a : Addr), as[i]? = some a → ∃ r, rs[i]? = some r ∧ RowAt g a r
  nodup : as.Nodup
  base : ∀ a ∈ as, W.B.get? a = none

theorem law_shown {W : Wd KF} {n : Nat} {L : Addr} {l : Lm} {g : Gh} {a : Addr} {ads : List (Addr × Addr)} {rs : List Rec} {Q : Value → Gh → Prop} (hr : Infos W g a ads rs) (hlen : rs.length ≤ 100)
    (h : ∀ g' ln as, Sub g g' → Line W g' ln as rs → (∀ q ∈ as, g q = none) → Q (.ref ln) g') : RC W (n+4) L l g (.call (.ref 536) ⟨[.ref a], []⟩) Q := by
  refine RC_def (binds := [(Str.ofString "infos", .ref a)]) (by k_is) (by k_is) (fun _ _ => BindsTo.of_eq rfl) rfl rfl rfl rfl rfl fun L' => ?_
  repeat walk_at "s"
  refine R_comp (cl := []) (fun _ => rfl) rfl rfl rfl rfl rfl ?_
  repeat walk_at "s"
  refine ⟨_, _, _, fun i ys g' => Sub g g' ∧ ∃ as : List Addr, ys = as.map .ref ∧ as.length = i ∧ (∀ (j : Nat) (a : Addr), as[j]? = some a → ∃ r, rs[j]? = some r ∧ RowAt g' a r) ∧ as.Nodup ∧ ∀ a ∈ as, W.B.get? a = none ∧ g a = none, Src.list hr.list, ⟨?_, ?_, ?_, ?_, ?_, ?_⟩, ?_⟩
  · exact ⟨Sub.refl, [], rfl, rfl, fun j a e => by simp at e, List.nodup_nil, fun a h => by cases h⟩
  · rintro b rfl
    obtain ⟨k, e⟩ := hr.list
    exact ⟨_, e⟩
  · rintro i ys g' ⟨hs, _⟩ b o rfl e
    exact hs _ _ e
  · rintro C i v ys g' hi hv ⟨hs, as, rfl, hai, hat, hnd, hB⟩
    rw [List.getElem?_map] at hv
    cases ht : ads[i]? with
    | none => rw [ht] at hv; cases hv
    | some p =>
      rw [ht] at hv
      cases hv
      obtain ⟨x, d⟩ := p
      obtain ⟨r, hrr, _, k, m, _, hin, ⟨⟨t1, e1⟩, ⟨t2, e2⟩, ⟨t3, e3⟩, ⟨t4, e4⟩, ⟨t5, e5⟩, ⟨t6, e6⟩, e7⟩⟩ := hr.at_ i x d ht
      have hin := hin.sub hs
      refine R_tests0 ⟨fun _ => ?_, fun q => by cases q⟩
      repeat walk_at "s"
      rename_i o go Bo
      have hin' : ∀ {p}, Ins (up g' o p) 52 x d k m := fun {p} => hin.sub (Sub.refl.up go)
      have hin'' := hin' (p := lstO [.int r.xo t4, .int r.yo t5, .int r.xa t6] 0)
      repeat walk_at "s"
      rename_i b gb Bb
      have gb' : g' b = none := (Sub.refl.up go).none gb
      have hsub : Sub g' (up (up g' o (lstO [.int r.xo t4, .int r.yo t5, .int r.xa t6] 0)) b (lstO [.int r.glyph t1, .str r.kind t2, .int r.cluster t3, .ref o, .bool r.un] 0)) := (Sub.refl.up go).up gb
      refine ⟨hs.trans hsub, as ++ [b], by simp, by simp [hai], ?_, ?_, ?_⟩
      · intro j c hj
        rcases Nat.lt_or_ge j as.length with hlt | hge
        · rw [List.getElem?_append_left hlt] at hj
          obtain ⟨r', h1, h2⟩ := hat j c hj
          exact ⟨r', h1, h2.sub hsub⟩
        · rw [List.getElem?_append_right hge] at hj
          have h0 : j - as.length = 0 := by
            rcases Nat.eq_zero_or_pos (j - as.length) with h | h
            · exact h
            · rw [List.getElem?_eq_none (by simp; omega)] at hj; cases hj
          rw [h0] at hj
          simp at hj
          subst hj
          have hji : j = i := by omega
          subst hji
          exact ⟨r, hrr, o, t1, t2, t3, t4, t5, t6, ⟨0, up_same⟩, ⟨0, up_old gb up_same⟩⟩
      · rw [List.nodup_append]
        refine ⟨hnd, by simp, ?_⟩
        intro e he e' he' q
        simp at he'
        obtain ⟨j, hj⟩ := List.mem_iff_getElem?.mp he
        obtain ⟨r', _, o', _, _, _, _, _, _, ⟨c', hc'⟩, _⟩ := hat j e hj
        rw [q, he', gb'] at hc'
        cases hc'
      · intro e he
        rcases List.mem_append.mp he with he | he
        · exact hB e he
        · simp at he
          subst he
          exact ⟨Bb, hs.none gb'⟩
  · rw [List.length_map, hr.len, sizeLine_eq]; omega
  · rintro i ys g' ⟨_, as, rfl, hai, _⟩
    rw [List.length_map, hai]; exact Nat.le_refl _
  · rintro D g' ys k gD BD ⟨hs, as, rfl, hai, hat, hnd, hB⟩
    repeat walk_at "s"
    rw [List.length_map, hr.len] at hai
    exact h _ D as (hs.up gD) ⟨⟨_, up_same⟩, hai, fun i a e => let ⟨r, h1, h2⟩ := hat i a e; ⟨r, h1, h2.sub (Sub.refl.up gD)⟩, hnd, fun a ha => (hB a ha).1⟩ fun a ha => (hB a ha).2

theorem lookup_init {W : Wd KF} {n : Nat} {L : Addr} {l : Lm} {g : Gh} {x d : Addr} {a b c e : Value} {Q : Value → Gh → Prop} (hx : g x = some (instObj 129 d)) (gd : g d = none) (hB : W.B.get? d = none)
    (h : ∀ o m, DSo 4 m o → m (Str.ofString "flag") = some b → Q .none (up g d o)) : RC W (n+1) L l (up g d (dictOf [] 0)) (.call (.ref 121) ⟨[.ref x, a, b, c, e], []⟩) Q := by
  have h0 := DSo.nil
  have hxd : x ≠ d := fun q => by rw [q, gd] at hx; cases hx
  refine RC_def (binds := [(Str.ofString "self", .ref x), (Str.ofString "kind", a), (Str.ofString "flag", b), (Str.ofString "mark_set", c), (Str.ofString "tables", e)]) (by k_is) (by k_is) (fun _ _ => BindsTo.of_eq rfl) rfl rfl rfl rfl rfl fun L' => ?_
  repeat walk_at "s"
  exact h _ _ (by assumption) rfl
theorem buffer_init {W : Wd KF} {n : Nat} {L : Addr} {l : Lm} {g : Gh} {x d : Addr} {a b : Value} {Q : Value → Gh → Prop} (hx : g x = some (instObj 98 d)) (gd : g d = none) (hB : W.B.get? d = none)
    (h : ∀ o m, DSo 3 m o → m (Str.ofString "row") = some a → m (Str.ofString "is_backward") = some b → Q .none (up g d o)) : RC W (n+1) L l (up g d (dictOf [] 0)) (.call (.ref 71) ⟨[.ref x, a, b], []⟩) Q := by
  have h0 := DSo.nil
  have hxd : x ≠ d := fun q => by rw [q, gd] at hx; cases hx
  refine RC_def (binds := [(Str.ofString "self", .ref x), (Str.ofString "infos", a), (Str.ofString "is_backward", b)]) (by k_is) (by k_is) (fun _ X => binds_K X rfl (by k_is) rfl rfl rfl) rfl rfl rfl rfl rfl fun L' => ?_
  repeat walk_at "s"
  exact h _ _ (by assumption) rfl rfl
theorem classdef_init {W : Wd KF} {n : Nat} {L : Addr} {l : Lm} {g : Gh} {x d : Addr} {a : Value} {Q : Value → Gh → Prop} (hx : g x = some (instObj 375 d)) (gd : g d = none) (hB : W.B.get? d = none)
    (h : ∀ o m, DSo 1 m o → m (Str.ofString "classes") = some a → m (Str.ofString "class_of") = none → Q .none (up g d o)) : RC W (n+1) L l (up g d (dictOf [] 0)) (.call (.ref 346) ⟨[.ref x, a], []⟩) Q := by
  have h0 := DSo.nil
  have hxd : x ≠ d := fun q => by rw [q, gd] at hx; cases hx
  refine RC_def (binds := [(Str.ofString "self", .ref x), (Str.ofString "classes", a)]) (by k_is) (by k_is) (fun _ _ => BindsTo.of_eq rfl) rfl rfl rfl rfl rfl fun L' => ?_
  repeat walk_at "s"
  exact h _ _ (by assumption) rfl rfl
theorem scene_init {W : Wd KF} {n : Nat} {L : Addr} {l : Lm} {g : Gh} {x d : Addr} {a b c e f : Value} {Q : Value → Gh → Prop} (hx : g x = some (instObj 151 d)) (gd : g d = none) (hB : W.B.get? d = none)
    (h : ∀ o m, DSo 6 m o → m (Str.ofString "buffer") = some a → m (Str.ofString "gdef") = some b → m (Str.ofString "lookup") = some e → Q .none (up g d o)) : RC W (n+1) L l (up g d (dictOf [] 0)) (.call (.ref 148) ⟨[.ref x, a, b, c, e, f], []⟩) Q := by
  have h0 := DSo.nil
  have hxd : x ≠ d := fun q => by rw [q, gd] at hx; cases hx
  refine RC_def (binds := [(Str.ofString "self", .ref x), (Str.ofString "buffer", a), (Str.ofString "gdef", b), (Str.ofString "lookups", c), (Str.ofString "lookup", e), (Str.ofString "mask", f), (Str.ofString "depth", .int 0 _)]) (by k_is) (by k_is) (fun _ X => binds_K X rfl (by k_is) rfl rfl rfl) rfl rfl rfl rfl rfl fun L' => ?_
  repeat walk_at "s"
  exact h _ _ (by assumption) rfl rfl rfl
theorem gdef_init {W : Wd KF} {n : Nat} {L : Addr} {l : Lm} {g : Gh} {x d : Addr} {a b c : Value} {Q : Value → Gh → Prop} (hx : g x = some (instObj 472 d)) (gd : g d = none) (hB : W.B.get? d = none)
    (h : ∀ g' o m, Sub g g' → g' d = some o → DSo 5 m o → m (Str.ofString "classes") = some a → m (Str.ofString "glyph_class") = none → Q .none g') : RC W (n+1) L l (up g d (dictOf [] 0)) (.call (.ref 443) ⟨[.ref x, a, b, c], []⟩) Q := by
  have h0 := DSo.nil
  have hxd : x ≠ d := fun q => by rw [q, gd] at hx; cases hx
  refine RC_def (binds := [(Str.ofString "self", .ref x), (Str.ofString "classes", a), (Str.ofString "attach", b), (Str.ofString "sets", c), (Str.ofString "points", .none), (Str.ofString "carets", .none)]) (by k_is) (by k_is) (fun _ X => binds_K X rfl (by k_is) rfl rfl rfl) rfl rfl rfl rfl rfl fun L' => ?_
  repeat walk_at "s"
  walk_at "ife"
  repeat walk_at "s"
  refine R_isNone ?_
  repeat walk_at "s"
  refine ⟨fun _ => ?_, fun q => absurd q (by decide)⟩
  repeat walk_at "s"
  rename_i o₃ ho₃ _ e lo ge Be
  have ed : e ≠ d := fun q => by rw [q, up_same] at ge; cases ge
  refine R_setNewG ho₃ (by rw [up_old ge]; rw [up_ne hxd]; exact hx) (by rw [up_ne (Ne.symm ed)]; exact up_same) hB (by decide) cls_s472 cls_p472 (by k_is) cls_h472 rfl fun o₄ ho₄ => ?_
  repeat walk_at "s"
  walk_at "ife"
  repeat walk_at "s"
  refine R_isNone ?_
  repeat walk_at "s"
  refine ⟨fun _ => ?_, fun q => absurd q (by decide)⟩
  repeat walk_at "s"
  rename_i e' lo' ge' Be'
  have ed' : e' ≠ d := fun q => by rw [q, up_same] at ge'; cases ge'
  have hx4 : (up (up (up g d o₃) e emptyD) d o₄) x = some (instObj 472 d) := by
    rw [up_ne hxd]
    exact up_old ge (by rw [up_ne hxd]; exact hx)
  refine R_setNewG ho₄ (up_old ge' hx4) (by rw [up_ne (Ne.symm ed')]; exact up_same) hB (by decide) cls_s472 cls_p472 (by k_is) cls_h472 rfl fun o₅ ho₅ => ?_
  repeat walk_at "s"
  refine h _ o₅ _ ?_ up_same ho₅ rfl rfl
  have s1 : Sub g (up g d o₃) := Sub.refl.up gd
  exact (((s1.up ge).up' gd).up ge').up' gd
theorem made_sub {g : Gh} {x d C : Addr} {o : Obj} {k : Nat} {m : Str → Option Value} (gx : g x = none) (gd : up g x (instObj C d) d = none) (ho : DSo k m o) : Sub g (up (up g x (instObj C d)) d o) ∧ Ins (up (up g x (instObj C d)) d o) C x d k m := by
  have hxd : x ≠ d := fun q => by rw [q, up_same] at gd; cases gd
  exact ⟨(Sub.refl.up gx).up gd, (by rw [up_ne hxd]; exact up_same), o, up_same, ho⟩
section
variable {W : Wd KF} {n : Nat} {env : Env} {l : Lm} {g : Gh} {Q : Value → Gh → Lm → Prop}
theorem new_lookup {a b c e : Value} (h : ∀ g' x d m, Sub g g' → Ins g' 129 x d 4 m → m (Str.ofString "flag") = some b → Q (.ref x) g' l) : R W (n + 2) env g l (call (.ref 129) [a, b, c, e]) Q :=
  R_make cls_m129 cls_i129 cls_f129 fun x d gx gd Bx Bd => lookup_init (g := up g x (instObj 129 d)) up_same gd Bd fun o m ho hm => ⟨rfl, h _ x d m (made_sub gx gd ho).1 (made_sub gx gd ho).2 hm⟩
theorem new_buffer {a b : Value} (h : ∀ g' x d m, Sub g g' → Ins g' 98 x d 3 m → m (Str.ofString "row") = some a → m (Str.ofString "is_backward") = some b → Q (.ref x) g' l) : R W (n + 2) env g l (call (.ref 98) [a, b]) Q :=
  R_make cls_m98 cls_i98 cls_f98 fun x d gx gd Bx Bd => buffer_init (g := up g x (instObj 98 d)) up_same gd Bd fun o m ho h1 h2 => ⟨rfl, h _ x d m (made_sub gx gd ho).1 (made_sub gx gd ho).2 h1 h2⟩
theorem new_classdef {a : Value} (h : ∀ g' x d m, Sub g g' → Ins g' 375 x d 1 m → m (Str.ofString "classes") = some a → m (Str.ofString "class_of") = none → Q (.ref x) g' l) : R W (n + 2) env g l (call (.ref 375) [a]) Q :=
  R_make cls_m375 cls_i375 cls_f375 fun x d gx gd Bx Bd => classdef_init (g := up g x (instObj 375 d)) up_same gd Bd fun o m ho h1 h2 => ⟨rfl, h _ x d m (made_sub gx gd ho).1 (made_sub gx gd ho).2 h1 h2⟩
theorem new_scene {a b c e f : Value} (h : ∀ g' x d m, Sub g g' → Ins g' 151 x d 6 m → m (Str.ofString "buffer") = some a → m (Str.ofString "gdef") = some b → m (Str.ofString "lookup") = some e → Q (.ref x) g' l) : R W (n + 2) env g l (call (.ref 151) [a, b, c, e, f]) Q :=
  R_make cls_m151 cls_i151 cls_f151 fun x d gx gd Bx Bd => scene_init (g := up g x (instObj 151 d)) up_same gd Bd fun o m ho h1 h2 h3 => ⟨rfl, h _ x d m (made_sub gx gd ho).1 (made_sub gx gd ho).2 h1 h2 h3⟩
theorem new_gdef {a b c : Value} (h : ∀ g' x d m, Sub g g' → Ins g' 472 x d 5 m → m (Str.ofString "classes") = some a → m (Str.ofString "glyph_class") = none → Q (.ref x) g' l) : R W (n + 2) env g l (call (.ref 472) [a, b, c]) Q :=
  R_make cls_m472 cls_i472 cls_f472 fun x d gx gd Bx Bd => gdef_init (g := up g x (instObj 472 d)) up_same gd Bd fun g' o m hs ho hd h1 h2 => ⟨rfl, h g' x d m ((Sub.refl.up gx).trans hs) ⟨hs _ _ up_same, o, ho, hd⟩ h1 h2⟩
end

inductive ScnX (W : Wd KF) (g : Gh) (sc infos bf gd lk : Addr) (bw pas : Bool) : Prop
  | mk (cd dd d1 : Addr) (k1 : Nat) (m1 : Str → Option Value) (d2 : Addr) (k2 : Nat) (m2 : Str → Option Value) (d3 : Addr) (k3 : Nat) (m3 : Str → Option Value) (d4 : Addr) (k4 : Nat) (m4 : Str → Option Value) (d5 : Addr) (k5 : Nat) (m5 : Str → Option Value) (t u : Tok)
    (i1 : Ins g 151 sc d1 k1 m1) (a1 : m1 (Str.ofString "buffer") = some (.ref bf)) (a2 : m1 (Str.ofString "gdef") = some (.ref gd)) (a3 : m1 (Str.ofString "lookup") = some (.ref lk))
    (i2 : Ins g 98 bf d2 k2 m2) (b1 : m2 (Str.ofString "row") = some (.ref infos)) (b2 : m2 (Str.ofString "is_backward") = some (.bool bw))
    (i3 : Ins g 472 gd d3 k3 m3) (c1 : m3 (Str.ofString "classes") = some (.ref cd)) (c2 : m3 (Str.ofString "glyph_class") = none)
    (i4 : Ins g 375 cd d4 k4 m4) (e1 : m4 (Str.ofString "classes") = some (.ref dd)) (e2 : m4 (Str.ofString "class_of") = none) (e3 : DI W g dd [(5, .int 3 t)]) (e4 : (dd == sysModules) = false)
    (i5 : Ins g 129 lk d5 k5 m5) (f1 : m5 (Str.ofString "flag") = some (.int (if pas then 8 else 0) u)) : ScnX W g sc infos bf gd lk bw pas
structure Scn (W : Wd KF) (g : Gh) (sc infos : Addr) (bw pas : Bool) : Prop where
  h : ∃ bf gd lk, ScnX W g sc infos bf gd lk bw pas

theorem law_scene {W : Wd KF} {n : Nat} {L : Addr} {l : Lm} {g : Gh} {a tb : Addr} {bw pas : Bool} {Q : Value → Gh → Prop}
    (h : ∀ g' sc, Sub g g' → Scn W g' sc a bw pas → Q (.ref sc) g') : RC W (n+4) L l g (.call (.ref 550) ⟨[.ref a, .bool bw, .ref tb, .bool pas], []⟩) Q := by
  refine RC_def (binds := [(Str.ofString "infos", .ref a), (Str.ofString "is_backward", .bool bw), (Str.ofString "table", .ref tb), (Str.ofString "is_passing", .bool pas)]) (by k_is) (by k_is) (fun _ _ => BindsTo.of_eq rfl) rfl rfl rfl rfl rfl fun L' => ?_
  repeat walk_at "s"
  refine R_mono (Q := fun v g' l' => g' = g ∧ l' = [(Str.ofString "infos", Value.ref a), (Str.ofString "is_backward", Value.bool bw), (Str.ofString "table", Value.ref tb), (Str.ofString "is_passing", Value.bool pas)].reverse ∧ ∃ t, v = .int (if pas then 8 else 0) t) ?_ ?_
  · walk_at "ife"
    repeat walk_at "s"
    refine ⟨fun q => ?_, fun q => ?_⟩
    all_goals
      subst q
      repeat walk_at "s"
      exact ⟨rfl, rfl, _, rfl⟩
  · rintro _ _ _ ⟨rfl, rfl, u, rfl⟩
    repeat walk_at "s"
    rename_i y gy By
    refine new_lookup fun g1 lk d5 m5 s1 i5 f1 => ?_
    have s1' := (Sub.refl.up gy).trans s1
    repeat walk_at "s"
    refine new_buffer fun g2 bf d2 m2 s2 i2 b1 b2 => ?_
    repeat walk_at "s"
    refine R_dictDisp rfl rfl (by intro h; cases h) (by decide) fun dd e4 gdd Bdd => ?_
    refine R_pairsCons ?_
    repeat walk_at "s"
    refine R_pairsNil ?_
    refine R_storeCons ?_
    refine R_dsetI up_same DIo.nil Bdd (by decide) fun o3 ho3 => ?_
    refine R_storeNil ?_
    rw [up_up]
    repeat walk_at "s"
    have s3 : Sub g2 (up g2 dd o3) := Sub.refl.up gdd
    refine new_classdef fun g4 cd d4 m4 s4 i4 e1 e2 => ?_
    have hdd : DI W g4 dd _ := DI.sub ⟨o3, up_same, ho3⟩ s4
    repeat walk_at "s"
    rename_i d0 lo0 g0 B0
    refine new_classdef fun g5 cd' d4' m4' s5 i4' e1' e2' => ?_
    have s5' := (Sub.refl.up g0).trans s5
    repeat walk_at "s"
    rename_i z gz Bz
    refine new_gdef fun g6 gd d3 m3 s6 i3 c1 c2 => ?_
    have s6' := (Sub.refl.up gz).trans s6
    repeat walk_at "s"
    rename_i y' gy' By' _
    refine new_scene fun g7 sc d1 m1 s7 i1 a1 a2 a3 => ?_
    have s7' := (Sub.refl.up gy').trans s7
    repeat walk_at "s"
    have k6 : Sub g6 g7 := s7'
    have k5 : Sub g5 g7 := s6'.trans k6
    have k4 : Sub g4 g7 := s5'.trans k5
    have k2 : Sub g2 g7 := (s3.trans s4).trans k4
    have k1 : Sub g1 g7 := s2.trans k2
    exact h g7 sc (s1'.trans k1) ⟨bf, gd, lk, cd, dd, d1, _, m1, d2, _, m2, d3, _, m3, d4, _, m4, d5, _, m5, _, u, i1, a1, a2, a3, i2.sub k2, b1, b2, i3.sub k6, c1, c2, i4.sub k4, e1, e2, hdd.sub k4, e4, i5.sub k1, f1⟩

theorem class_of {W : Wd KF} {n : Nat} {L : Addr} {l : Lm} {g : Gh} {x d dd : Addr} {k : Nat} {m : Str → Option Value} {kvs : List (Int × Value)} {y : Int} {u : Tok} {Q : Value → Gh → Prop} (hx : Ins g 375 x d k m) (hm : m (Str.ofString "classes") = some (.ref dd)) (hd : DI W g dd kvs) (lo : (dd == sysModules) = false)
    (h : ∀ t, Q ((valueAt kvs y).getD (.int 0 t)) g) : RC W (n+1) L l g (.call (.ref 353) ⟨[.ref x, .int y u], []⟩) Q := by
  refine RC_def (binds := [(Str.ofString "self", .ref x), (Str.ofString "glyph", .int y u)]) (by k_is) (by k_is) (fun _ _ => BindsTo.of_eq rfl) rfl rfl rfl rfl rfl fun L' => ?_
  repeat walk_at "s"
  refine R_getGetI hd ?_
  repeat walk_at "s"
  refine R_getI2 hd lo ?_
  repeat walk_at "s"
  exact h _

theorem glyph_class {W : Wd KF} {n : Nat} {L : Addr} {l : Lm} {g : Gh} {x d cd cdd dd : Addr} {k k' : Nat} {m m' : Str → Option Value} {t : Tok} {y : Int} {u : Tok} {Q : Value → Gh → Prop} (hx : Ins g 472 x d k m) (hm : m (Str.ofString "classes") = some (.ref cd))
    (hc : Ins g 375 cd cdd k' m') (hm' : m' (Str.ofString "classes") = some (.ref dd)) (hmm : m' (Str.ofString "class_of") = none) (hd : DI W g dd [(5, .int 3 t)]) (lo : (dd == sysModules) = false)
    (h : ∀ t, Q (.int (if y = 5 then 3 else 0) t) g) : RC W (n+2) L l g (.call (.ref 450) ⟨[.ref x, .int y u], []⟩) Q := by
  refine RC_def (binds := [(Str.ofString "self", .ref x), (Str.ofString "glyph", .int y u)]) (by k_is) (by k_is) (fun _ _ => BindsTo.of_eq rfl) rfl rfl rfl rfl rfl fun L' => ?_
  repeat walk_at "s"
  refine R_ofRC (class_of hc hm' hd lo fun t' => ?_)
  have e : ∃ z, (valueAt [((5 : Int), Value.int 3 t)] y).getD (.int 0 t') = .int (if y = 5 then 3 else 0) z := by
    by_cases q : y = 5
    · subst q; exact ⟨t, rfl⟩
    · rw [if_neg q]
      refine ⟨t', ?_⟩
      have q' : ¬ (5 = y) := fun e => q e.symm
      simp [valueAt, q']
  obtain ⟨z, e⟩ := e
  rw [e]
  repeat walk_at "s"
  walk_at "ife"
  repeat walk_at "s"
  by_cases q : y = 5
  · simp only [if_pos q] at h ⊢
    refine ⟨fun _ => ?_, fun q => absurd q (by decide)⟩
    repeat walk_at "s"
    refine ⟨fun _ => ?_, fun q => absurd q (by decide)⟩
    repeat walk_at "s"
    exact h _
  · simp only [if_neg q] at h ⊢
    refine ⟨fun q => absurd q (by decide), fun _ => ⟨fun q => absurd q (by decide), fun _ => ?_⟩⟩
    repeat walk_at "s"
    exact h _

theorem class_bit {W : Wd KF} {n : Nat} {L : Addr} {l : Lm} {g : Gh} {y : Int} {u : Tok} {Q : Value → Gh → Prop} (hy : y = 3 ∨ y = 0)
    (h : ∀ g' t, Sub g g' → Q (.int (if y = 3 then 8 else 0) t) g') : RC W (n+1) L l g (.call (.ref 169) ⟨[.int y u], []⟩) Q := by
  refine RC_def (binds := [(Str.ofString "number", .int y u)]) (by k_is) (by k_is) (fun _ _ => BindsTo.of_eq rfl) rfl rfl rfl rfl rfl fun L' => ?_
  repeat walk_at "s"
  refine R_dictDisp rfl rfl (by intro h; cases h) (by decide) fun dd lo gdd Bdd => ?_
  refine R_pairsCons ?_
  repeat walk_at "s"
  refine R_pairsCons ?_
  repeat walk_at "s"
  refine R_pairsCons ?_
  repeat walk_at "s"
  refine R_pairsNil ?_
  refine R_storeCons ?_
  refine R_dsetI up_same DIo.nil Bdd (by decide) fun o1 ho1 => ?_
  rw [up_up]
  refine R_storeCons ?_
  refine R_dsetI up_same ho1 Bdd (by decide) fun o2 ho2 => ?_
  rw [up_up]
  refine R_storeCons ?_
  refine R_dsetI up_same ho2 Bdd (by decide) fun o3 ho3 => ?_
  rw [up_up]
  refine R_storeNil ?_
  refine R_getGetI ⟨o3, up_same, ho3⟩ ?_
  repeat walk_at "s"
  refine R_getI2 ⟨o3, up_same, ho3⟩ lo ?_
  repeat walk_at "s"
  rcases hy with rfl | rfl
  · exact h _ _ (Sub.refl.up gdd)
  · exact h _ _ (Sub.refl.up gdd)

structure ScnP (W : Wd KF) (g : Gh) (sc infos bf gd lk : Addr) (bw pas : Bool) : Prop where
  h : ScnX W g sc infos bf gd lk bw pas
theorem attach_wanted {W : Wd KF} {n : Nat} {L : Addr} {l : Lm} {g : Gh} {pas : Bool} {u : Tok} {Q : Value → Gh → Prop}
    (h : ∀ t, Q (.int 0 t) g) : RC W (n+1) L l g (.call (.ref 162) ⟨[.int (if pas then 8 else 0) u], []⟩) Q := by
  refine RC_def (binds := [(Str.ofString "flag", .int (if pas then 8 else 0) u)]) (by k_is) (by k_is) (fun _ _ => BindsTo.of_eq rfl) rfl rfl rfl rfl rfl fun L' => ?_
  have h1 : (256 : Int) ≠ 0 := by decide
  have h2 : (256 : Int).natAbs.log2 < 9000 := by decide
  repeat walk_at "s"
  cases pas
  · exact h _
  · exact h _

theorem is_ignored {W : Wd KF} {n : Nat} {L : Addr} {l : Lm} {g : Gh} {sc infos bf gd lk : Addr} {bw pas : Bool} {y : Int} {u : Tok} {Q : Value → Gh → Prop} (hs : ScnP W g sc infos bf gd lk bw pas)
    (h : ∀ g', Sub g g' → Q (.bool (pas && decide (y = 5))) g') : RC W (n+3) L l g (.call (.ref 176) ⟨[.ref gd, .ref lk, .int y u], []⟩) Q := by
  obtain ⟨cd, dd, d1, k1, m1, d2, k2, m2, d3, k3, m3, d4, k4, m4, d5, k5, m5, t, u', i1, a1, a2, a3, i2, b1, b2, i3, c1, c2, i4, e1, e2, e3, e4, i5, f1⟩ := hs.h
  refine RC_def (binds := [(Str.ofString "gdef", .ref gd), (Str.ofString "lookup", .ref lk), (Str.ofString "glyph", .int y u)]) (by k_is) (by k_is) (fun _ _ => BindsTo.of_eq rfl) rfl rfl rfl rfl rfl fun L' => ?_
  repeat walk_at "s"
  refine R_ofRC (glyph_class i3 c1 i4 e1 e2 e3 e4 fun t' => ?_)
  repeat walk_at "s"
  refine R_ofRC (class_bit (by by_cases q : y = 5 <;> simp [q]) fun g' t'' hq => ?_)
  have i5' := i5.sub hq
  repeat walk_at "s"
  by_cases q : y = 5
  · simp only [if_pos q]
    cases pas
    · refine ⟨fun q => absurd q (by decide), fun _ => ?_⟩
      repeat walk_at "s"
      refine R_neI ?_
      repeat walk_at "s"
      refine ⟨fun q => absurd q (by decide), fun _ => ?_⟩
      repeat walk_at "s"
      refine ⟨fun q => absurd q (by decide), fun _ => ?_⟩
      repeat walk_at "s"
      refine R_ofRC (attach_wanted (pas := false) fun t3 => ?_)
      repeat walk_at "s"
      refine R_and2 ?_
      repeat walk_at "s"
      refine ⟨fun _ => ?_, fun q => absurd q (by decide)⟩
      repeat walk_at "s"
      exact h _ hq
    · refine ⟨fun _ => ?_, fun q => absurd q (by decide)⟩
      repeat walk_at "s"
      have := h _ hq
      rw [q] at this
      exact this
  · simp only [if_neg q]
    refine ⟨fun q => absurd q (by cases pas <;> decide), fun _ => ?_⟩
    repeat walk_at "s"
    refine R_neI ?_
    repeat walk_at "s"
    refine ⟨fun _ => ?_, fun q => absurd q (by decide)⟩
    repeat walk_at "s"
    have := h _ hq
    rw [decide_eq_false q, Bool.and_false] at this
    exact this
theorem Scn.parts {W : Wd KF} {g : Gh} {sc infos : Addr} {bw pas : Bool} (x : Scn W g sc infos bw pas) : ∃ bf gd lk, ScnP W g sc infos bf gd lk bw pas := by
  obtain ⟨bf, gd, lk, r⟩ := x.h
  exact ⟨bf, gd, lk, ⟨r⟩⟩
theorem ScnP.sub {W : Wd KF} {g g' : Gh} {sc a bf gd lk : Addr} {bw pas : Bool} (x : ScnP W g sc a bf gd lk bw pas) (h : Sub g g') : ScnP W g' sc a bf gd lk bw pas := by
  obtain ⟨cd, dd, d1, k1, m1, d2, k2, m2, d3, k3, m3, d4, k4, m4, d5, k5, m5, t, u, i1, a1, a2, a3, i2, b1, b2, i3, c1, c2, i4, e1, e2, e3, e4, i5, f1⟩ := x.h
  exact ⟨cd, dd, d1, k1, m1, d2, k2, m2, d3, k3, m3, d4, k4, m4, d5, k5, m5, t, u, i1.sub h, a1, a2, a3, i2.sub h, b1, b2, i3.sub h, c1, c2, i4.sub h, e1, e2, e3.sub h, e4, i5.sub h, f1⟩

theorem passes {W : Wd KF} {n : Nat} {L : Addr} {l : Lm} {g : Gh} {sc infos bf gd lk : Addr} {ads : List (Addr × Addr)} {rs : List Rec} {r : Rec} {i : Nat} {bw pas : Bool} {u : Tok} {Q : Value → Gh → Prop} (hS : ScnP W g sc infos bf gd lk bw pas) (hI : Infos W g infos ads rs) (hi : rs[i]? = some r) (hz : i ≤ 1000)
    (h : ∀ g', Sub g g' → Q (.bool (pas && decide (r.glyph = 5))) g') : RC W (n+4) L l g (.call (.ref 183) ⟨[.ref sc, .int i u], []⟩) Q := by
  obtain ⟨cd, dd, d1, k1, m1, d2, k2, m2, d3, k3, m3, d4, k4, m4, d5, k5, m5, t, u', i1, a1, a2, a3, i2, b1, b2, i3, c1, c2, i4, e1, e2, e3, e4, i5, f1⟩ := id hS.h
  obtain ⟨x, d, hx⟩ : ∃ x d, ads[i]? = some (x, d) := by
    have : i < ads.length := by rw [hI.len]; exact (List.getElem?_eq_some_iff.mp hi).1
    exact ⟨ads[i].1, ads[i].2, by simp [this]⟩
  obtain ⟨r', hr', _, k, m, _, hin, ⟨⟨t1, z1⟩, _⟩⟩ := hI.at_ i x d hx
  rw [hi] at hr'
  cases hr'
  refine RC_def (binds := [(Str.ofString "scene", .ref sc), (Str.ofString "at", .int i u)]) (by k_is) (by k_is) (fun _ _ => BindsTo.of_eq rfl) rfl rfl rfl rfl rfl fun L' => ?_
  repeat walk_at "s"
  refine R_itemL hI.list (by omega) (by omega) (v := .ref x) (by rw [List.getElem?_map]; simp [hx]) rfl ?_
  repeat walk_at "s"
  refine R_ofRC (is_ignored hS fun g' hq => ?_)
  repeat walk_at "s"
  exact h _ hq

def good (pas : Bool) (r : Rec) : Bool := !(pas && decide (r.glyph = 5)) && decide (r.kind = Str.ofString "")
def KindOk (r : Rec) : Prop := r.kind = Str.ofString "" ∨ r.kind = Str.ofString "zwj" ∨ r.kind = Str.ofString "zwnj" ∨ r.kind = Str.ofString "hidden"
def IsNext (pas : Bool) (rs : List Rec) (k : Nat) : Option Nat → Prop
  | some j => k < j ∧ (∃ r, rs[j]? = some r ∧ good pas r = true) ∧ ∀ (i : Nat) (r : Rec), k < i → i < j → rs[i]? = some r → good pas r = false
  | none => ∀ (i : Nat) (r : Rec), k < i → rs[i]? = some r → good pas r = false
theorem IsNext.uniq {pas : Bool} {rs : List Rec} {k : Nat} {a b : Option Nat} (x : IsNext pas rs k a) (y : IsNext pas rs k b) : a = b := by
  cases a with
  | none => cases b with
    | none => rfl
    | some j => obtain ⟨h1, ⟨r, h2, h3⟩, _⟩ := y; rw [x j r h1 h2] at h3; cases h3
  | some i => cases b with
    | none => obtain ⟨h1, ⟨r, h2, h3⟩, _⟩ := x; rw [y i r h1 h2] at h3; cases h3
    | some j =>
      obtain ⟨h1, ⟨r, h2, h3⟩, h4⟩ := x
      obtain ⟨k1, ⟨r', k2, k3⟩, k4⟩ := y
      rcases Nat.lt_trichotomy i j with h | h | h
      · rw [k4 i r h1 h h2] at h3; cases h3
      · rw [h]
      · rw [h4 j r' k1 h k2] at k3; cases k3
def ixOf : Option Nat → Int
  | some j => j
  | none => -1

theorem base_of {W : Wd KF} {g : Gh} {a : Addr} {o : Obj} (hb : ∀ b o, W.B.get? b = some o → g b = some o) (h : (KF W.w.params).lookup a = some o) : g a = some o := hb _ _ (W.X _ _ h)
theorem kinds_tu {W : Wd KF} {g : Gh} (hb : ∀ b o, W.B.get? b = some o → g b = some o) : ∃ a b c, TU g 184 [.str (Str.ofString "zwj") a, .str (Str.ofString "zwnj") b, .str (Str.ofString "hidden") c] :=
  ⟨_, _, _, _, base_of hb (by k_is)⟩
theorem kinds_any {r : Rec} (h : KindOk r) : (!([Str.ofString "zwj", Str.ofString "zwnj", Str.ofString "hidden"].any (· == r.kind))) = decide (r.kind = Str.ofString "") := by
  rcases h with h | h | h | h <;> rw [h] <;> decide

theorem neighbour {W : Wd KF} {n : Nat} {L : Addr} {l : Lm} {g : Gh} {sc infos bf gd lk : Addr} {ads : List (Addr × Addr)} {rs : List Rec} {i : Nat} {o : Option Nat} {bw pas : Bool} {u w : Tok} {Q : Value → Gh → Prop} (hS : ScnP W g sc infos bf gd lk bw pas) (hI : Infos W g infos ads rs) (hk : ∀ r ∈ rs, KindOk r) (hi : i < rs.length) (hz : rs.length ≤ 100) (hN : IsNext pas rs i o)
    (h : ∀ g' t, Sub g g' → Q (.int (ixOf o) t) g') : RC W (n+5) L l g (.call (.ref 191) ⟨[.ref sc, .int i u, .int 1 w], []⟩) Q := by
  refine RC_def (binds := [(Str.ofString "scene", .ref sc), (Str.ofString "at", .int i u), (Str.ofString "step", .int 1 w)]) (by k_is) (by k_is) (fun _ _ => BindsTo.of_eq rfl) rfl rfl rfl rfl rfl fun L' => ?_
  repeat walk_at "s"
  refine R_while (fun m g' l' => ∃ (k : Nat) (t : Tok), m = rs.length - k ∧ i < k ∧ k ≤ rs.length ∧ LK [(Str.ofString "scene", .ref sc), (Str.ofString "step", .int 1 w), (Str.ofString "here", .int k t)] l' ∧ Sub g g' ∧ ∀ (j : Nat) (r : Rec), i < j → j < k → rs[j]? = some r → good pas r = false) (rs.length - (i + 1)) ?_ ?_
  · exact ⟨i + 1, _, rfl, by omega, by omega, .cons rfl (.cons rfl (.cons rfl .nil)), Sub.refl, fun j r h1 h2 => by omega⟩
  rintro m g' l' ⟨k, t, rfl, hk1, hk2, hl, hs, hno⟩
  refine R_known hl ?_
  have hS' := hS.sub hs
  have hI' := hI.sub hs
  obtain ⟨cd, dd, d1, k1, m1, d2, k2, m2, d3, k3, m3, d4, k4, m4, d5, k5, m5, t5, u', i1, a1, a2, a3, i2, b1, b2, _⟩ := id hS'.h
  have hll := hI'.list
  have hlz : (ads.map fun q => Value.ref q.1).length ≤ 1000000 := by rw [List.length_map, hI.len]; omega
  repeat walk_at "s"
  refine ⟨fun _ => ?_, fun q => absurd (of_decide_eq_false q) (by omega)⟩
  repeat walk_at "s"
  refine ⟨fun q => ?_, fun q => ?_⟩
  · have q' := of_decide_eq_false q
    rw [List.length_map, hI.len] at q'
    have hN' : IsNext pas rs i none := fun j r h1 h2 => hno j r h1 (by have := (List.getElem?_eq_some_iff.mp h2).1; omega) h2
    obtain rfl := hN.uniq hN'
    repeat walk_at "s"
    exact h _ _ hs
  · have q' := of_decide_eq_true q
    rw [List.length_map, hI.len] at q'
    have hr : rs[k]? = some rs[k] := by simp
    generalize hrr : rs[k] = r at hr
    have hkr : KindOk r := hk r (List.mem_of_getElem? hr)
    obtain ⟨x, d, hx⟩ : ∃ x d, ads[k]? = some (x, d) := by
      have : k < ads.length := by rw [hI.len]; omega
      exact ⟨ads[k].1, ads[k].2, by simp [this]⟩
    repeat walk_at "s"
    refine R_andCons ?_
    repeat walk_at "s"
    refine R_ofRC (passes hS' hI' hr (by omega) fun g2 hs2 => ?_)
    have hS2 := hS'.sub hs2
    have hI2 := hI'.sub hs2
    obtain ⟨cd, dd, d1, k1, m1, d2, k2, m2, d3, k3, m3, d4, k4, m4, d5, k5, m5, t5, u', i1, a1, a2, a3, i2, b1, b2, _⟩ := id hS2.h
    obtain ⟨r', hr', _, kk, m, _, hin, him⟩ := hI2.at_ k x d hx
    rw [hr] at hr'
    cases hr'
    obtain ⟨tk, hki⟩ := him.ki
    have hgood : good pas r = (!(pas && decide (r.glyph = 5)) && decide (r.kind = Str.ofString "")) := rfl
    repeat walk_at "s"
    refine ⟨fun p => ?_, fun p => ?_⟩
    · rw [p, Bool.true_and] at hgood
      refine R_andCons ?_
      repeat walk_at "s"
      refine R_itemL hI2.list (by omega) (by omega) (v := .ref x) (by rw [List.getElem?_map]; simp [hx]) rfl ?_
      repeat walk_at "s"
      refine R_base fun hb => ?_
      obtain ⟨ta, tb, tc, hK⟩ := kinds_tu hb
      refine R_notInT hK (.cons _ _ (.cons _ _ (.cons _ _ .nil))) ?_
      rw [kinds_any hkr, ← hgood]
      repeat walk_at "s"
      refine ⟨fun p => ?_, fun p => ?_⟩
      · refine R_andNil ?_
        refine ⟨fun _ => ?_, fun q => by cases q⟩
        have hN' : IsNext pas rs i (some k) := ⟨hk1, ⟨r, hr, p⟩, hno⟩
        obtain rfl := hN.uniq hN'
        repeat walk_at "s"
        exact h _ _ (hs.trans hs2)
      · refine ⟨fun q => (by cases q), fun _ => ?_⟩
        repeat walk_at "s"
        refine ⟨_, ?_, k + 1, _, rfl, by omega, by omega, .cons rfl (.cons rfl (.cons rfl .nil)), hs.trans hs2, fun j r' h1 h2 h3 => ?_⟩
        · omega
        · rcases Nat.lt_or_ge j k with h4 | h4
          · exact hno j r' h1 h4 h3
          · obtain rfl : j = k := by omega
            rw [hr] at h3; cases h3; exact p
    · rw [p, Bool.false_and] at hgood
      refine ⟨fun q => (by cases q), fun _ => ?_⟩
      repeat walk_at "s"
      refine ⟨_, ?_, k + 1, _, rfl, by omega, by omega, .cons rfl (.cons rfl (.cons rfl .nil)), hs.trans hs2, fun j r' h1 h2 h3 => ?_⟩
      · omega
      · rcases Nat.lt_or_ge j k with h4 | h4
        · exact hno j r' h1 h4 h3
        · obtain rfl : j = k := by omega
          rw [hr] at h3; cases h3; exact hgood

def hangU (M : Int) (a k : Nat) (rs : List Rec) : List Rec := rs.mapIdx fun j r => if a ≤ j ∧ j < k then { r with un := r.un || (r.cluster != M) } else r
theorem hangU_get {M : Int} {a k j : Nat} {rs : List Rec} : (hangU M a k rs)[j]? = rs[j]?.map fun r => if a ≤ j ∧ j < k then { r with un := r.un || (r.cluster != M) } else r := by
  unfold hangU; rw [List.getElem?_mapIdx]
theorem hangU_len {M : Int} {a k : Nat} {rs : List Rec} : (hangU M a k rs).length = rs.length := by unfold hangU; simp
theorem hangU_start {M : Int} {a : Nat} {rs : List Rec} : hangU M a a rs = rs := by
  apply List.ext_getElem?
  intro j
  rw [hangU_get]
  cases rs[j]? with
  | none => rfl
  | some r => rw [Option.map_some, if_neg (by omega)]
theorem hangU_step {M : Int} {a k : Nat} {rs : List Rec} {r : Rec} (ha : a ≤ k) (hr : rs[k]? = some r) : hangU M a (k + 1) rs = (hangU M a k rs).set k { r with un := r.un || (r.cluster != M) } := by
  apply List.ext_getElem?
  intro j
  rw [hangU_get, List.getElem?_set, hangU_get, hangU_len]
  by_cases q : k = j
  · subst q
    rw [if_pos rfl, if_pos (List.getElem?_eq_some_iff.mp hr).1, hr, Option.map_some, if_pos (by omega)]
  · rw [if_neg q]
    cases rs[j]? with
    | none => rfl
    | some r' =>
      simp only [Option.map_some]
      by_cases h : a ≤ j ∧ j < k
      · rw [if_pos h, if_pos (by omega)]
      · rw [if_neg h, if_neg (by omega)]
def IsMin (M : Int) (rs : List Rec) (a b : Nat) : Prop := (∃ j r, a ≤ j ∧ j ≤ b ∧ rs[j]? = some r ∧ r.cluster = M) ∧ ∀ (j : Nat) (r : Rec), a ≤ j → j ≤ b → rs[j]? = some r → M ≤ r.cluster
theorem min_of {M M' : Int} {rs : List Rec} {a b : Nat} {ns : List Int} (hM : IsMin M rs a b) (h1 : M' ∈ ns) (h2 : ∀ x ∈ ns, M' ≤ x) (hn : ∀ x, x ∈ ns ↔ ∃ j r, a ≤ j ∧ j ≤ b ∧ rs[j]? = some r ∧ r.cluster = x) : M' = M := by
  obtain ⟨j, r, a1, a2, a3, a4⟩ := (hn M').mp h1
  have e1 := hM.2 j r a1 a2 a3
  have e2 := h2 M ((hn M).mpr hM.1)
  omega
theorem stretch_get {α : Type} {xs : List α} {a b i : Nat} : ((xs.drop a).take (b + 1 - a))[i]? = if i < b + 1 - a then xs[a + i]? else none := by
  rw [List.getElem?_take]
  split
  · rw [List.getElem?_drop]
  · rfl

theorem Infos.setAt {W : Wd KF} {g : Gh} {infos x d : Addr} {ads : List (Addr × Addr)} {rs : List Rec} {j k : Nat} {m' : Str → Option Value} {o' : Obj} {r' : Rec} (hI : Infos W g infos ads rs) (hx : ads[j]? = some (x, d)) (hk : k ≤ 20) (ho : DSo k m' o') (hm : InfM m' r') :
    Infos W (up g d o') infos ads (rs.set j r') := by
  have hjl : j < rs.length := by rw [← hI.len]; exact (List.getElem?_eq_some_iff.mp hx).1
  obtain ⟨r, hr, hB, k0, m0, hk0, hin, him⟩ := hI.at_ j x d hx
  refine ⟨?_, by rw [List.length_set]; exact hI.len, ?_, hI.nodup⟩
  · obtain ⟨c, e⟩ := hI.list
    obtain ⟨_, od, hod, es, cc, rfl, _⟩ := hin
    exact ⟨c, (up_ne (ne_obj e hod lst_ne_dict)).trans e⟩
  · intro i y e hy
    by_cases q : j = i
    · subst q
      rw [hx] at hy
      cases hy
      exact ⟨r', by rw [List.getElem?_set, if_pos rfl, if_pos hjl], hB, k, m', hk, ⟨(up_ne (ne_dict hin hin)).trans hin.1, o', up_same, ho⟩, hm⟩
    · obtain ⟨r2, hr2, hB2, k2, m2, hk2, hin2, him2⟩ := hI.at_ i y e hy
      refine ⟨r2, by rw [List.getElem?_set, if_neg q]; exact hr2, hB2, k2, m2, hk2, hin2.other (fun z => q ?_) (ne_dict hin2 hin), him2⟩
      have h1 : (ads.map (·.2))[j]? = some d := by rw [List.getElem?_map, hx]; rfl
      have h2 : (ads.map (·.2))[i]? = some e := by rw [List.getElem?_map, hy]; rfl
      exact (List.getElem?_inj (by rw [List.length_map]; exact (List.getElem?_eq_some_iff.mp hx).1) hI.nodup).mp (h1.trans (z ▸ h2.symm))
theorem mem_dicts {ads : List (Addr × Addr)} {j : Nat} {x d : Addr} (h : ads[j]? = some (x, d)) : d ∈ ads.map (·.2) := List.mem_map.mpr ⟨(x, d), List.mem_of_getElem? h, rfl⟩
theorem not_dict {W : Wd KF} {g : Gh} {infos a : Addr} {ads : List (Addr × Addr)} {rs : List Rec} {o : Obj} (hI : Infos W g infos ads rs) (ha : g a = some o) (ho : ∀ es c, o ≠ dictOf es c) : a ∉ ads.map (·.2) := fun hm => by
  obtain ⟨p, hp, rfl⟩ := List.mem_map.mp hm
  obtain ⟨j, hj⟩ := List.mem_iff_getElem?.mp hp
  obtain ⟨_, _, _, _, _, _, ⟨_, o', ho', es, c, rfl, _⟩, _⟩ := hI.at_ j p.1 p.2 hj
  rw [ha] at ho'
  cases ho'
  exact ho es c rfl

theorem ints_snoc : ∀ {vs : List Value} {ns : List Int} (k : Int) (t : Tok), IntsAre vs ns → IntsAre (vs ++ [.int k t]) (ns ++ [k])
  | _, _, k, t, .nil => .cons k t .nil
  | _, _, k, t, .cons n u r => .cons n u (ints_snoc k t r)
theorem hang {W : Wd KF} {n : Nat} {L : Addr} {l : Lm} {g : Gh} {infos bf d2 : Addr} {k2 : Nat} {m2 : Str → Option Value} {ads : List (Addr × Addr)} {rs : List Rec} {a b : Nat} {M : Int} {u w : Tok} {Q : Value → Gh → Prop} (i2 : Ins g 98 bf d2 k2 m2) (b1 : m2 (Str.ofString "row") = some (.ref infos)) (hI : Infos W g infos ads rs)
    (hz : rs.length ≤ 100) (hab : a < b) (hb : b < rs.length) (hM : IsMin M rs a b) (h : ∀ g', Keep (ads.map (·.2)) g g' → Infos W g' infos ads (hangU M a (b + 1) rs) → Q .none g') :
    RC W (n+4) L l g (.call (.ref 107) ⟨[.ref bf, .int a u, .int ((b : Int) + 1) w], []⟩) Q := by
  refine RC_def (binds := [(Str.ofString "buffer", .ref bf), (Str.ofString "begin", .int a u), (Str.ofString "end", .int ((b : Int) + 1) w)]) (by k_is) (by k_is) (fun _ _ => BindsTo.of_eq rfl) rfl rfl rfl rfl rfl fun L' => ?_
  repeat walk_at "s"
  have hlen : (ads.map fun q => Value.ref q.1).length = rs.length := by rw [List.length_map]; exact hI.len
  have hpick : kms_pick (ads.map fun q => Value.ref q.1) (some (a : Int)) (some ((b : Int) + 1)) = ((ads.drop a).take (b + 1 - a)).map fun q => Value.ref q.1 := by
    unfold kms_pick kms_lo kms_hi
    rw [hlen]
    simp only []
    rw [if_neg (by omega), if_neg (by omega), ← List.map_drop, ← List.map_take]
    have e1 : min (a : Int).toNat rs.length = a := by omega
    have e2 : min ((b : Int) + 1).toNat rs.length = b + 1 := by omega
    rw [e1, e2]
  refine ⟨infos, _, _, _, rfl, hI.list.lw, by rw [hlen]; omega, .int _ _, .int _ _, fun D gD BD => ?_⟩
  rw [hpick]
  generalize hst : (ads.drop a).take (b + 1 - a) = st
  have hstl : st.length = b + 1 - a := by rw [← hst, List.length_take, List.length_drop, hI.len]; omega
  have hsg : ∀ i, i < st.length → st[i]? = ads[a + i]? := fun i hi => by rw [← hst, stretch_get, if_pos (by rw [hstl] at hi; exact hi)]
  have hlz : (st.map fun q => Value.ref q.1).length ≤ 1000000 := by rw [List.length_map, hstl]; omega
  have sD : Sub g (up g D (lstO (st.map fun q => Value.ref q.1) 0)) := Sub.refl.up gD
  have hI1 := hI.sub sD
  generalize hg1 : up g D (lstO (st.map fun q => Value.ref q.1) 0) = g1 at *
  have hD : LI g1 D (st.map fun q => Value.ref q.1) := ⟨0, by rw [← hg1]; exact up_same⟩
  repeat walk_at "s"
  refine ⟨fun q => absurd (of_decide_eq_true q) (by rw [List.length_map, hstl]; omega), fun _ => ?_⟩
  repeat walk_at "s"
  refine R_comp (cl := []) (fun _ => rfl) rfl rfl rfl rfl rfl ?_
  repeat walk_at "s"
  refine ⟨_, _, _, fun i ys g' => g' = g1 ∧ ∃ ns, IntsAre ys ns ∧ ns.length = i ∧ ∀ (j : Nat) (c : Int), ns[j]? = some c → ∃ r, rs[a + j]? = some r ∧ r.cluster = c, Src.list hD, ⟨⟨rfl, [], .nil, rfl, fun j c e => by simp at e⟩, ?_, ?_, ?_, ?_, ?_⟩, ?_⟩
  · rintro e rfl
    obtain ⟨k, e⟩ := hD
    exact ⟨_, e⟩
  · rintro i ys g' ⟨rfl, _⟩ e o _ he
    exact he
  · rintro C i v ys g' hi hv ⟨rfl, ns, hys, hnl, hns⟩
    rw [List.length_map] at hi
    rw [List.getElem?_map, hsg i hi] at hv
    cases hx : ads[a + i]? with
    | none => rw [hx] at hv; cases hv
    | some p =>
      rw [hx] at hv
      cases hv
      obtain ⟨x, d⟩ := p
      obtain ⟨r, hr, _, k, m, _, hin, him⟩ := hI1.at_ _ x d hx
      obtain ⟨tc, hcl⟩ := him.cl
      refine R_tests0 ⟨fun _ => ?_, fun q => by cases q⟩
      repeat walk_at "s"
      refine ⟨rfl, ns ++ [r.cluster], ints_snoc _ _ hys, by simp [hnl], fun j c e => ?_⟩
      rcases Nat.lt_or_ge j ns.length with hlt | hge
      · rw [List.getElem?_append_left hlt] at e
        exact hns j c e
      · rw [List.getElem?_append_right hge] at e
        have h0 : j - ns.length = 0 := by
          rcases Nat.eq_zero_or_pos (j - ns.length) with h | h
          · exact h
          · rw [List.getElem?_eq_none (by simp; omega)] at e; cases e
        rw [h0] at e
        simp at e
        obtain rfl : j = i := by omega
        exact ⟨r, hr, e⟩
  · rw [List.length_map, hstl, sizeLine_eq]; omega
  · rintro i ys g' ⟨rfl, ns, hys, hnl, _⟩
    rw [hys.length, hnl]; exact Nat.le_refl _
  rintro D2 g' ys k2' gD2 BD2 ⟨rfl, ns, hys, hnl, hns⟩
  rw [List.length_map] at hnl
  repeat walk_at "s"
  refine R_min ⟨_, up_same⟩ hys (by omega) fun M' t' hM1 hM2 => ?_
  have hMM : M' = M := min_of hM hM1 hM2 fun x => by
    constructor
    · intro hx
      obtain ⟨j, hj⟩ := List.mem_iff_getElem?.mp hx
      obtain ⟨r, h1, h2⟩ := hns j x hj
      have := (List.getElem?_eq_some_iff.mp hj).1
      exact ⟨a + j, r, by omega, by omega, h1, h2⟩
    · rintro ⟨j, r, h1, h2, h3, h4⟩
      have hjl : j - a < ns.length := by omega
      obtain ⟨r', h5, h6⟩ := hns (j - a) ns[j - a] (by simp [hjl])
      rw [show a + (j - a) = j by omega, h3] at h5
      cases h5
      rw [← h4, h6]
      exact List.getElem_mem hjl
  subst hMM
  have sD2 : Sub g' (up g' D2 (lstO ys k2')) := Sub.refl.up gD2
  have hI2 := hI1.sub sD2
  have hD' := hD.sub sD2
  generalize up g' D2 (lstO ys k2') = g2 at *
  repeat walk_at "s"
  refine R_for (fun _ => rfl) ?_
  repeat walk_at "s"
  refine ⟨_, _, _, Src.list hD', fun e he => ?_, fun i g' l' => LK [(Str.ofString "least_cluster", .int M' t')] l' ∧ Keep (ads.map (·.2)) g2 g' ∧ Infos W g' infos ads (hangU M' a (a + i) rs), ?_, ?_, ?_, ?_⟩
  · subst he
    obtain ⟨k, e⟩ := hD'
    exact ⟨_, e⟩
  · exact ⟨.cons rfl .nil, Keep.refl, by rw [Nat.add_zero, hangU_start]; exact hI2⟩
  · rintro i g' l' ⟨_, hkp, _⟩ e o rfl he
    refine hkp _ _ (not_dict hI2 he fun es c => ?_) he
    obtain ⟨k, e'⟩ := hD'
    rw [he] at e'
    cases e'
    exact lst_ne_dict
  · rintro i v g' l' hi hv ⟨hl, hkp, hin⟩
    refine R_known hl ?_
    rw [List.length_map] at hi
    rw [List.getElem?_map, hsg i hi] at hv
    cases hx : ads[a + i]? with
    | none => rw [hx] at hv; cases hv
    | some p =>
      rw [hx] at hv
      cases hv
      obtain ⟨x, d⟩ := p
      obtain ⟨r1, hr1, hB, k, m, hk, hins, him⟩ := hin.at_ _ x d hx
      obtain ⟨r, hr⟩ : ∃ r, rs[a + i]? = some r := by
        rw [hangU_get] at hr1
        cases hq : rs[a + i]? with
        | none => rw [hq] at hr1; cases hr1
        | some r => exact ⟨r, rfl⟩
      rw [hangU_get, hr, Option.map_some, if_neg (by omega)] at hr1
      cases hr1
      obtain ⟨tc, hcl⟩ := him.cl
      have hst := hangU_step (M := M') (show a ≤ a + i by omega) hr
      repeat walk_at "s"
      refine R_neI ?_
      repeat walk_at "s"
      refine ⟨fun q => ?_, fun q => ?_⟩
      · repeat walk_at "s"
        obtain ⟨hx1, o, ho, hd⟩ := hins
        refine R_setOld hd hx1 ho hB (by omega) cls_s52 cls_p52 (by k_is) cls_h52 (by rw [him.un]; rfl) fun o' ho' => ?_
        repeat walk_at "s"
        refine ⟨.cons rfl .nil, hkp.upIn (mem_dicts hx), ?_⟩
        rw [← Nat.add_assoc, hst, q, Bool.or_true]
        exact hin.setAt hx hk ho' (him.setUn true)
      · repeat walk_at "s"
        refine ⟨.cons rfl .nil, hkp, ?_⟩
        rw [← Nat.add_assoc, hst, q, Bool.or_false]
        have : (hangU M' a (a + i) rs).set (a + i) r1 = hangU M' a (a + i) rs := by
          apply List.ext_getElem?
          intro j
          rw [List.getElem?_set]
          by_cases q : a + i = j
          · subst q
            rw [if_pos rfl, hangU_len, if_pos (List.getElem?_eq_some_iff.mp hr).1, hangU_get, hr, Option.map_some, if_neg (by omega)]
          · rw [if_neg q]
        rw [show ({ r1 with un := r1.un } : Rec) = r1 from rfl, this]
        exact hin
  · rintro g' l' ⟨_, hkp, hin⟩
    repeat walk_at "s"
    rw [List.length_map, hstl, show a + (b + 1 - a) = b + 1 by omega] at hin
    exact h g' ((sD.trans sD2).keep.trans hkp) hin

theorem next_at {W : Wd KF} {n : Nat} {L : Addr} {l : Lm} {g : Gh} {sc infos bf gd lk : Addr} {ads : List (Addr × Addr)} {rs : List Rec} {i : Nat} {o : Option Nat} {bw pas : Bool} {u : Tok} {Q : Value → Gh → Prop} (hS : ScnP W g sc infos bf gd lk bw pas) (hI : Infos W g infos ads rs) (hk : ∀ r ∈ rs, KindOk r) (hi : i < rs.length) (hz : rs.length ≤ 100) (hN : IsNext pas rs i o)
    (h : ∀ g' t, Sub g g' → Q (.int (ixOf o) t) g') : RC W (n+6) L l g (.call (.ref 198) ⟨[.ref sc, .int i u], []⟩) Q := by
  refine RC_def (binds := [(Str.ofString "scene", .ref sc), (Str.ofString "at", .int i u)]) (by k_is) (by k_is) (fun _ _ => BindsTo.of_eq rfl) rfl rfl rfl rfl rfl fun L' => ?_
  repeat walk_at "s"
  refine R_ofRC (neighbour hS hI hk hi hz hN fun g' t hq => ?_)
  repeat walk_at "s"
  exact h _ _ hq
def addV (v : V4) (r : Rec) : Rec := { r with xo := r.xo + v.a, yo := r.yo + v.b, xa := r.xa + v.c }
theorem add_value {W : Wd KF} {n : Nat} {L : Addr} {l : Lm} {g S : Gh} {infos x d vx : Addr} {ads : List (Addr × Addr)} {rs : List Rec} {r : Rec} {v : V4} {j : Nat} {bw : Bool} {Q : Value → Gh → Prop} (hs : Sub S g) (hv : ValAt S vx v) (hI : Infos W g infos ads rs) (hSd : ∀ q ∈ ads, S q.2 = none) (hx : ads[j]? = some (x, d)) (hr : rs[j]? = some r)
    (h : ∀ g', Keep (ads.map (·.2)) g g' → Infos W g' infos ads (rs.set j (addV v r)) → Q .none g') : RC W (n+1) L l g (.call (.ref 240) ⟨[.ref x, .ref vx, .bool bw], []⟩) Q := by
  obtain ⟨r', hr', hB, k, m, hk, hin, him⟩ := hI.at_ j x d hx
  rw [hr] at hr'
  cases hr'
  have hSd' : S d = none := hSd (x, d) (List.mem_of_getElem? hx)
  obtain ⟨dv, t1, t2, t3, t4, hvi⟩ := hv
  have hv0 := hvi.sub hs
  obtain ⟨u1, e1⟩ := him.xo
  refine RC_def (binds := [(Str.ofString "info", .ref x), (Str.ofString "value", .ref vx), (Str.ofString "is_backward", .bool bw)]) (by k_is) (by k_is) (fun _ _ => BindsTo.of_eq rfl) rfl rfl rfl rfl rfl fun L' => ?_
  repeat walk_at "s"
  rename_i tA
  obtain ⟨hx1, o, ho, hdo⟩ := id hin
  have hxd := ne_dict hin hin
  refine R_setOld hdo hx1 ho hB (by omega) cls_s52 cls_p52 (by k_is) cls_h52 (by rw [e1]; rfl) fun o1 hd1 => ?_
  have him1 := him.setXo (r.xo + v.a) tA
  have hv1 := hvi.sub (hs.up' (a := d) (o := o1) hSd')
  have hin1 : Ins (up g d o1) 52 x d k _ := ⟨(up_ne hxd).trans hx1, o1, up_same, hd1⟩
  obtain ⟨u2, e2⟩ := him1.yo
  repeat walk_at "s"
  rename_i tB
  refine R_setOld hd1 ((up_ne hxd).trans hx1) up_same hB (by omega) cls_s52 cls_p52 (by k_is) cls_h52 (by rw [e2]; rfl) fun o2 hd2 => ?_
  rw [up_up]
  have him2 := him1.setYo (r.yo + v.b) tB
  have hv2 := hvi.sub (hs.up' (a := d) (o := o2) hSd')
  have hin2 : Ins (up g d o2) 52 x d k _ := ⟨(up_ne hxd).trans hx1, o2, up_same, hd2⟩
  obtain ⟨u3, e3⟩ := him2.xa
  repeat walk_at "s"
  rename_i tC
  refine R_setOld hd2 ((up_ne hxd).trans hx1) up_same hB (by omega) cls_s52 cls_p52 (by k_is) cls_h52 (by rw [e3]; rfl) fun o3 hd3 => ?_
  rw [up_up]
  have him3 := him2.setXa (r.xa + v.c) tC
  repeat walk_at "s"
  exact h _ (Keep.refl.upIn (mem_dicts hx)) (hI.setAt hx hk hd3 him3)

def FoundAs (S : Gh) (v : Value) : Option (V4 × V4) → Prop
  | none => v = .none
  | some p => ∃ t x y, v = .ref t ∧ TU S t [.ref x, .ref y] ∧ ValAt S x p.1 ∧ ValAt S y p.2
structure Tab (W : Wd KF) (S : Gh) (tb : Addr) (mp : Int → Int → Option (V4 × V4)) (sec : Bool) : Prop where
  f : ∃ f, keepIn (KF W.w.params) (.ref f) = true ∧
    (∀ (n : Nat) (env : Env) (g : Gh) (l : Lm) (pl : Sem Bool) (Q : Value × List Value → Gh → Lm → Prop), Sub S g → Q (.ref f, [.ref tb]) g l → R W n env g l (getMethod (.ref tb) (Str.ofString "find") pl) Q) ∧
    ∀ (n : Nat) (L : Addr) (l : Lm) (g : Gh) (a b : Int) (t u : Tok) (Q : Value → Gh → Prop), Sub S g → 1 ≤ a → a ≤ 5 → 1 ≤ b → b ≤ 5 → (∀ g' v, Sub g g' → FoundAs S v (mp a b) → Q v g') → RC W (n+6) L l g (.call (.ref f) ⟨[.ref tb, .int a t, .int b u], []⟩) Q
  sec : ∀ (n : Nat) (L : Addr) (l : Lm) (g : Gh) (Q : Value → Gh → Prop), Sub S g → Q (.bool sec) g → RC W (n+1) L l g (.call (.ref 325) ⟨[.ref tb], []⟩) Q

theorem Tab.sub {W : Wd KF} {S S' : Gh} {tb : Addr} {mp : Int → Int → Option (V4 × V4)} {sec : Bool} (T : Tab W S tb mp sec) (s : Sub S S') : Tab W S' tb mp sec where
  f := by
    obtain ⟨f, h1, h2, h3⟩ := T.f
    refine ⟨f, h1, fun n env g l pl Q hs q => h2 n env g l pl Q (s.trans hs) q, fun n L l g a b t u Q hs e1 e2 e3 e4 q => h3 n L l g a b t u Q (s.trans hs) e1 e2 e3 e4 fun g' v hv hf => q g' v hv ?_⟩
    cases hm : mp a b with
    | none => rw [hm] at hf; exact hf
    | some p => rw [hm] at hf; obtain ⟨t, x, y, a1, a2, a3, a4⟩ := hf; exact ⟨t, x, y, a1, a2.sub s, a3.sub s, a4.sub s⟩
  sec := fun n L l g Q hs q => T.sec n L l g Q (s.trans hs) q
def stepOf (mp : Int → Int → Option (V4 × V4)) (sec : Bool) (rs : List Rec) (i : Nat) (M : Int) : Option Nat → Int × List Rec
  | none => (-1, rs)
  | some j => match rs[i]?, rs[j]? with
    | some a, some b => match mp a.glyph b.glyph with
      | none => (-1, rs)
      | some p => (if sec then (j : Int) + 1 else j, ((hangU M i (j + 1) rs).modify i (addV p.1)).modify j (addV p.2))
    | _, _ => (-1, rs)
theorem set_modify {α : Type} {xs : List α} {i : Nat} {a : α} {f : α → α} (h : xs[i]? = some a) : xs.set i (f a) = xs.modify i f := by
  apply List.ext_getElem?
  intro j
  rw [List.getElem?_set, List.getElem?_modify]
  by_cases q : i = j
  · subst q; rw [if_pos rfl, if_pos (List.getElem?_eq_some_iff.mp h).1, h]; simp
  · rw [if_neg q]; simp [q]

theorem apply_pair {W : Wd KF} {n : Nat} {L : Addr} {l : Lm} {g S : Gh} {sc infos tb : Addr} {ads : List (Addr × Addr)} {rs : List Rec} {i : Nat} {o : Option Nat} {bw pas sec : Bool} {M : Int} {mp : Int → Int → Option (V4 × V4)} {u : Tok} {Q : Value → Gh → Prop}
    (hs : Sub S g) (hT : Tab W S tb mp sec) (hS : Scn W S sc infos bw pas) (hI : Infos W g infos ads rs) (hSd : ∀ q ∈ ads, S q.2 = none) (hk : ∀ r ∈ rs, KindOk r) (hgl : ∀ r ∈ rs, 1 ≤ r.glyph ∧ r.glyph ≤ 5) (hi : i < rs.length) (hz : rs.length ≤ 100) (hN : IsNext pas rs i o) (hM : ∀ j, o = some j → IsMin M rs i j)
    (h : ∀ g' t, Keep (ads.map (·.2)) g g' → Infos W g' infos ads (stepOf mp sec rs i M o).2 → Q (.int (stepOf mp sec rs i M o).1 t) g') : RC W (n+7) L l g (.call (.ref 332) ⟨[.ref sc, .ref tb, .int i u], []⟩) Q := by
  obtain ⟨bf, gd, lk, hP⟩ := hS.parts
  have hkd : ∀ d ∈ ads.map (·.2), S d = none := fun d hd => by obtain ⟨q, hq, rfl⟩ := List.mem_map.mp hd; exact hSd q hq
  refine RC_def (binds := [(Str.ofString "scene", .ref sc), (Str.ofString "table", .ref tb), (Str.ofString "at", .int i u)]) (by k_is) (by k_is) (fun _ _ => BindsTo.of_eq rfl) rfl rfl rfl rfl rfl fun L' => ?_
  repeat walk_at "s"
  refine R_ofRC (next_at (hP.sub hs) hI hk hi hz hN fun g1 t1 hs1 => ?_)
  have hs1' := hs.trans hs1
  have hI1 := hI.sub hs1
  obtain ⟨cd, dd, d1, k1, m1, d2, k2, m2, d3, k3, m3, d4, k4, m4, d5, k5, m5, t5, u', i1, a1, a2, a3, i2, b1, b2, _⟩ := id (hP.sub hs1').h
  repeat walk_at "s"
  cases o with
  | none =>
    refine ⟨fun _ => ?_, fun q => absurd q (by decide)⟩
    repeat walk_at "s"
    exact h _ _ hs1.keep hI1
  | some j =>
    refine ⟨fun q => absurd (of_decide_eq_true q) (by simp [ixOf]), fun _ => ?_⟩
    obtain ⟨hij, ⟨rj, hrj, _⟩, _⟩ := hN
    have hri : rs[i]? = some rs[i] := by simp [hi]
    generalize rs[i] = ri at hri
    obtain ⟨xi, di, hxi⟩ : ∃ x d, ads[i]? = some (x, d) := by
      have : i < ads.length := by rw [hI.len]; omega
      exact ⟨ads[i].1, ads[i].2, by simp [this]⟩
    obtain ⟨xj, dj, hxj⟩ : ∃ x d, ads[j]? = some (x, d) := by
      have : j < ads.length := by rw [hI.len]; exact (List.getElem?_eq_some_iff.mp hrj).1
      exact ⟨ads[j].1, ads[j].2, by simp [this]⟩
    obtain ⟨ri', hri', _, ki, mi, _, hini, ⟨⟨ti, zi⟩, _⟩⟩ := hI1.at_ i xi di hxi
    rw [hri] at hri'
    cases hri'
    obtain ⟨rj', hrj', _, kj, mj, _, hinj, ⟨⟨tj, zj⟩, _⟩⟩ := hI1.at_ j xj dj hxj
    rw [hrj] at hrj'
    cases hrj'
    obtain ⟨f, hf1, hf2, hf3⟩ := hT.f
    repeat walk_at "s"
    refine hf2 _ _ _ _ _ _ hs1' ?_
    have hgi := hgl ri (List.mem_of_getElem? hri)
    have hgj := hgl rj (List.mem_of_getElem? hrj)
    have gli : (ads.map fun q => Value.ref q.1)[((i : Int)).toNat]? = some (.ref xi) := by rw [List.getElem?_map]; simp [hxi]
    have glj : (ads.map fun q => Value.ref q.1)[(ixOf (some j)).toNat]? = some (.ref xj) := by rw [List.getElem?_map]; simp [ixOf, hxj]
    have hjl : j < rs.length := (List.getElem?_eq_some_iff.mp hrj).1
    repeat walk_at "s"
    refine R_itemL hI1.list (by omega) (by omega) gli rfl ?_
    repeat walk_at "s"
    refine R_itemL hI1.list (by simp [ixOf]) (by simp only [ixOf]; omega) glj rfl ?_
    repeat walk_at "s"
    refine R_ofRC (hf3 _ _ _ _ _ _ _ _ _ hs1' hgi.1 hgi.2 hgj.1 hgj.2 fun g2 v hs2 hv => ?_)
    have hs2' := hs1'.trans hs2
    have hI2 := hI1.sub hs2
    repeat walk_at "s"
    refine R_isNone ?_
    repeat walk_at "s"
    cases hmp : mp ri.glyph rj.glyph with
    | none =>
      have hst : stepOf mp sec rs i M (some j) = (-1, rs) := by simp [stepOf, hri, hrj, hmp]
      rw [hst] at h
      rw [hmp] at hv
      cases hv
      refine ⟨fun _ => ?_, fun q => absurd q (by decide)⟩
      repeat walk_at "s"
      exact h _ _ (hs1.trans hs2).keep hI2
    | some p =>
      have hst : stepOf mp sec rs i M (some j) = (if sec then (j : Int) + 1 else j, ((hangU M i (j + 1) rs).modify i (addV p.1)).modify j (addV p.2)) := by simp [stepOf, hri, hrj, hmp]
      rw [hst] at h
      rw [hmp] at hv
      obtain ⟨t, x, y, rfl, htu, hvx, hvy⟩ := hv
      refine ⟨fun q => absurd q Bool.false_ne_true, fun _ => ?_⟩
      have i1' := i1.sub hs2
      have i2' := i2.sub hs2
      repeat walk_at "s"
      refine R_ofRC (hang i2' b1 hI2 hz hij hjl (hM j rfl) fun g3 hk3 hI3 => ?_)
      have hs3 := hk3.sub hs2' hkd
      have i1'' := (i1.sub hs2)
      obtain ⟨cd, dd, d1, k1, m1, d2, k2, m2, d3, k3, m3, d4, k4, m4, d5, k5, m5, t5, u', i1, a1, a2, a3, i2, b1, b2, _⟩ := id (hP.sub hs3).h
      have htu3 := htu.sub hs3
      repeat walk_at "s"
      refine R_itemL hI3.list (by omega) (by omega) gli rfl ?_
      repeat walk_at "s"
      have hr3 : (hangU M i (j + 1) rs)[i]? = some { ri with un := ri.un || (ri.cluster != M) } := by rw [hangU_get, hri, Option.map_some, if_pos (by omega)]
      refine R_ofRC (add_value hs3 hvx hI3 hSd hxi hr3 fun g4 hk4 hI4 => ?_)
      rw [set_modify hr3] at hI4
      have hs4 := hk4.sub hs3 hkd
      obtain ⟨cd, dd, d1, k1, m1, d2, k2, m2, d3, k3, m3, d4, k4, m4, d5, k5, m5, t5, u', i1, a1, a2, a3, i2, b1, b2, _⟩ := id (hP.sub hs4).h
      have htu4 := htu.sub hs4
      repeat walk_at "s"
      refine R_itemL hI4.list (by simp [ixOf]) (by simp only [ixOf]; omega) glj rfl ?_
      repeat walk_at "s"
      have hr4 : ((hangU M i (j + 1) rs).modify i (addV p.1))[j]? = some { rj with un := rj.un || (rj.cluster != M) } := by
        rw [List.getElem?_modify, hangU_get, hrj, Option.map_some, if_pos (by omega)]
        have : i ≠ j := by omega
        simp [this]
      refine R_ofRC (add_value hs4 hvy hI4 hSd hxj hr4 fun g5 hk5 hI5 => ?_)
      rw [set_modify hr4] at hI5
      have hs5 := hk5.sub hs4 hkd
      repeat walk_at "s"
      walk_at "ife"
      repeat walk_at "s"
      refine R_ofRC (hT.sec _ _ _ _ _ hs5 ?_)
      repeat walk_at "s"
      have hkk := (((hs1.trans hs2).keep.trans hk3).trans hk4).trans hk5
      refine ⟨fun q => ?_, fun q => ?_⟩
      · subst q
        repeat walk_at "s"
        exact h _ _ hkk hI5
      · subst q
        repeat walk_at "s"
        exact h _ _ hkk hI5

def off2 (p cl : Addr) (g : Gh) : Gh := fun b => if b = p ∨ b = cl then none else g b
structure PG (W : Wd KF) (p cl : Addr) (b : Int) (S g : Gh) : Prop where
  pen : Pen W g p cl b
  off : S = off2 p cl g
theorem PG.sub {W : Wd KF} {p cl : Addr} {b : Int} {S g : Gh} (h : PG W p cl b S g) : Sub S g := fun c o e => by
  rw [h.off] at e
  unfold off2 at e
  split at e
  · cases e
  · exact e
theorem PG.no {W : Wd KF} {p cl : Addr} {b : Int} {S g : Gh} (h : PG W p cl b S g) : S p = none ∧ S cl = none := by
  rw [h.off]; unfold off2; exact ⟨if_pos (.inl rfl), if_pos (.inr rfl)⟩
theorem PG.has {W : Wd KF} {p cl : Addr} {b : Int} {S g : Gh} (h : PG W p cl b S g) : (∃ o, g p = some o) ∧ ∃ o, g cl = some o :=
  let ⟨o, _, _, _, e, d⟩ := h.pen
  ⟨⟨o, e⟩, let ⟨_, _, ⟨k, q⟩, _⟩ := d.cells; ⟨_, q⟩⟩
theorem off2_up {p cl a : Addr} {g : Gh} {o : Obj} (h1 : a ≠ p) (h2 : a ≠ cl) : off2 p cl (up g a o) = up (off2 p cl g) a o := by
  funext b
  unfold off2
  by_cases q : b = a
  · subst q; rw [up_same, up_same, if_neg (by intro h; rcases h with h | h; exact h1 h; exact h2 h)]
  · rw [up_ne q, up_ne q]
theorem Pen.other {W : Wd KF} {p cl a : Addr} {b : Int} {g : Gh} {o : Obj} (h : Pen W g p cl b) (h1 : a ≠ p) (h2 : a ≠ cl) : Pen W (up g a o) p cl b := by
  obtain ⟨op, s, c, e, hp, ⟨d1, ⟨vs, ns, ⟨k, hc⟩, d2, d3⟩, d4, d5, d6, d7, d8, d9, d10⟩⟩ := h
  exact ⟨op, s, c, e, (up_ne (Ne.symm h1)).trans hp, ⟨d1, ⟨vs, ns, ⟨k, (up_ne (Ne.symm h2)).trans hc⟩, d2, d3⟩, d4, d5, d6, d7, d8, d9, d10⟩⟩
theorem PG.alloc {W : Wd KF} {p cl a : Addr} {b : Int} {S g : Gh} {o : Obj} (h : PG W p cl b S g) (ga : g a = none) : S a = none ∧ PG W p cl b (up S a o) (up g a o) := by
  obtain ⟨⟨o1, e1⟩, ⟨o2, e2⟩⟩ := h.has
  have h1 : a ≠ p := Ne.symm (ne_get e1 ga)
  have h2 : a ≠ cl := Ne.symm (ne_get e2 ga)
  exact ⟨h.sub.none ga, h.pen.other h1 h2, by rw [h.off, off2_up h1 h2]⟩
theorem PG.change {W : Wd KF} {p cl a : Addr} {b : Int} {S g : Gh} {o o' : Obj} (h : PG W p cl b S g) (ha : S a = some o) : PG W p cl b (up S a o') (up g a o') := by
  have h1 : a ≠ p := ne_get ha h.no.1
  have h2 : a ≠ cl := ne_get ha h.no.2
  exact ⟨h.pen.other h1 h2, by rw [h.off, off2_up h1 h2]⟩
theorem off2_self {p cl : Addr} {g : Gh} {o : Obj} : off2 p cl (up g p o) = off2 p cl g := by
  funext b
  unfold off2
  by_cases q : b = p ∨ b = cl
  · rw [if_pos q, if_pos q]
  · rw [if_neg q, if_neg q, up_ne fun z => q (.inl z)]
theorem drawP {W : Wd KF} {n : Nat} {L : Addr} {l : Lm} {S g : Gh} {p cl : Addr} {many b : Int} {t : Tok} {Q : Value → Gh → Prop} (hp : PG W p cl b S g) (h1 : 1 ≤ many) (h2 : many ≤ 10) (hb : b ≤ 1000)
    (h : ∀ k t g', 0 ≤ k → k < many → PG W p cl (b + 1) S g' → Q (.int k t) g') : RC W (n+1) L l g (.call (.ref 488) ⟨[.ref p, .int many t], []⟩) Q :=
  draw hp.pen h1 h2 hb fun k t o h1 h2 h3 => h k t _ h1 h2 ⟨h3, by rw [hp.off, off2_self]⟩
theorem PG.wait {W : Wd KF} {p cl : Addr} {b b' : Int} {S g : Gh} (h : PG W p cl b S g) (hb : b ≤ b') : PG W p cl b' S g :=
  ⟨let ⟨o, s, c, e, hp, d⟩ := h.pen; ⟨o, s, c, e, hp, { d with spotB := Int.le_trans d.spotB hb }⟩, h.off⟩

def PairT (g : Gh) (v : Value) (p : V4 × V4) : Prop := ∃ t x y, v = .ref t ∧ TU g t [.ref x, .ref y] ∧ T4 g x p.1 ∧ T4 g y p.2
def PairV (g : Gh) (v : Value) (p : V4 × V4) : Prop := ∃ t x y, v = .ref t ∧ TU g t [.ref x, .ref y] ∧ ValAt g x p.1 ∧ ValAt g y p.2
theorem PairT.sub {g g' : Gh} {v : Value} {p : V4 × V4} (h : PairT g v p) (s : Sub g g') : PairT g' v p := let ⟨t, x, y, a, b, c, d⟩ := h; ⟨t, x, y, a, b.sub s, c.sub s, d.sub s⟩
theorem PairV.sub {g g' : Gh} {v : Value} {p : V4 × V4} (h : PairV g v p) (s : Sub g g') : PairV g' v p := let ⟨t, x, y, a, b, c, d⟩ := h; ⟨t, x, y, a, b.sub s, c.sub s, d.sub s⟩

theorem reads0 {g : Gh} {a : Addr} {k : Nat} (h : g a = some (lstO [] k)) : ∀ hh : Heap, (∀ c o, g c = some o → hh.get? c = some o) → ∃ as, Reads hh (.ref a) (.list []) as := fun hh hk =>
  ⟨_, reads_list_at (hk _ _ h) rfl rfl .nil⟩
theorem moves_second {W : Wd KF} {n : Nat} {L : Addr} {l : Lm} {g : Gh} {v : Value} {N : Nat} {P : Nat → Value → Prop} {S : Addr → Prop} {Q : Value → Gh → Prop} (hsrc : ∀ n, Src W n g v N P S) (hSg : ∀ b, S b → ∃ o, g b = some o) (hN : N ≤ 1000)
    (hit : ∀ (i : Nat) (v : Value), P i v → ∃ p, PairV g v (p, V4.zero)) (h : ∀ g', Sub g g' → Q (.bool false) g') : RC W (n+4) L l g (.call (.ref 252) ⟨[v], []⟩) Q := by
  refine RC_def (binds := [(Str.ofString "pairs", v)]) (by k_is) (by k_is) (fun _ _ => BindsTo.of_eq rfl) rfl rfl rfl rfl rfl fun L' => ?_
  repeat walk_at "s"
  refine R_comp (cl := []) (fun _ => rfl) rfl rfl rfl rfl rfl ?_
  repeat walk_at "s"
  refine ⟨_, _, _, fun i ys g' => Sub g g' ∧ ys = [], hsrc _, ⟨⟨Sub.refl, rfl⟩, hSg, ?_, ?_, ?_, ?_⟩, ?_⟩
  · rintro i ys g' ⟨hs, _⟩ b o _ e
    exact hs _ _ e
  · rintro C i v ys g' hi hv ⟨hs, rfl⟩
    obtain ⟨p, t, x, y, rfl, htu, hx, hy⟩ := hit i v hv
    have htu' := htu.sub hs
    refine R_tests1 ?_
    repeat walk_at "s"
    obtain ⟨dv, t1, t2, t3, t4, hyi⟩ := id hy
    have hyi' := hyi.sub hs
    repeat walk_at "s"
    refine R_ofRC (value_nothing (hy.sub hs) fun g2 hs2 => ?_)
    repeat walk_at "s"
    exact ⟨fun q => absurd q (by simp [V4.zero]), fun _ => ⟨hs.trans hs2, rfl⟩⟩
  · rw [sizeLine_eq]; omega
  · rintro i ys g' ⟨_, rfl⟩; exact Nat.zero_le _
  · rintro D g' ys k gD BD ⟨hs, rfl⟩
    repeat walk_at "s"
    rename_i D' gD' BD'
    refine R_neD (reads0 (up_old gD' up_same)) (reads0 up_same) rfl rfl ?_
    repeat walk_at "s"
    exact h _ ((hs.up gD).up gD')

def look (xs : List (List Int × Addr × Value)) (ks : List Int) : Option Value := (atKey xs ks).map (·.2)
theorem look_cons {x : List Int × Addr × Value} {r : List (List Int × Addr × Value)} {ks : List Int} : look (x :: r) ks = if x.1 = ks then some x.2.2 else look r ks := by
  unfold look atKey
  rw [List.find?_cons]
  by_cases q : x.1 = ks
  · rw [if_pos q]; simp [q]
  · rw [if_neg q]; simp [q]
theorem look_map {k : List Int} {v : Value} {ks : List Int} : ∀ {xs : List (List Int × Addr × Value)}, look (xs.map (putAt k v)) ks = if ks = k then (look xs k).map (fun _ => v) else look xs ks
  | [] => by by_cases q : ks = k <;> simp [look, atKey, q]
  | x :: r => by
    rw [List.map_cons, look_cons, look_cons, look_cons, look_map]
    have e1 : (putAt k v x).1 = x.1 := by unfold putAt; split <;> rfl
    rw [e1]
    by_cases q : ks = k
    · subst q
      rw [if_pos rfl, if_pos rfl]
      by_cases z : x.1 = ks
      · rw [if_pos z, if_pos z]
        unfold putAt
        rw [if_pos z]; rfl
      · rw [if_neg z, if_neg z]
    · rw [if_neg q, if_neg q]
      by_cases z : x.1 = ks
      · rw [if_pos z, if_pos z]
        unfold putAt
        rw [if_neg (by rw [z]; exact q)]
      · rw [if_neg z, if_neg z]
theorem look_snoc {k : List Int} {a : Addr} {v : Value} {ks : List Int} : ∀ {xs : List (List Int × Addr × Value)}, look xs k = none → look (xs ++ [(k, a, v)]) ks = if ks = k then some v else look xs ks
  | [], _ => by
    rw [List.nil_append, look_cons]
    by_cases q : ks = k
    · subst q; simp
    · rw [if_neg (Ne.symm q), if_neg q]
  | x :: r, h => by
    rw [look_cons] at h
    rw [List.cons_append, look_cons, look_cons]
    by_cases z : x.1 = k
    · rw [if_pos z] at h; cases h
    · rw [if_neg z] at h
      rw [look_snoc h]
      by_cases q : ks = k
      · subst q; rw [if_neg z, if_pos rfl, if_pos rfl]
      · rw [if_neg q, if_neg q]
theorem look_stored {xs : List (List Int × Addr × Value)} {k ks : List Int} {a : Addr} {v : Value} : look (storedH xs k a v) ks = if ks = k then some v else look xs ks := by
  unfold storedH
  split
  · rename_i h
    rw [look_map]
    by_cases q : ks = k
    · rw [if_pos q, if_pos q]
      unfold look
      cases e : atKey xs k with
      | none => rw [e] at h; cases h
      | some p => rfl
    · rw [if_neg q, if_neg q]
  · rename_i h
    exact look_snoc (by
      unfold look
      cases e : atKey xs k with
      | none => rfl
      | some p => rw [e] at h; exact absurd rfl h)
theorem look_mem {xs : List (List Int × Addr × Value)} {x : List Int × Addr × Value} (hn : (xs.map (·.1)).Nodup) (hx : x ∈ xs) : look xs x.1 = some x.2.2 := by
  obtain ⟨i, hi⟩ := List.mem_iff_getElem?.mp hx
  unfold look
  rw [atKey_of_get hn (k := x.1) (p := x.2) hi]
  rfl

structure DictV (W : Wd KF) (S : Gh) (d : Addr) (mp : Int → Int → Option (V4 × V4)) (sec : Bool) : Prop where
  lo : (d == sysModules) = false
  h : ∃ ys, DT W S d ys ∧ ys.length ≤ 1000 ∧ (∀ y ∈ ys, ∃ p, PairV S y.2.2 p ∧ (sec = false → p.2 = V4.zero)) ∧ ∀ a b, FoundAs S ((look ys [a, b]).getD .none) (mp a b)
theorem FoundAs.sub {S S' : Gh} {v : Value} {o : Option (V4 × V4)} (h : FoundAs S v o) (s : Sub S S') : FoundAs S' v o := by
  cases o with
  | none => exact h
  | some p => obtain ⟨t, x, y, a, b, c, d⟩ := h; exact ⟨t, x, y, a, b.sub s, c.sub s, d.sub s⟩
theorem DictV.sub {W : Wd KF} {S S' : Gh} {d : Addr} {mp : Int → Int → Option (V4 × V4)} {sec : Bool} (h : DictV W S d mp sec) (s : Sub S S') : DictV W S' d mp sec :=
  ⟨h.lo, let ⟨ys, a, b, c, e⟩ := h.h; ⟨ys, a.sub s, b, fun y hy => let ⟨p, q, r⟩ := c y hy; ⟨p, q.sub s, r⟩, fun x y => (e x y).sub s⟩⟩

theorem pg_init {W : Wd KF} {n : Nat} {L : Addr} {l : Lm} {g : Gh} {x d md : Addr} {mp : Int → Int → Option (V4 × V4)} {sec : Bool} {Q : Value → Gh → Prop} (hx : g x = some (instObj 282 d)) (gd : g d = none) (hB : W.B.get? d = none) (hD : DictV W g md mp sec)
    (h : ∀ g' o m, Sub g g' → g' d = some o → DSo 2 m o → m (Str.ofString "pairs") = some (.ref md) → m (Str.ofString "is_second") = some (.bool sec) → m (Str.ofString "find") = none → Q .none g') :
    RC W (n+6) L l (up g d (dictOf [] 0)) (.call (.ref 267) ⟨[.ref x, .ref md, .bool sec], []⟩) Q := by
  have h0 := DSo.nil
  have hxd : x ≠ d := fun q => by rw [q, gd] at hx; cases hx
  refine RC_def (binds := [(Str.ofString "self", .ref x), (Str.ofString "pairs", .ref md), (Str.ofString "is_second", .bool sec)]) (by k_is) (by k_is) (fun _ X => binds_K X rfl (by k_is) rfl rfl rfl) rfl rfl rfl rfl rfl fun L' => ?_
  repeat walk_at "s"
  rename_i o1 ho1
  have s1 : Sub g (up g d o1) := Sub.refl.up gd
  have hD1 := hD.sub s1
  generalize hg1 : up g d o1 = g1 at *
  have hd1 : g1 d = some o1 := by rw [← hg1]; exact up_same
  refine R_mono (Q := fun v g' l' => v = .bool sec ∧ Sub g1 g' ∧ l' = [(Str.ofString "self", Value.ref x), (Str.ofString "pairs", .ref md), (Str.ofString "is_second", .bool sec)].reverse) ?_ ?_
  · refine R_or2 ?_
    repeat walk_at "s"
    refine ⟨fun q => ?_, fun q => ?_⟩
    · subst q; exact ⟨rfl, Sub.refl, rfl⟩
    · subst q
      obtain ⟨ys, hdt, hyl, hyv, _⟩ := hD1.h
      obtain ⟨es, ep, hrw, hes⟩ := hdt.rw
      repeat walk_at "s"
      refine R_getValues hrw ?_
      repeat walk_at "s"
      refine R_values hD1.lo hrw fun v gv Bv => ?_
      have sv : Sub g1 (up g1 v (viewO md)) := Sub.refl.up gv
      have hrw' : RwG (up g1 v (viewO md)) md es ep := let ⟨o, e, r⟩ := hrw; ⟨o, sv _ _ e, r⟩
      have hel : es.size = ys.length := by rw [← Array.length_toList, hes, List.length_map]
      repeat walk_at "s"
      refine R_ofRC (moves_second (fun n => Src.values up_same hrw') (fun b hb => by subst hb; obtain ⟨o, e, _⟩ := hrw'; exact ⟨o, e⟩) (by omega) ?_ fun g' hs' => ?_)
      · rintro i v ⟨e, he, rfl⟩
        have he' : es.toList[i]? = some e := by rw [Array.getElem?_toList]; exact he
        rw [hes, List.getElem?_map] at he'
        cases hy : ys[i]? with
        | none => rw [hy] at he'; cases he'
        | some y =>
          rw [hy] at he'
          cases he'
          obtain ⟨⟨p, q⟩, hp, hz⟩ := hyv y (List.mem_of_getElem? hy)
          have hz := hz rfl
          simp only at hz
          subst hz
          exact ⟨p, hp.sub sv⟩
      · exact ⟨rfl, sv.trans hs', rfl⟩
  · rintro _ g2 _ ⟨rfl, s2, rfl⟩
    repeat walk_at "s"
    refine R_setNewG ho1 (s2 _ _ (s1 _ _ hx)) (s2 _ _ hd1) hB (by decide) cls_s282 cls_p282 (by k_is) cls_h282 rfl fun o2 ho2 => ?_
    repeat walk_at "s"
    exact h _ o2 _ ((s1.trans s2).up' gd) up_same ho2 rfl rfl rfl

theorem pg_find {W : Wd KF} {n : Nat} {L : Addr} {l : Lm} {g S : Gh} {x d md : Addr} {k : Nat} {m : Str → Option Value} {mp : Int → Int → Option (V4 × V4)} {sec : Bool} {a b : Int} {t u : Tok} {Q : Value → Gh → Prop} (hs : Sub S g) (hx : Ins S 282 x d k m) (hm : m (Str.ofString "pairs") = some (.ref md)) (hD : DictV W S md mp sec)
    (h : ∀ g' v, Sub g g' → FoundAs S v (mp a b) → Q v g') : RC W (n+1) L l g (.call (.ref 274) ⟨[.ref x, .int a t, .int b u], []⟩) Q := by
  obtain ⟨ys, hdt, _, _, hf⟩ := hD.h
  have hx' := hx.sub hs
  have hdt' := hdt.sub hs
  refine RC_def (binds := [(Str.ofString "self", .ref x), (Str.ofString "first", .int a t), (Str.ofString "second", .int b u)]) (by k_is) (by k_is) (fun _ _ => BindsTo.of_eq rfl) rfl rfl rfl rfl rfl fun L' => ?_
  repeat walk_at "s"
  refine R_getGetT hdt' ?_
  repeat walk_at "s"
  rename_i c gc Bc
  have sc : Sub g (up g c (tupO [.int a t, .int b u])) := Sub.refl.up gc
  refine R_getT1 (ks := [a, b]) (hdt'.sub sc) ⟨_, ⟨_, up_same⟩, .cons intKind_isI (.cons intKind_isI .nil)⟩ hD.lo ?_
  repeat walk_at "s"
  exact h _ _ sc (hf a b)
theorem has_second_pg {W : Wd KF} {n : Nat} {L : Addr} {l : Lm} {g : Gh} {x d : Addr} {k : Nat} {m : Str → Option Value} {v : Value} {Q : Value → Gh → Prop} (hx : Ins g 282 x d k m) (hm : m (Str.ofString "is_second") = some v) (hv : handedIn v = true)
    (h : Q v g) : RC W (n+1) L l g (.call (.ref 325) ⟨[.ref x], []⟩) Q := by
  refine RC_def (binds := [(Str.ofString "table", .ref x)]) (by k_is) (by k_is) (fun _ _ => BindsTo.of_eq rfl) rfl rfl rfl rfl rfl fun L' => ?_
  repeat walk_at "s"
  refine R_getI hx (by k_is) cls_h282 (by k_is) (by k_is) hm hv ?_
  repeat walk_at "s"
  exact h
theorem pg_tab {W : Wd KF} {S : Gh} {x d md : Addr} {k : Nat} {m : Str → Option Value} {mp : Int → Int → Option (V4 × V4)} {sec : Bool} (hx : Ins S 282 x d k m) (h1 : m (Str.ofString "pairs") = some (.ref md)) (h2 : m (Str.ofString "is_second") = some (.bool sec)) (h3 : m (Str.ofString "find") = none) (hD : DictV W S md mp sec) : Tab W S x mp sec where
  f := ⟨274, by k_is, fun n env g l pl Q hs q => R_getM (hx.sub hs) (by k_is) (by k_is) (by k_is) h3 q, fun n L l g a b t u Q hs _ _ _ _ q => pg_find hs hx h1 hD q⟩
  sec := fun n L l g Q hs q => has_second_pg (hx.sub hs) h2 rfl q
theorem new_pg {W : Wd KF} {n : Nat} {env : Env} {l : Lm} {g : Gh} {md : Addr} {mp : Int → Int → Option (V4 × V4)} {sec : Bool} {Q : Value → Gh → Lm → Prop} (hD : DictV W g md mp sec) (h : ∀ g' x, Sub g g' → g x = none → Tab W g' x mp sec → Q (.ref x) g' l) :
    R W (n + 7) env g l (call (.ref 282) [.ref md, .bool sec]) Q :=
  R_make cls_m282 cls_i282 cls_f282 fun x d gx gd Bx Bd => pg_init (g := up g x (instObj 282 d)) up_same gd Bd (hD.sub (Sub.refl.up gx)) fun g' o m hs ho hd h1 h2 h3 => ⟨rfl, h g' x ((Sub.refl.up gx).trans hs) gx (pg_tab ⟨hs _ _ up_same, o, ho, hd⟩ h1 h2 h3 (hD.sub ((Sub.refl.up gx).trans hs)))⟩

def FoundT (S : Gh) (o : Option Value) (p : Option (V4 × V4)) : Prop := match o, p with
  | none, none => True
  | some v, some p => PairT S v p
  | _, _ => False
structure DictT (W : Wd KF) (S : Gh) (d : Addr) (mp : Int → Int → Option (V4 × V4)) (sec : Bool) (N : Nat) : Prop where
  lo : (d == sysModules) = false
  base : W.B.get? d = none
  h : ∃ xs, DT W S d xs ∧ xs.length ≤ N ∧ (∀ y ∈ xs, ∃ p, PairT S y.2.2 p ∧ (sec = false → p.2 = V4.zero)) ∧ ∀ a b, FoundT S (look xs [a, b]) (mp a b)
theorem FoundT.mono {S S' : Gh} {o : Option Value} {p : Option (V4 × V4)} (h : FoundT S o p) (s : ∀ v p, PairT S v p → PairT S' v p) : FoundT S' o p := by
  cases o <;> cases p <;> first | exact h | exact s _ _ h
theorem DictT.sub {W : Wd KF} {S S' : Gh} {d : Addr} {mp : Int → Int → Option (V4 × V4)} {sec : Bool} {N : Nat} (h : DictT W S d mp sec N) (s : Sub S S') : DictT W S' d mp sec N :=
  ⟨h.lo, h.base, let ⟨ys, a, b, c, e⟩ := h.h; ⟨ys, a.sub s, b, fun y hy => let ⟨p, q, r⟩ := c y hy; ⟨p, q.sub s, r⟩, fun x y => (e x y).mono fun _ _ q => q.sub s⟩⟩
theorem TU.other {S : Gh} {a d : Addr} {vs : List Value} {o' : Obj} (h : TU S a vs) (hd : a ≠ d) : TU (up S d o') a vs := let ⟨k, e⟩ := h; ⟨k, (up_ne hd).trans e⟩
theorem tup_ne {S : Gh} {a d : Addr} {vs : List Value} {o : Obj} (h : TU S a vs) (ho : S d = some o) (hc : o.cls ≠ .type "tuple") : a ≠ d := by
  obtain ⟨k, e⟩ := h
  intro q
  rw [q, ho] at e
  cases e
  exact hc rfl
theorem dict_ne_tuple : Value.type "dict" ≠ Value.type "tuple" := fun h => by injection h with h; exact absurd h (by decide)
theorem list_ne_tuple : Value.type "list" ≠ Value.type "tuple" := fun h => by injection h with h; exact absurd h (by decide)
theorem PairT.other {S : Gh} {d : Addr} {v : Value} {p : V4 × V4} {o o' : Obj} (h : PairT S v p) (ho : S d = some o) (hc : o.cls ≠ .type "tuple") : PairT (up S d o') v p := by
  obtain ⟨t, x, y, a, b, ⟨t1, t2, t3, t4, c⟩, ⟨u1, u2, u3, u4, e⟩⟩ := h
  exact ⟨t, x, y, a, b.other (tup_ne b ho hc), ⟨t1, t2, t3, t4, c.other (tup_ne c ho hc)⟩, ⟨u1, u2, u3, u4, e.other (tup_ne e ho hc)⟩⟩
theorem KeyT.other {W : Wd KF} {S : Gh} {d a : Addr} {ks : List Int} {o o' : Obj} (h : KeyT W S ks a) (ho : S d = some o) (hc : o.cls ≠ .type "tuple") : KeyT W (up S d o') ks a :=
  let ⟨vs, t, i⟩ := h; ⟨vs, t.other (tup_ne t ho hc), i⟩
def updM (mp : Int → Int → Option (V4 × V4)) (x y : Int) (p : V4 × V4) : Int → Int → Option (V4 × V4) := fun a b => if a = x ∧ b = y then some p else mp a b
theorem stored_len {xs : List (List Int × Addr × Value)} {ks : List Int} {a : Addr} {v : Value} : (storedH xs ks a v).length ≤ xs.length + 1 := by
  unfold storedH; split <;> simp
theorem R_store {W : Wd KF} {n : Nat} {env : Env} {l : Lm} {S g : Gh} {d a : Addr} {x y : Int} {v : Value} {p : V4 × V4} {mp : Int → Int → Option (V4 × V4)} {sec : Bool} {N : Nat} {Q : Unit → Gh → Lm → Prop} (hs : Sub S g) (hD : DictT W S d mp sec N) (hk : KeyT W S [x, y] a) (hp : PairT S v p) (hz : sec = false → p.2 = V4.zero) (hN : N ≤ 1000)
    (h : ∀ o o', S d = some o → DictT W (up S d o') d (updM mp x y p) sec (N + 1) → Q () (up g d o') l) : R W n env g l (setItem (.ref d) (.ref a) v) Q := by
  obtain ⟨xs, hdt, hxl, hxv, hf⟩ := hD.h
  obtain ⟨o, ho, hdo⟩ := hdt.obj
  have hc : o.cls ≠ .type "tuple" := by rw [hdo.dict.1]; exact dict_ne_tuple
  refine R_setT (hdt.sub hs) (hk.sub hs) hD.base (by omega) fun o' ho' => h o o' ho ⟨hD.lo, hD.base, storedH xs [x, y] a v, ⟨⟨o', up_same, ho'⟩, fun z hz => ?_⟩, Nat.le_trans stored_len (by omega), fun z hz' => ?_, fun b c => ?_⟩
  · rcases mem_storedH hz with ⟨w, hw, e1, e2⟩ | ⟨e1, e2⟩
    · rw [e1, e2]; exact (hdt.keys w hw).other ho hc
    · rw [e1, e2]; exact hk.other ho hc
  · have hn : ((storedH xs [x, y] a v).map (·.1)).Nodup := ho'.nodup
    have := look_mem hn hz'
    rw [look_stored] at this
    split at this
    · cases this; exact ⟨p, hp.other ho hc, hz⟩
    · rename_i q
      rcases mem_storedH hz' with ⟨w, hw, e1, e2⟩ | ⟨e1, e2⟩
      · have := this
        rw [e1, look_mem hdo.nodup hw] at this
        have e := Option.some.inj this
        obtain ⟨p', q1, q2⟩ := hxv w hw
        exact ⟨p', e ▸ q1.other ho hc, q2⟩
      · exact absurd e1 q
  · rw [look_stored]
    unfold updM
    by_cases q : b = x ∧ c = y
    · obtain ⟨rfl, rfl⟩ := q
      rw [if_pos rfl, if_pos ⟨rfl, rfl⟩]
      exact hp.other ho hc
    · rw [if_neg fun e => q (by injection e with e1 e2; injection e2 with e2 _; exact ⟨e1, e2⟩), if_neg q]
      exact (hf b c).mono fun _ _ w => w.other ho hc

def menuV (k : Int) : V4 := if k = 0 then ⟨0, 0, -30, 0⟩ else if k = 1 then V4.zero else if k = 2 then ⟨5, -7, 0, 11⟩ else ⟨1, 2, 3, 4⟩
structure Menu (g : Gh) : Prop where
  list : TU g 481 [.ref 477, .ref 478, .ref 479, .ref 480]
  m0 : T4 g 477 (menuV 0)
  m1 : T4 g 478 (menuV 1)
  m2 : T4 g 479 (menuV 2)
  m3 : T4 g 480 (menuV 3)
theorem menu_base {W : Wd KF} {g : Gh} (hb : ∀ b o, W.B.get? b = some o → g b = some o) : Menu g :=
  ⟨⟨_, base_of hb (by k_is)⟩, ⟨_, _, _, _, _, base_of hb (by k_is)⟩, ⟨_, _, _, _, _, base_of hb (by k_is)⟩, ⟨_, _, _, _, _, base_of hb (by k_is)⟩, ⟨_, _, _, _, _, base_of hb (by k_is)⟩⟩
theorem Menu.sub {g g' : Gh} (m : Menu g) (s : Sub g g') : Menu g' := ⟨m.list.sub s, m.m0.sub s, m.m1.sub s, m.m2.sub s, m.m3.sub s⟩
theorem Menu.at {g : Gh} (m : Menu g) {k : Int} (h0 : 0 ≤ k) (h1 : k < 4) : ∃ a, [Value.ref 477, .ref 478, .ref 479, .ref 480][k.toNat]? = some (.ref a) ∧ T4 g a (menuV k) := by
  rcases (show k = 0 ∨ k = 1 ∨ k = 2 ∨ k = 3 by omega) with rfl | rfl | rfl | rfl
  · exact ⟨_, rfl, m.m0⟩
  · exact ⟨_, rfl, m.m1⟩
  · exact ⟨_, rfl, m.m2⟩
  · exact ⟨_, rfl, m.m3⟩
theorem PG.tup {W : Wd KF} {p cl a : Addr} {b : Int} {S g : Gh} {vs : List Value} (h : PG W p cl b S g) (t : TU g a vs) : TU S a vs := by
  obtain ⟨o, _, _, _, e, d⟩ := h.pen
  obtain ⟨_, _, _, _, rfl⟩ := d.obj
  obtain ⟨_, _, ⟨k, ec⟩, _⟩ := d.cells
  have h1 := tup_ne t e list_ne_tuple
  have h2 := tup_ne t ec list_ne_tuple
  obtain ⟨k', e'⟩ := t
  refine ⟨k', ?_⟩
  rw [h.off]
  unfold off2
  rw [if_neg (by intro q; rcases q with q | q; exact h1 q; exact h2 q)]
  exact e'
theorem PG.menu {W : Wd KF} {p cl : Addr} {b : Int} {S g : Gh} (h : PG W p cl b S g) (m : Menu g) : Menu S :=
  ⟨h.tup m.list, let ⟨_, _, _, _, t⟩ := m.m0; ⟨_, _, _, _, h.tup t⟩, let ⟨_, _, _, _, t⟩ := m.m1; ⟨_, _, _, _, h.tup t⟩, let ⟨_, _, _, _, t⟩ := m.m2; ⟨_, _, _, _, h.tup t⟩, let ⟨_, _, _, _, t⟩ := m.m3; ⟨_, _, _, _, h.tup t⟩⟩

theorem one_nil {k : Int} : Value.int k 0 = Value.int k 0 := rfl
theorem law_pairs {W : Wd KF} {n : Nat} {L : Addr} {l : Lm} {S g : Gh} {p cl : Addr} {b : Int} {sec : Bool} {Q : Value → Gh → Prop} (hp : PG W p cl b S g) (hb : b ≤ 500)
    (h : ∀ S' g' d mp, PG W p cl (b + 40) S' g' → Sub S S' → S d = none → DictT W S' d mp sec 10 → Q (.ref d) g') : RC W (n+3) L l g (.call (.ref 516) ⟨[.ref p, .bool sec], []⟩) Q := by
  refine RC_def (binds := [(Str.ofString "pen", .ref p), (Str.ofString "is_second", .bool sec)]) (by k_is) (by k_is) (fun _ _ => BindsTo.of_eq rfl) rfl rfl rfl rfl rfl fun L' => ?_
  refine R_base fun hbase => ?_
  have hmenu := hp.menu (menu_base hbase)
  repeat walk_at "s"
  rename_i d lo gd Bd
  obtain ⟨Sd, hp1⟩ := hp.alloc (o := emptyD) gd
  refine R_for (fun _ => rfl) ?_
  repeat walk_at "s"
  refine R_ofRC (drawP hp1 (by decide) (by decide) (by omega) fun k t g2 hk0 hk1 hp2 => ?_)
  repeat walk_at "s"
  refine R_range1 fun r t1 t2 t3 gr Br => ?_
  obtain ⟨Sr, hp3⟩ := hp2.alloc (o := rngO 0 k t1 t2 t3) gr
  refine ⟨_, _, _, Src.range (N := k.toNat) up_same (by decide) (by decide) (by omega) (by omega) (by omega), fun b hb => hb.elim, fun i g' l' => LK [(Str.ofString "pen", .ref p), (Str.ofString "is_second", .bool sec), (Str.ofString "found", .ref d)] l' ∧ ∃ S' mp, PG W p cl (b + 1 + 4 * i) S' g' ∧ Sub S S' ∧ DictT W S' d mp sec i, ?_, fun i g' l' _ b o hb _ => hb.elim, ?_, ?_⟩
  · refine ⟨.cons rfl (.cons rfl (.cons rfl .nil)), _, fun _ _ => none, hp3.wait (by omega), (Sub.refl.up Sd).up Sr, lo, Bd, [], ⟨⟨emptyD, up_old Sr up_same, DTo.nil⟩, fun x hx => by cases hx⟩, Nat.le_refl _, fun y hy => (by cases hy), fun a b => trivial⟩
  · rintro i v g' l' hi ⟨tv, rfl⟩ ⟨hl, S', mp, hp4, hs4, hD⟩
    refine R_known hl ?_
    have hm4 := hmenu.sub hs4
    repeat walk_at "s"
    refine R_ofRC (drawP hp4 (by decide) (by decide) (by omega) fun k1 t1 g5 h10 h11 hp5 => ?_)
    repeat walk_at "s"
    refine R_ofRC (drawP hp5 (by decide) (by decide) (by omega) fun k2 t2 g6 h20 h21 hp6 => ?_)
    repeat walk_at "s"
    rename_i ta _ _ tb ka gka Bka _
    have Ska := (hp6.alloc (o := emptyD) gka).1
    repeat walk_at "s"
    refine R_ofRC (drawP (hp6.alloc gka).2 (by decide) (by decide) (by omega) fun k3 t3 g7 h30 h31 hp7 => ?_)
    obtain ⟨a3, ha3, hT3⟩ := hm4.at h30 h31
    have hs7 : Sub S' g7 := (Sub.refl.up Ska).trans hp7.sub
    repeat walk_at "s"
    refine R_itemT (hm4.list.sub hs7) h30 (by omega) ha3 rfl ?_
    repeat walk_at "s"
    refine R_mono (Q := fun v g' l' => ∃ k4 t4, v = .int k4 t4 ∧ 0 ≤ k4 ∧ k4 < 4 ∧ (sec = false → k4 = 1) ∧ PG W p cl (b + 1 + 4 * (i + 1 : Nat)) (up S' ka (tupO [Value.int (1 + k1) ta, Value.int (1 + k2) tb])) g' ∧ LK [(Str.ofString "pen", .ref p), (Str.ofString "is_second", .bool sec), (Str.ofString "found", .ref d), (Str.ofString "key", .ref ka)] l') ?_ ?_
    · walk_at "ife"
      repeat walk_at "s"
      refine ⟨fun q => ?_, fun q => ?_⟩
      · repeat walk_at "s"
        refine R_ofRC (drawP hp7 (by decide) (by decide) (by omega) fun k4 t4 g8 h40 h41 hp8 => ?_)
        exact ⟨k4, t4, rfl, h40, h41, fun z => (by rw [q] at z; cases z), hp8.wait (by omega), .cons rfl (.cons rfl (.cons rfl (.cons rfl .nil)))⟩
      · repeat walk_at "s"
        exact ⟨1, _, rfl, by decide, by decide, fun _ => rfl, hp7.wait (by omega), .cons rfl (.cons rfl (.cons rfl (.cons rfl .nil)))⟩
    · rintro _ g8 l8 ⟨k4, t4, rfl, h40, h41, hk4, hp8, hl8⟩
      refine R_known hl8 ?_
      obtain ⟨a4, ha4, hT4⟩ := hm4.at h40 h41
      have hs8 : Sub S' g8 := (Sub.refl.up Ska).trans hp8.sub
      refine R_itemT (hm4.list.sub hs8) h40 (by omega) ha4 rfl ?_
      repeat walk_at "s"
      rename_i v gv Bv
      obtain ⟨Sv, hp9⟩ := hp8.alloc (o := tupO [.ref a3, .ref a4]) gv
      have hka : KeyT W (up (up S' ka (tupO [Value.int (1 + k1) ta, Value.int (1 + k2) tb])) v (tupO [.ref a3, .ref a4])) [1 + k1, 1 + k2] ka := ⟨_, ⟨_, up_old Sv up_same⟩, .cons intKind_isI (.cons intKind_isI .nil)⟩
      have sS : Sub S' (up (up S' ka (tupO [Value.int (1 + k1) ta, Value.int (1 + k2) tb])) v (tupO [.ref a3, .ref a4])) := (Sub.refl.up Ska).up Sv
      have hpv : PairT (up (up S' ka (tupO [Value.int (1 + k1) ta, Value.int (1 + k2) tb])) v (tupO [.ref a3, .ref a4])) (.ref v) (menuV k3, menuV k4) := ⟨v, a3, a4, rfl, ⟨_, up_same⟩, hT3.sub sS, hT4.sub sS⟩
      refine R_store hp9.sub (hD.sub sS) hka hpv (fun z => by rw [hk4 z]; rfl) (by omega) fun o o' ho hD' => ?_
      repeat walk_at "s"
      refine ⟨.cons rfl (.cons rfl (.cons rfl .nil)), _, _, hp9.change ho, ?_, hD'⟩
      exact ((hs4.trans sS).up' Sd)
  · rintro g' l' ⟨hl, S', mp, hp4, hs4, hD⟩
    refine R_known hl ?_
    repeat walk_at "s"
    exact h S' g' d mp (hp4.wait (by omega)) hs4 (hp.sub.none gd) ⟨hD.lo, hD.base, let ⟨xs, a, b, c, e⟩ := hD.h; ⟨xs, a, by omega, c, e⟩⟩

theorem TU.uniq {g : Gh} {a : Addr} {vs ws : List Value} (x : TU g a vs) (y : TU g a ws) : vs = ws := by
  obtain ⟨k, e⟩ := x
  obtain ⟨k', e'⟩ := y
  rw [e] at e'
  injection e' with e'
  injection e' with _ _ h
  injection h with h
  have := congrArg Array.toList h
  simpa using this
theorem T4.uniq {g : Gh} {a : Addr} {v w : V4} (x : T4 g a v) (y : T4 g a w) : v = w := by
  obtain ⟨_, _, _, _, x⟩ := x
  obtain ⟨_, _, _, _, y⟩ := y
  have := x.uniq y
  obtain ⟨a, b, c, d⟩ := v
  obtain ⟨a', b', c', d'⟩ := w
  simp at this
  simp [this]
theorem PairT.uniq {g : Gh} {v : Value} {p q : V4 × V4} (x : PairT g v p) (y : PairT g v q) : p = q := by
  obtain ⟨t, a, b, rfl, h1, h2, h3⟩ := x
  obtain ⟨t', a', b', e, k1, k2, k3⟩ := y
  cases e
  have := h1.uniq k1
  simp at this
  obtain ⟨rfl, rfl⟩ := this
  exact Prod.ext (h2.uniq k2) (h3.uniq k3)
theorem Pen.sub {W : Wd KF} {g g' : Gh} {p cl : Addr} {b : Int} (h : Pen W g p cl b) (s : Sub g g') : Pen W g' p cl b := by
  obtain ⟨op, sp, c, e, hp, ⟨d1, ⟨vs, ns, hc, d2, d3⟩, d4, d5, d6, d7, d8, d9, d10⟩⟩ := h
  exact ⟨op, sp, c, e, s _ _ hp, ⟨d1, ⟨vs, ns, hc.sub s, d2, d3⟩, d4, d5, d6, d7, d8, d9, d10⟩⟩
theorem off2_mono {p cl : Addr} {g g' : Gh} (s : Sub g g') : Sub (off2 p cl g) (off2 p cl g') := fun b o e => by
  unfold off2 at e ⊢
  by_cases q : b = p ∨ b = cl
  · rw [if_pos q] at e; cases e
  · rw [if_neg q] at e ⊢; exact s _ _ e
theorem PG.grow {W : Wd KF} {p cl : Addr} {b : Int} {S g g' : Gh} (h : PG W p cl b S g) (s : Sub g g') : PG W p cl b (off2 p cl g') g' ∧ Sub S (off2 p cl g') :=
  ⟨⟨h.pen.sub s, rfl⟩, by rw [h.off]; exact off2_mono s⟩
theorem off2_new {p cl c : Addr} {g : Gh} {o : Obj} (h1 : c ≠ p) (h2 : c ≠ cl) (e : g c = some o) : off2 p cl g c = some o := by
  unfold off2; rw [if_neg (by intro q; rcases q with q | q; exact h1 q; exact h2 q)]; exact e

structure MadeL (W : Wd KF) (g1 g' : Gh) (xs : List (List Int × Addr × Value)) (ys : List Value) (i : Nat) : Prop where
  len : ys.length = i
  at_ : ∀ (j : Nat) (v : Value), ys[j]? = some v → ∃ y v' t, xs[j]? = some y ∧ v = .ref t ∧ TU g' t [.ref y.2.1, v'] ∧ ∃ p, PairT g1 y.2.2 p ∧ PairV g' v' p
theorem MadeL.sub {W : Wd KF} {g1 g' g'' : Gh} {xs : List (List Int × Addr × Value)} {ys : List Value} {i : Nat} (m : MadeL W g1 g' xs ys i) (s : Sub g' g'') : MadeL W g1 g'' xs ys i :=
  ⟨m.len, fun j v e => let ⟨y, v', t, a, b, c, p, d, e⟩ := m.at_ j v e; ⟨y, v', t, a, b, c.sub s, p, d, e.sub s⟩⟩

structure MadeD (W : Wd KF) (g1 g2 g'' : Gh) (D : Addr) (xs : List (List Int × Addr × Value)) (sec : Bool) (i : Nat) : Prop where
  lo : (D == sysModules) = false
  fresh : g2 D = none
  base : W.B.get? D = none
  sub : Sub g2 g''
  h : ∃ ys o, g'' D = some o ∧ DTo W ys o ∧ (∀ y ∈ ys, KeyT W g2 y.1 y.2.1) ∧ ys.length ≤ i ∧ (∀ y ∈ ys, ∃ p, PairV g2 y.2.2 p ∧ (sec = false → p.2 = V4.zero)) ∧
    (∀ (j : Nat) (x : List Int × Addr × Value), j < i → xs[j]? = some x → ∃ v' p, look ys x.1 = some v' ∧ PairT g1 x.2.2 p ∧ PairV g2 v' p) ∧
    ∀ ks, (∀ (j : Nat) (x : List Int × Addr × Value), j < i → xs[j]? = some x → x.1 ≠ ks) → look ys ks = none

theorem R_madeDict {W : Wd KF} {n : Nat} {env : Env} {l : Lm} {g1 g2 : Gh} {a d : Addr} {xs : List (List Int × Addr × Value)} {vs : List Value} {sec : Bool} {mp : Int → Int → Option (V4 × V4)} {Q : Value → Gh → Lm → Prop} (hl : LI g2 a vs) (hm : MadeL W g1 g2 xs vs xs.length) (hs : Sub g1 g2) (hdt : DT W g1 d xs) (hx : xs.length ≤ 1000)
    (hz : ∀ y ∈ xs, ∃ p, PairT g1 y.2.2 p ∧ (sec = false → p.2 = V4.zero)) (hf : ∀ a b, FoundT g1 (look xs [a, b]) (mp a b)) (h : ∀ D g3, Sub g2 g3 → DictV W g3 D mp sec → Q (.ref D) g3 l) : R W (n + 1) env g2 l (call (.type "dict") [.ref a]) Q := by
  have hnd : (xs.map (·.1)).Nodup := let ⟨_, _, hdo⟩ := hdt.obj; hdo.nodup
  have hvl : vs.length = xs.length := hm.len
  refine R_dictOf hl (fun D i g'' => MadeD W g1 g2 g'' D xs sec i) (fun D lo gD BD => ⟨lo, gD, BD, Sub.refl.up gD, [], emptyD, up_same, DTo.nil, fun y hy => (by cases hy), Nat.le_refl _, fun y hy => (by cases hy), fun j x hj => (by omega), fun _ _ => rfl⟩) (fun D i g' o m e => m.sub _ _ e) ?_ ?_
  · intro D i g' hi m
    obtain ⟨ys, o, ho, hdo, hk, hyl, hyv, h1, h2⟩ := m.h
    obtain ⟨v, hv⟩ : ∃ v, vs[i]? = some v := ⟨vs[i], by simp [hi]⟩
    obtain ⟨x, v', t, hxi, rfl, htu, p, hpt, hpv⟩ := hm.at_ i v hv
    have hxm := List.mem_of_getElem? hxi
    have hkx : KeyT W g2 x.1 x.2.1 := (hdt.keys x hxm).sub hs
    refine ⟨t, .ref x.2.1, v', hv, htu.sub m.sub, R_dsetT (xs := ys) ⟨⟨o, ho, hdo⟩, fun y hy => (hk y hy).sub m.sub⟩ (hkx.sub m.sub) m.base (by omega) fun o' ho' => ⟨rfl, m.lo, m.fresh, m.base, m.sub.up' m.fresh, storedH ys x.1 x.2.1 v', o', up_same, ho', fun y hy => ?_, Nat.le_trans stored_len (by omega), fun y hy => ?_, fun j z hj hzj => ?_, fun ks hks => ?_⟩⟩
    · rcases mem_storedH hy with ⟨w, hw, e1, e2⟩ | ⟨e1, e2⟩
      · rw [e1, e2]; exact hk w hw
      · rw [e1, e2]; exact hkx
    · have := look_mem ho'.nodup hy
      rw [look_stored] at this
      split at this
      · have e := Option.some.inj this
        rw [← e]
        obtain ⟨p', q1, q2⟩ := hz x hxm
        rw [hpt.uniq q1] at hpv
        exact ⟨p', hpv, q2⟩
      · rename_i q
        rcases mem_storedH hy with ⟨w, hw, e1, e2⟩ | ⟨e1, e2⟩
        · rw [e1, look_mem hdo.nodup hw] at this
          have e := Option.some.inj this
          obtain ⟨p', q1, q2⟩ := hyv w hw
          exact ⟨p', e ▸ q1, q2⟩
        · exact absurd e1 q
    · rw [look_stored]
      by_cases q : z.1 = x.1
      · rw [if_pos q]
        have hji : j = i := by
          have a1 : (xs.map (·.1))[j]? = some z.1 := by rw [List.getElem?_map, hzj]; rfl
          have a2 : (xs.map (·.1))[i]? = some x.1 := by rw [List.getElem?_map, hxi]; rfl
          exact (List.getElem?_inj (by rw [List.length_map]; exact (List.getElem?_eq_some_iff.mp hzj).1) hnd).mp (a1.trans (q ▸ a2.symm))
        subst hji
        rw [hxi] at hzj
        cases hzj
        exact ⟨v', p, rfl, hpt, hpv⟩
      · rw [if_neg q]
        refine h1 j z ?_ hzj
        rcases Nat.lt_or_ge j i with h | h
        · exact h
        · have : j = i := by omega
          subst this
          rw [hxi] at hzj
          cases hzj
          exact absurd rfl q
    · rw [look_stored, if_neg (Ne.symm (hks i x (by omega) hxi))]
      exact h2 ks fun j z hj hzj => hks j z (by omega) hzj
  · intro D g3 m
    rw [hm.len] at m
    obtain ⟨ys, o, ho, hdo, hk, hyl, hyv, h1, h2⟩ := m.h
    refine h D g3 m.sub ⟨m.lo, ys, ⟨⟨o, ho, hdo⟩, fun y hy => (hk y hy).sub m.sub⟩, by omega, fun y hy => let ⟨p, a, b⟩ := hyv y hy; ⟨p, a.sub m.sub, b⟩, fun a b => ?_⟩
    have hab := hf a b
    cases hlx : look xs [a, b] with
    | none =>
      rw [hlx] at hab
      have : look ys [a, b] = none := h2 _ fun j z hj hzj q => by
        have := look_mem hnd (List.mem_of_getElem? hzj)
        rw [q, hlx] at this
        cases this
      rw [this]
      cases hmp : mp a b with
      | none => rfl
      | some p => rw [hmp] at hab; exact hab.elim
    | some v =>
      rw [hlx] at hab
      cases hmp : mp a b with
      | none => rw [hmp] at hab; exact hab.elim
      | some p =>
        rw [hmp] at hab
        obtain ⟨x, hxm, hx1, hx2⟩ : ∃ x ∈ xs, x.1 = [a, b] ∧ x.2.2 = v := by
          unfold look atKey at hlx
          cases hq : xs.find? (fun x => decide (x.1 = [a, b])) with
          | none => rw [hq] at hlx; cases hlx
          | some x => rw [hq] at hlx; exact ⟨x, List.mem_of_find?_eq_some hq, (by have := List.find?_some hq; simpa using this), by simpa using hlx⟩
        obtain ⟨j, hj⟩ := List.mem_iff_getElem?.mp hxm
        obtain ⟨v', p', q1, q2, q3⟩ := h1 j x (List.getElem?_eq_some_iff.mp hj).1 hj
        rw [hx1] at q1
        rw [q1]
        rw [hx2] at q2
        have : p' = p := q2.uniq hab
        subst this
        obtain ⟨t, y, z, a1, a2, a3, a4⟩ := q3.sub m.sub
        exact ⟨t, y, z, a1, a2, a3, a4⟩

def Seqy (o : Obj) : Prop := (∃ vs k, o.data = .seq vs k) ∨ ∃ es k, o.data = .dict es k
theorem TU.off {S : Gh} {a c : Addr} {vs : List Value} {o' : Obj} (h : TU S a vs) (hc : ∀ a o, S a = some o → Seqy o → a ≠ c) : TU (up S c o') a vs := let ⟨k, e⟩ := h; ⟨k, (up_ne (hc _ _ e (.inl ⟨_, _, rfl⟩))).trans e⟩
theorem PairT.off {S : Gh} {c : Addr} {v : Value} {p : V4 × V4} {o' : Obj} (h : PairT S v p) (hc : ∀ a o, S a = some o → Seqy o → a ≠ c) : PairT (up S c o') v p := by
  obtain ⟨t, x, y, a, b, ⟨t1, t2, t3, t4, e⟩, ⟨u1, u2, u3, u4, f⟩⟩ := h
  exact ⟨t, x, y, a, b.off hc, ⟨t1, t2, t3, t4, e.off hc⟩, ⟨u1, u2, u3, u4, f.off hc⟩⟩
theorem DictT.off {W : Wd KF} {S : Gh} {d c : Addr} {mp : Int → Int → Option (V4 × V4)} {sec : Bool} {N : Nat} {o' : Obj} (h : DictT W S d mp sec N) (hc : ∀ a o, S a = some o → Seqy o → a ≠ c) : DictT W (up S c o') d mp sec N := by
  obtain ⟨xs, hdt, a, b, e⟩ := h.h
  obtain ⟨o, ho, hdo⟩ := hdt.obj
  obtain ⟨es, ep, hda, _⟩ := hdo.data
  exact ⟨h.lo, h.base, xs, ⟨⟨o, (up_ne (hc _ _ ho (.inr ⟨_, _, hda⟩))).trans ho, hdo⟩, fun y hy => let ⟨vs, t, i⟩ := hdt.keys y hy; ⟨vs, t.off hc, i⟩⟩, a, fun y hy => let ⟨p, q, r⟩ := b y hy; ⟨p, q.off hc, r⟩, fun x y => (e x y).mono fun _ _ w => w.off hc⟩
theorem cell_off {S : Gh} {c : Addr} {oc : Obj} {v : Option Value} (hc : S c = some oc) (hcd : oc.data = .cell v) : ∀ a o, S a = some o → Seqy o → a ≠ c := fun a o ha hs q => by
  rw [q, hc] at ha
  cases ha
  rcases hs with ⟨vs, k, h⟩ | ⟨es, k, h⟩ <;> rw [hcd] at h <;> cases h

theorem law_glyph_table {W : Wd KF} {n : Nat} {L : Addr} {l : Lm} {S g : Gh} {p cl : Addr} {b : Int} {sec : Bool} {Q : Value → Gh → Prop} (hp : PG W p cl b S g) (hb : b ≤ 500)
    (h : ∀ S' g' t tb pd mp, PG W p cl (b + 40) S' g' → Sub S S' → TU g' t [.ref tb, .ref pd] → Tab W g' tb mp sec → DictT W g' pd mp sec 1000 → Q (.ref t) g') : RC W (n+9) L l g (.call (.ref 521) ⟨[.ref p, .bool sec], []⟩) Q := by
  refine RC_defC (binds := [(Str.ofString "pen", .ref p), (Str.ofString "is_second", .bool sec)]) [(Str.ofString "pen", .ref p), (Str.ofString "is_second", .bool sec)] (by k_is) (by k_is) (fun _ _ => BindsTo.of_eq rfl) rfl (by decide) rfl rfl rfl (fun L' q hq => ?_) fun L' g0 hold hcells => ?_
  · simp at hq
    rcases hq with rfl | rfl <;> rfl
  obtain ⟨⟨gc, Bc, oc, hc, hcd⟩, _⟩ := hcells
  obtain ⟨hp0, hs0⟩ := hp.grow hold
  obtain ⟨⟨o1, e1⟩, ⟨o2, e2⟩⟩ := hp.has
  have hcp : L' + 1 ≠ p := Ne.symm (ne_get e1 gc)
  have hccl : L' + 1 ≠ cl := Ne.symm (ne_get e2 gc)
  have hSc : off2 p cl g0 (L' + 1) = some oc := off2_new hcp hccl hc
  repeat walk_at "s"
  refine R_assignCell (c := L' + 1) rfl rfl rfl rfl ?_
  repeat walk_at "s"
  refine R_ofRC (law_pairs hp0 hb fun S1 g1 d mp hp1 hs1 Sd hD0 => ?_)
  have hc1 : S1 (L' + 1) = some oc := hs1 _ _ hSc
  refine ⟨Bc, oc, _, hp1.sub _ _ hc1, hcd, fun o' ho' => ?_⟩
  have hp2 := hp1.change (o' := o') hc1
  have hD := hD0.off (o' := o') (cell_off hc1 hcd)
  have hs2 : Sub S (up S1 (L' + 1) o') := by
    have gS : S (L' + 1) = none := hp.sub.none gc
    exact (hs0.trans hs1).up' gS
  generalize hS2 : up S1 (L' + 1) o' = S2 at *
  have hc2 : S2 (L' + 1) = some o' := by rw [← hS2]; exact up_same
  generalize up g1 (L' + 1) o' = g2 at *
  have hg2c : g2 (L' + 1) = some o' := hp2.sub _ _ hc2
  obtain ⟨xs, hdt, hxl, hxv, hxf⟩ := hD.h
  obtain ⟨es, ep, hrw, hes⟩ := hdt.rw
  have hel : es.size = xs.length := by rw [← Array.length_toList, hes, List.length_map]
  have hrw' : RwG g2 d es ep := let ⟨o, e, r⟩ := hrw; ⟨o, hp2.sub _ _ e, r⟩
  have hcb : (List.lookup (Str.ofString "pairs") [(Str.ofString "pairs", L' + 1)]) = some (L' + 1) := rfl
  repeat walk_at "s"
  refine R_comp (cl := [(Str.ofString "pairs", L' + 1)]) (fun _ => rfl) rfl rfl rfl rfl rfl ?_
  refine R_cell rfl rfl rfl rfl hg2c ho' ?_
  refine ⟨_, _, _, fun i ys g' => Sub g2 g' ∧ MadeL W S2 g' xs ys i, Src.keys hD.lo hrw', ⟨⟨Sub.refl, rfl, fun j v e => (by simp at e)⟩, ?_, ?_, ?_, ?_, ?_⟩, ?_⟩
  · rintro e rfl
    obtain ⟨o, e, _⟩ := hrw'
    exact ⟨o, e⟩
  · rintro i ys g' ⟨hs, _⟩ e o _ he
    exact hs _ _ he
  · rintro C i v ys g' hi ⟨e, he, rfl⟩ ⟨hs, hm⟩
    have he' : es.toList[i]? = some e := by rw [Array.getElem?_toList]; exact he
    rw [hes, List.getElem?_map] at he'
    cases hx : xs[i]? with
    | none => rw [hx] at he'; cases he'
    | some x =>
      rw [hx] at he'
      cases he'
      refine R_tests0 ⟨fun _ => ?_, fun q => (by cases q)⟩
      have hxm := List.mem_of_getElem? hx
      obtain ⟨⟨pa, pb⟩, hpt, hpz⟩ := hxv x hxm
      obtain ⟨t, ta, tb, hv, htu, hTa, hTb⟩ := id hpt
      have hsS : Sub S2 g' := hp2.sub.trans hs
      have hat : atKey xs x.1 = some x.2 := by
        have hnd : (xs.map (·.1)).Nodup := let ⟨_, _, hdo⟩ := hdt.obj; hdo.nodup
        exact atKey_of_get hnd (k := x.1) (p := x.2) hx
      have hkx := hdt.keys x hxm
      have gcell := hs _ _ hg2c
      have htu' := htu.sub hsS
      repeat walk_at "s"
      refine R_cell rfl rfl rfl rfl gcell ho' ?_
      repeat walk_at "s"
      refine R_dItemT (hdt.sub hsS) (hkx.sub hsS) hat rfl ?_
      rw [hv]
      repeat walk_at "s"
      refine R_ofRC (law_value (hTa.sub hsS) fun g3 va s3 ga hva => ?_)
      have hsS3 := hsS.trans s3
      have htu3 := htu.sub hsS3
      have gcell3 := s3 _ _ gcell
      repeat walk_at "s"
      refine R_cell rfl rfl rfl rfl gcell3 ho' ?_
      repeat walk_at "s"
      refine R_dItemT (hdt.sub hsS3) (hkx.sub hsS3) hat rfl ?_
      rw [hv]
      repeat walk_at "s"
      refine R_ofRC (law_value (hTb.sub hsS3) fun g4 vb s4 gb hvb => ?_)
      repeat walk_at "s"
      rename_i q gq Bq r gr Br
      refine ⟨((hs.trans s3).trans s4).trans ((Sub.refl.up gq).up gr), ⟨by simp [hm.len], fun j v e => ?_⟩⟩
      rcases Nat.lt_or_ge j ys.length with hlt | hge
      · rw [List.getElem?_append_left hlt] at e
        exact (hm.sub ((s3.trans s4).trans ((Sub.refl.up gq).up gr))).at_ j v e
      · rw [List.getElem?_append_right hge] at e
        have h0 : j - ys.length = 0 := by
          rcases Nat.eq_zero_or_pos (j - ys.length) with h | h
          · exact h
          · rw [List.getElem?_eq_none (by simp; omega)] at e; cases e
        rw [h0] at e
        simp at e
        subst e
        have hji : j = i := by have := hm.len; omega
        subst hji
        exact ⟨x, .ref q, r, hx, rfl, ⟨_, up_same⟩, (pa, pb), hpt, q, va, vb, rfl, ⟨_, up_old gr up_same⟩, hva.sub (s4.trans ((Sub.refl.up gq).up gr)), hvb.sub ((Sub.refl.up gq).up gr)⟩
  · rw [hel, sizeLine_eq]; omega
  · rintro i ys g' ⟨_, hm⟩
    rw [hm.len]; exact Nat.le_refl _
  rintro D g3 ys k gD BD ⟨hs3, hm3⟩
  have s4 : Sub g3 (up g3 D (lstO ys k)) := Sub.refl.up gD
  have hm4 := hm3.sub s4
  rw [hel] at hm4
  repeat walk_at "s"
  refine R_madeDict ⟨_, up_same⟩ hm4 ((hp2.sub.trans hs3).trans s4) hdt (by omega) hxv hxf fun D5 g5 s5 hDV => ?_
  repeat walk_at "s"
  refine new_pg hDV fun g6 tb s6 gtb hT => ?_
  have hs26 : Sub g2 g6 := ((hs3.trans s4).trans s5).trans s6
  repeat walk_at "s"
  refine R_cell rfl rfl rfl rfl (hs26 _ _ hg2c) ho' ?_
  repeat walk_at "s"
  rename_i t gt Bt
  have s7 : Sub g6 (up g6 t (tupO [.ref tb, .ref d])) := Sub.refl.up gt
  obtain ⟨hp7, hs7⟩ := hp2.grow (hs26.trans s7)
  have hD7 := hD.sub (hp2.sub.trans (hs26.trans s7))
  have hT7 : Tab W (up g6 t (tupO [.ref tb, .ref d])) tb mp sec := hT.sub s7
  exact h _ _ t tb d mp hp7 (hs2.trans hs7) ⟨_, up_same⟩ hT7 ⟨hD7.lo, hD7.base, let ⟨xs, a, b, c, e⟩ := hD7.h; ⟨xs, a, by omega, c, e⟩⟩

theorem cov_init {W : Wd KF} {n : Nat} {L : Addr} {l : Lm} {g : Gh} {x d : Addr} {a : Value} {Q : Value → Gh → Prop} (hx : g x = some (instObj 417 d)) (gd : g d = none) (hB : W.B.get? d = none)
    (h : ∀ o m, DSo 1 m o → m (Str.ofString "glyphs") = some a → m (Str.ofString "index") = none → m (Str.ofString "has") = none → Q .none (up g d o)) : RC W (n+1) L l (up g d (dictOf [] 0)) (.call (.ref 393) ⟨[.ref x, a], []⟩) Q := by
  have h0 := DSo.nil
  have hxd : x ≠ d := fun q => by rw [q, gd] at hx; cases hx
  refine RC_def (binds := [(Str.ofString "self", .ref x), (Str.ofString "glyphs", a)]) (by k_is) (by k_is) (fun _ _ => BindsTo.of_eq rfl) rfl rfl rfl rfl rfl fun L' => ?_
  repeat walk_at "s"
  exact h _ _ (by assumption) rfl rfl rfl
theorem new_cov {W : Wd KF} {n : Nat} {env : Env} {l : Lm} {g : Gh} {Q : Value → Gh → Lm → Prop} {a : Value} (h : ∀ g' x d m, Sub g g' → Ins g' 417 x d 1 m → m (Str.ofString "glyphs") = some a → m (Str.ofString "index") = none → m (Str.ofString "has") = none → Q (.ref x) g' l) : R W (n + 2) env g l (call (.ref 417) [a]) Q :=
  R_make cls_m417 cls_i417 cls_f417 fun x d gx gd Bx Bd => cov_init (g := up g x (instObj 417 d)) up_same gd Bd fun o m ho h1 h2 h3 => ⟨rfl, h _ x d m (made_sub gx gd ho).1 (made_sub gx gd ho).2 h1 h2 h3⟩

theorem sorted_at {ns : List Int} (h : ns.Pairwise (· ≤ ·)) {i j : Nat} (hij : i ≤ j) (hj : j < ns.length) : ns.getD i 0 ≤ ns.getD j 0 := by
  rcases Nat.lt_or_ge i j with hlt | hge
  · have := List.pairwise_iff_getElem.mp h i j (by omega) hj hlt
    simpa [List.getD_eq_getElem?_getD, hj, show i < ns.length by omega] using this
  · have : i = j := by omega
    rw [this]; omega
theorem cov_index {W : Wd KF} {n : Nat} {L : Addr} {l : Lm} {g : Gh} {x d t : Addr} {k : Nat} {m : Str → Option Value} {vs : List Value} {ns : List Int} {y : Int} {u : Tok} {Q : Value → Gh → Prop} (hx : Ins g 417 x d k m) (hm : m (Str.ofString "glyphs") = some (.ref t)) (ht : TU g t vs) (hv : IntsAre vs ns) (hso : ns.Pairwise (· ≤ ·)) (hz : ns.length ≤ 100)
    (h : ∀ r t, (0 ≤ r ↔ y ∈ ns) → Q (.int r t) g) : RC W (n+1) L l g (.call (.ref 400) ⟨[.ref x, .int y u], []⟩) Q := by
  refine RC_def (binds := [(Str.ofString "self", .ref x), (Str.ofString "glyph", .int y u)]) (by k_is) (by k_is) (fun _ _ => BindsTo.of_eq rfl) rfl rfl rfl rfl rfl fun L' => ?_
  have h2 : (2 : Int) ≠ 0 := by decide
  have h3 : (2 : Int).natAbs.log2 < 9000 := by decide
  have hvl : vs.length = ns.length := hv.length
  have item : ∀ i : Nat, i < ns.length → ∃ w, vs[i]? = some (.int (ns.getD i 0) w) := fun i hi => by
    obtain ⟨w, hw⟩ := hv.int_at i vs[i] (by simp)
    exact ⟨w, by rw [← hw]; simp⟩
  repeat walk_at "s"
  refine R_lenT ht (by omega) fun tl => ?_
  repeat walk_at "s"
  refine R_while (fun mm g' l' => g' = g ∧ ∃ (lo hi : Nat) (t1 t2 : Tok), mm = hi - lo ∧ lo ≤ hi ∧ hi ≤ ns.length ∧ LK [(Str.ofString "self", .ref x), (Str.ofString "glyph", .int y u), (Str.ofString "low", .int lo t1), (Str.ofString "high", .int hi t2)] l' ∧ (∀ i, i < lo → ns.getD i 0 < y) ∧ ∀ i, hi ≤ i → i < ns.length → y ≤ ns.getD i 0) ns.length ?_ ?_
  · exact ⟨rfl, 0, ns.length, _, tl, rfl, by omega, by omega, .cons rfl (.cons rfl (.cons rfl (.cons (by rw [← hvl]; rfl) .nil))), fun i hi => by omega, fun i h1 h2 => by omega⟩
  rintro mm g' l' ⟨rfl, lo, hi, t1, t2, rfl, hlh, hhn, hl, ha, hb⟩
  refine R_known hl ?_
  repeat walk_at "s"
  refine ⟨fun q => ?_, fun q => ?_⟩
  · have q' := of_decide_eq_false q
    have hlo : lo = hi := by omega
    subst hlo
    repeat walk_at "s"
    refine R_andCons ?_
    repeat walk_at "s"
    refine R_lenT ht (by omega) fun tl => ?_
    repeat walk_at "s"
    refine ⟨fun z => ?_, fun z => ?_⟩
    · have z' : lo < ns.length := by have := of_decide_eq_true z; omega
      obtain ⟨w, hw⟩ := item lo z'
      refine R_andCons ?_
      repeat walk_at "s"
      refine R_itemT ht (by omega) (by omega) (v := .int (ns.getD lo 0) w) (by simpa using hw) rfl ?_
      repeat walk_at "s"
      refine R_eqI ?_
      repeat walk_at "s"
      refine ⟨fun e => ?_, fun e => ?_⟩
      · have e' : ns.getD lo 0 = y := by simpa using e
        refine R_andNil ⟨fun _ => ?_, fun q => absurd q (by decide)⟩
        repeat walk_at "s"
        refine h _ _ ⟨fun _ => ?_, fun _ => by omega⟩
        rw [← e']
        simp only [List.getD_eq_getElem?_getD, List.getElem?_eq_getElem z', Option.getD_some]
        exact List.getElem_mem z'
      · have e' : ns.getD lo 0 ≠ y := by simpa using e
        refine ⟨fun q => absurd q (by decide), fun _ => ?_⟩
        repeat walk_at "s"
        refine h _ _ ⟨fun q => absurd q (by decide), fun hy => ?_⟩
        exfalso
        obtain ⟨j, hj⟩ := List.mem_iff_getElem?.mp hy
        have hjl := (List.getElem?_eq_some_iff.mp hj).1
        have hjd : ns.getD j 0 = y := by rw [List.getD_eq_getElem?_getD, hj]; rfl
        rcases Nat.lt_or_ge j lo with hh | hh
        · have := ha j hh; omega
        · have := hb lo (Nat.le_refl _) z'
          have := sorted_at hso hh hjl
          omega
    · have z' : ¬ lo < ns.length := by have := of_decide_eq_false z; omega
      refine ⟨fun q => absurd q (by decide), fun _ => ?_⟩
      repeat walk_at "s"
      refine h _ _ ⟨fun q => absurd q (by decide), fun hy => ?_⟩
      exfalso
      obtain ⟨j, hj⟩ := List.mem_iff_getElem?.mp hy
      have hjl := (List.getElem?_eq_some_iff.mp hj).1
      have hjd : ns.getD j 0 = y := by rw [List.getD_eq_getElem?_getD, hj]; rfl
      have := ha j (by omega)
      omega
  · have q' : lo < hi := by have := of_decide_eq_true q; omega
    have emid : ((lo : Int) + hi).fdiv 2 = ((lo + hi) / 2 : Nat) := by
      rw [Int.fdiv_eq_ediv_of_nonneg _ (by decide)]
      omega
    obtain ⟨w, hw⟩ := item ((lo + hi) / 2) (by omega)
    repeat walk_at "s"
    rw [emid]
    refine R_itemT ht (by omega) (by omega) (v := .int (ns.getD ((lo + hi) / 2) 0) w) (by rw [Int.toNat_natCast]; exact hw) rfl ?_
    repeat walk_at "s"
    refine ⟨fun e => ?_, fun e => ?_⟩
    · have e' := of_decide_eq_true e
      repeat walk_at "s"
      refine ⟨_, ?_, rfl, (lo + hi) / 2 + 1, hi, _, t2, rfl, by omega, by omega, .cons rfl (.cons rfl (.cons (by simp; rfl) (.cons rfl .nil))), fun i h9 => ?_, hb⟩
      · omega
      · have := sorted_at hso (i := i) (j := (lo + hi) / 2) (by omega) (by omega)
        omega
    · have e' := of_decide_eq_false e
      repeat walk_at "s"
      refine ⟨_, ?_, rfl, lo, (lo + hi) / 2, t1, _, rfl, by omega, by omega, .cons rfl (.cons rfl (.cons rfl (.cons rfl .nil))), ha, fun i h1 h2 => ?_⟩
      · omega
      · have := sorted_at hso (i := (lo + hi) / 2) (j := i) h1 h2
        omega
theorem cov_has {W : Wd KF} {n : Nat} {L : Addr} {l : Lm} {g : Gh} {x d t : Addr} {k : Nat} {m : Str → Option Value} {vs : List Value} {ns : List Int} {y : Int} {u : Tok} {Q : Value → Gh → Prop} (hx : Ins g 417 x d k m) (hm : m (Str.ofString "glyphs") = some (.ref t)) (hmi : m (Str.ofString "index") = none) (ht : TU g t vs) (hv : IntsAre vs ns) (hso : ns.Pairwise (· ≤ ·)) (hz : ns.length ≤ 100)
    (h : Q (.bool (decide (y ∈ ns))) g) : RC W (n+2) L l g (.call (.ref 407) ⟨[.ref x, .int y u], []⟩) Q := by
  refine RC_def (binds := [(Str.ofString "self", .ref x), (Str.ofString "glyph", .int y u)]) (by k_is) (by k_is) (fun _ _ => BindsTo.of_eq rfl) rfl rfl rfl rfl rfl fun L' => ?_
  repeat walk_at "s"
  refine R_ofRC (cov_index hx hm ht hv hso hz fun r t hr => ?_)
  repeat walk_at "s"
  have : decide (0 ≤ r) = decide (y ∈ ns) := by
    by_cases q : y ∈ ns
    · rw [decide_eq_true q, decide_eq_true (hr.mpr q)]
    · rw [decide_eq_false q, decide_eq_false fun z => q (hr.mp z)]
  rw [this]
  exact h

structure RowsV (g : Gh) (vt : Addr) (rv : Nat → Nat → V4 × V4) : Prop where
  h : ∃ rs : List Addr, TU g vt (rs.map .ref) ∧ rs.length = 3 ∧ ∀ (i : Nat) (r : Addr), rs[i]? = some r → ∃ ps : List Value, TU g r ps ∧ ps.length = 2 ∧ ∀ (j : Nat) (v : Value), ps[j]? = some v → PairV g v (rv i j)
theorem RowsV.sub {g g' : Gh} {vt : Addr} {rv : Nat → Nat → V4 × V4} (x : RowsV g vt rv) (s : Sub g g') : RowsV g' vt rv :=
  ⟨let ⟨rs, a, b, c⟩ := x.h; ⟨rs, a.sub s, b, fun i r e => let ⟨ps, p, q, t⟩ := c i r e; ⟨ps, p.sub s, q, fun j v e => (t j v e).sub s⟩⟩⟩
structure ClsAt (W : Wd KF) (g : Gh) (x : Addr) (c : Int → Int) : Prop where
  h : ∃ d k m dd kvs, Ins g 375 x d k m ∧ m (Str.ofString "classes") = some (.ref dd) ∧ m (Str.ofString "class_of") = none ∧ DI W g dd kvs ∧ (dd == sysModules) = false ∧ ∀ y t, 1 ≤ y → y ≤ 5 → ∃ t', (valueAt kvs y).getD (.int 0 t) = .int (c y) t'
theorem ClsAt.sub {W : Wd KF} {g g' : Gh} {x : Addr} {c : Int → Int} (h : ClsAt W g x c) (s : Sub g g') : ClsAt W g' x c :=
  ⟨let ⟨d, k, m, dd, kvs, a, b, c, e, f⟩ := h.h; ⟨d, k, m, dd, kvs, a.sub s, b, c, e.sub s, f⟩⟩
structure CovAt (W : Wd KF) (g : Gh) (x : Addr) (ns : List Int) : Prop where
  h : ∃ d k m t vs ms, Ins g 417 x d k m ∧ m (Str.ofString "glyphs") = some (.ref t) ∧ m (Str.ofString "index") = none ∧ m (Str.ofString "has") = none ∧ TU g t vs ∧ IntsAre vs ms ∧ ms.Pairwise (· ≤ ·) ∧ ms.length ≤ 100 ∧ ∀ y, y ∈ ms ↔ y ∈ ns
theorem CovAt.sub {W : Wd KF} {g g' : Gh} {x : Addr} {ns : List Int} (h : CovAt W g x ns) (s : Sub g g') : CovAt W g' x ns :=
  ⟨let ⟨d, k, m, t, vs, ms, a, b, c, e, f, r⟩ := h.h; ⟨d, k, m, t, vs, ms, a.sub s, b, c, e, f.sub s, r⟩⟩

theorem pc_init {W : Wd KF} {n : Nat} {L : Addr} {l : Lm} {g : Gh} {x d vt : Addr} {a b c : Value} {rv : Nat → Nat → V4 × V4} {sec : Bool} {Q : Value → Gh → Prop} (hx : g x = some (instObj 314 d)) (gd : g d = none) (hB : W.B.get? d = none) (hV : RowsV g vt rv) (hz : sec = false → ∀ i j, i < 3 → j < 2 → (rv i j).2 = V4.zero)
    (h : ∀ g' o m, Sub g g' → g' d = some o → DSo 5 m o → m (Str.ofString "coverage") = some a → m (Str.ofString "firsts") = some b → m (Str.ofString "seconds") = some c → m (Str.ofString "rows") = some (.ref vt) → m (Str.ofString "is_second") = some (.bool sec) → m (Str.ofString "find") = none → Q .none g') :
    RC W (n+6) L l (up g d (dictOf [] 0)) (.call (.ref 299) ⟨[.ref x, a, b, c, .ref vt, .bool sec], []⟩) Q := by
  have h0 := DSo.nil
  have hxd : x ≠ d := fun q => by rw [q, gd] at hx; cases hx
  refine RC_def (binds := [(Str.ofString "self", .ref x), (Str.ofString "coverage", a), (Str.ofString "firsts", b), (Str.ofString "seconds", c), (Str.ofString "rows", .ref vt), (Str.ofString "is_second", .bool sec)]) (by k_is) (by k_is) (fun _ X => binds_K X rfl (by k_is) rfl rfl rfl) rfl rfl rfl rfl rfl fun L' => ?_
  repeat walk_at "s"
  rename_i o1 ho1
  have s1 : Sub g (up g d o1) := Sub.refl.up gd
  have hV1 := hV.sub s1
  generalize hg1 : up g d o1 = g1 at *
  have hd1 : g1 d = some o1 := by rw [← hg1]; exact up_same
  refine R_mono (Q := fun v g' l' => v = .bool sec ∧ Sub g1 g' ∧ l' = [(Str.ofString "self", Value.ref x), (Str.ofString "coverage", a), (Str.ofString "firsts", b), (Str.ofString "seconds", c), (Str.ofString "rows", .ref vt), (Str.ofString "is_second", .bool sec)].reverse) ?_ ?_
  · refine R_or2 ?_
    repeat walk_at "s"
    refine ⟨fun q => ?_, fun q => ?_⟩
    · subst q; exact ⟨rfl, Sub.refl, rfl⟩
    · subst q
      obtain ⟨rs, hrs, hrl, hrow⟩ := hV1.h
      repeat walk_at "s"
      refine R_comp2 (cl := []) (fun _ => rfl) rfl rfl rfl rfl ?_
      repeat walk_at "s"
      refine ⟨_, _, _, fun D i g' => Sub g1 g' ∧ ∃ ys c, g' D = some (lstO ys c) ∧ ys.length ≤ 2 * i ∧ ∀ v ∈ ys, ∃ p, PairV g1 v (p, V4.zero), Src.tuple hrs, fun e he => ?_, fun D gD BD => ⟨?_, ?_, ?_, ?_⟩⟩
      · subst he
        obtain ⟨k, e⟩ := hrs
        exact ⟨_, e⟩
      · rintro i g' ⟨hs, _⟩ e o _ he
        exact hs _ _ he
      · exact ⟨Sub.refl.up gD, [], 0, up_same, Nat.zero_le _, fun v hv => by cases hv⟩
      · rintro C I i v g' hi hv ⟨hs, ys, cc, hy, hyl, hyv⟩
        rw [List.length_map] at hi
        rw [List.getElem?_map] at hv
        cases hr : rs[i]? with
        | none => rw [hr] at hv; cases hv
        | some r =>
          rw [hr] at hv
          cases hv
          obtain ⟨ps, hps, hpl, hpv⟩ := hrow i r hr
          repeat walk_at "s"
          refine R_tail2 (fun _ => rfl) ?_
          repeat walk_at "s"
          refine ⟨_, _, _, fun j g' => Sub g1 g' ∧ ∃ ys c, g' D = some (lstO ys c) ∧ ys.length ≤ 2 * i + j ∧ ∀ v ∈ ys, ∃ p, PairV g1 v (p, V4.zero), Src.tuple (hps.sub hs), fun e he => ?_, ?_, ⟨hs, ys, cc, hy, by omega, hyv⟩, ?_, ?_⟩
          · subst he
            obtain ⟨k, e⟩ := hps.sub hs
            exact ⟨_, e⟩
          · rintro j g'' ⟨hs2, _⟩ e o rfl he
            obtain ⟨k, e'⟩ := hps
            have e2 := hs _ _ e'
            rw [he] at e2; cases e2
            exact hs2 _ _ e'
          · rintro j v g'' hj hv ⟨hs2, ys2, c2, hy2, hyl2, hyv2⟩
            repeat walk_at "s"
            refine ⟨ys2, ⟨c2, hy2⟩, BD, by omega, fun c3 => ⟨hs2.up' gD, _, c3, up_same, by simp; omega, fun w hw => ?_⟩⟩
            rcases List.mem_append.mp hw with hw | hw
            · exact hyv2 w hw
            · simp at hw
              subst hw
              have hp := hpv j w hv
              have := hz rfl i j (by omega) (by omega)
              refine ⟨(rv i j).1, ?_⟩
              rw [← this]
              exact hp
          · rintro g'' ⟨hs2, ys2, c2, hy2, hyl2, hyv2⟩
            exact ⟨rfl, hs2, ys2, c2, hy2, by omega, hyv2⟩
      · rintro g' ⟨hs, ys, cc, hy, hyl, hyv⟩
        rw [List.length_map, hrl] at hyl
        repeat walk_at "s"
        have hDl : LI g' D ys := ⟨cc, hy⟩
        refine R_ofRC (moves_second (fun n => Src.list hDl) (fun e he => by subst he; exact ⟨_, hy⟩) (by omega) (fun i v hv => let ⟨p, hp⟩ := hyv v (List.mem_of_getElem? hv); ⟨p, hp.sub hs⟩) fun g'' hs' => ?_)
        exact ⟨rfl, hs.trans hs', rfl⟩
  · rintro _ g2 _ ⟨rfl, s2, rfl⟩
    repeat walk_at "s"
    refine R_setNewG ho1 (s2 _ _ (s1 _ _ hx)) (s2 _ _ hd1) hB (by decide) cls_s314 cls_p314 (by k_is) cls_h314 rfl fun o2 ho2 => ?_
    repeat walk_at "s"
    exact h _ o2 _ ((s1.trans s2).up' gd) up_same ho2 rfl rfl rfl rfl rfl rfl

def mpC (ns : List Int) (c1 c2 : Int → Int) (rv : Nat → Nat → V4 × V4) : Int → Int → Option (V4 × V4) := fun a b => if a ∈ ns ∧ 1 ≤ b ∧ b ≤ 5 ∧ c2 b < 2 then some (rv (c1 a).toNat (c2 b).toNat) else none
theorem has_second_pc {W : Wd KF} {n : Nat} {L : Addr} {l : Lm} {g : Gh} {x d : Addr} {k : Nat} {m : Str → Option Value} {v : Value} {Q : Value → Gh → Prop} (hx : Ins g 314 x d k m) (hm : m (Str.ofString "is_second") = some v) (hv : handedIn v = true)
    (h : Q v g) : RC W (n+1) L l g (.call (.ref 325) ⟨[.ref x], []⟩) Q := by
  refine RC_def (binds := [(Str.ofString "table", .ref x)]) (by k_is) (by k_is) (fun _ _ => BindsTo.of_eq rfl) rfl rfl rfl rfl rfl fun L' => ?_
  repeat walk_at "s"
  refine R_getI hx (by k_is) cls_h314 (by k_is) (by k_is) hm hv ?_
  repeat walk_at "s"
  exact h
theorem pc_find {W : Wd KF} {n : Nat} {L : Addr} {l : Lm} {g S : Gh} {x d cv f s vt : Addr} {k : Nat} {m : Str → Option Value} {ns : List Int} {c1 c2 : Int → Int} {rv : Nat → Nat → V4 × V4} {a b : Int} {t u : Tok} {Q : Value → Gh → Prop} (hs : Sub S g) (hx : Ins S 314 x d k m)
    (h1 : m (Str.ofString "coverage") = some (.ref cv)) (h2 : m (Str.ofString "firsts") = some (.ref f)) (h3 : m (Str.ofString "seconds") = some (.ref s)) (h4 : m (Str.ofString "rows") = some (.ref vt)) (hC : CovAt W S cv ns) (hF : ClsAt W S f c1) (hS : ClsAt W S s c2) (hV : RowsV S vt rv)
    (hc1 : ∀ y, 1 ≤ y → y ≤ 5 → 0 ≤ c1 y ∧ c1 y < 3) (hc2 : ∀ y, 1 ≤ y → y ≤ 5 → 0 ≤ c2 y ∧ c2 y < 3) (ha : 1 ≤ a) (ha' : a ≤ 5) (hb : 1 ≤ b) (hb' : b ≤ 5)
    (h : ∀ g' v, Sub g g' → FoundAs S v (mpC ns c1 c2 rv a b) → Q v g') : RC W (n+3) L l g (.call (.ref 306) ⟨[.ref x, .int a t, .int b u], []⟩) Q := by
  obtain ⟨cd, ck, cm, ct, cvs, cms, ci, cg, cidx, chas, ctu, cis, cso, cz, cmem⟩ := (hC.sub hs).h
  obtain ⟨fd, fk, fm, fdd, fkv, fi, fc, fco, fD, flo, fv⟩ := (hF.sub hs).h
  obtain ⟨sd, sk, sm, sdd, skv, si, sc, sco, sD, slo, sv⟩ := (hS.sub hs).h
  obtain ⟨rs, hrs, hrl, hrow⟩ := hV.h
  have hrs' := hrs.sub hs
  have hx' := hx.sub hs
  refine RC_def (binds := [(Str.ofString "self", .ref x), (Str.ofString "first", .int a t), (Str.ofString "second", .int b u)]) (by k_is) (by k_is) (fun _ _ => BindsTo.of_eq rfl) rfl rfl rfl rfl rfl fun L' => ?_
  repeat walk_at "s"
  refine R_ofRC (cov_has ci cg cidx ctu cis cso cz ?_)
  have hmem : decide (a ∈ cms) = decide (a ∈ ns) := by rw [decide_eq_decide]; exact cmem a
  rw [hmem]
  repeat walk_at "s"
  by_cases hin : a ∈ ns
  · rw [decide_eq_true hin]
    refine ⟨fun q => absurd q (by decide), fun _ => ?_⟩
    repeat walk_at "s"
    refine R_ofRC (class_of fi fc fD flo fun t1 => ?_)
    obtain ⟨t1', e1⟩ := fv a t1 ha ha'
    rw [e1]
    repeat walk_at "s"
    refine R_ofRC (class_of si sc sD slo fun t2 => ?_)
    obtain ⟨t2', e2⟩ := sv b t2 hb hb'
    rw [e2]
    have k1 := hc1 a ha ha'
    have k2 := hc2 b hb hb'
    have hrl' : (rs.map Value.ref).length = 3 := by rw [List.length_map, hrl]
    obtain ⟨r, hr⟩ : ∃ r, rs[(c1 a).toNat]? = some r := ⟨rs[(c1 a).toNat]'(by omega), by simp⟩
    obtain ⟨ps, hps, hpl, hpv⟩ := hrow _ r hr
    have hps' := hps.sub hs
    have hitem : (rs.map Value.ref)[(c1 a).toNat]? = some (.ref r) := by rw [List.getElem?_map, hr]; rfl
    repeat walk_at "s"
    refine R_orCons ?_
    repeat walk_at "s"
    refine R_lenT hrs' (by omega) fun tl => ?_
    repeat walk_at "s"
    refine ⟨fun _ => ?_, fun q => absurd (of_decide_eq_true q) (by rw [hrl']; omega)⟩
    refine R_orCons ?_
    repeat walk_at "s"
    refine R_itemT hrs' k1.1 (by omega) hitem rfl ?_
    repeat walk_at "s"
    refine R_lenT hps' (by omega) fun tl => ?_
    repeat walk_at "s"
    rw [hpl]
    refine ⟨fun q => ?_, fun q => ?_⟩
    · have q' := of_decide_eq_false q
      refine R_orNil ⟨fun q => absurd q (by decide), fun _ => ?_⟩
      repeat walk_at "s"
      refine R_itemT hrs' k1.1 (by omega) hitem rfl ?_
      repeat walk_at "s"
      obtain ⟨v, hv⟩ : ∃ v, ps[(c2 b).toNat]? = some v := ⟨ps[(c2 b).toNat]'(by omega), by simp⟩
      refine R_itemT hps' k2.1 (by omega) hv rfl ?_
      repeat walk_at "s"
      refine h _ _ Sub.refl ?_
      unfold mpC
      rw [if_pos ⟨hin, hb, hb', by omega⟩]
      exact hpv _ _ hv
    · have q' := of_decide_eq_true q
      refine ⟨fun _ => ?_, fun q => absurd q (by decide)⟩
      repeat walk_at "s"
      refine h _ _ Sub.refl ?_
      unfold mpC
      rw [if_neg (by omega)]
      rfl
  · rw [decide_eq_false hin]
    refine ⟨fun _ => ?_, fun q => absurd q (by decide)⟩
    repeat walk_at "s"
    refine h _ _ Sub.refl ?_
    unfold mpC
    rw [if_neg fun z => hin z.1]
    rfl
theorem new_pc {W : Wd KF} {n : Nat} {env : Env} {l : Lm} {g : Gh} {cv f s vt : Addr} {ns : List Int} {c1 c2 : Int → Int} {rv : Nat → Nat → V4 × V4} {sec : Bool} {Q : Value → Gh → Lm → Prop}
    (hC : CovAt W g cv ns) (hF : ClsAt W g f c1) (hS : ClsAt W g s c2) (hV : RowsV g vt rv) (hz : sec = false → ∀ i j, i < 3 → j < 2 → (rv i j).2 = V4.zero) (hc1 : ∀ y, 1 ≤ y → y ≤ 5 → 0 ≤ c1 y ∧ c1 y < 3) (hc2 : ∀ y, 1 ≤ y → y ≤ 5 → 0 ≤ c2 y ∧ c2 y < 3)
    (h : ∀ g' x, Sub g g' → g x = none → Tab W g' x (mpC ns c1 c2 rv) sec → Q (.ref x) g' l) : R W (n + 7) env g l (call (.ref 314) [.ref cv, .ref f, .ref s, .ref vt, .bool sec]) Q :=
  R_make cls_m314 cls_i314 cls_f314 fun x d gx gd Bx Bd => pc_init (g := up g x (instObj 314 d)) up_same gd Bd (hV.sub (Sub.refl.up gx)) hz fun g' o m hs ho hd h1 h2 h3 h4 h5 h6 => ⟨rfl, by
    have hsg : Sub g g' := (Sub.refl.up gx).trans hs
    have hi : Ins g' 314 x d 5 m := ⟨hs _ _ up_same, o, ho, hd⟩
    exact h g' x hsg gx {
      f := ⟨306, by k_is, fun n env g l pl Q hs q => R_getM (hi.sub hs) (by k_is) (by k_is) (by k_is) h6 q, fun n L l g a b t u Q hs ha ha' hb hb' q => pc_find hs hi h1 h2 h3 h4 (hC.sub hsg) (hF.sub hsg) (hS.sub hsg) (hV.sub hsg) hc1 hc2 ha ha' hb hb' q⟩
      sec := fun n L l g Q hs q => has_second_pc (hi.sub hs) h5 rfl q }⟩

theorem keys_stored {kvs : List (Int × Value)} {k y : Int} {v : Value} : y ∈ (stored kvs k v).map (·.1) ↔ y = k ∨ y ∈ kvs.map (·.1) := by
  unfold stored
  split
  · rename_i h
    have e : (kvs.map fun kv => if kv.1 = k then (kv.1, v) else kv).map (·.1) = kvs.map (·.1) := by
      rw [List.map_map]; refine List.map_congr_left fun z _ => ?_
      show (if z.1 = k then (z.1, v) else z).1 = z.1
      split <;> rfl
    rw [e]
    constructor
    · exact .inr
    · rintro (rfl | h')
      · obtain ⟨z, hz, e⟩ := List.any_eq_true.mp h
        exact List.mem_map.mpr ⟨z, hz, of_decide_eq_true e⟩
      · exact h'
  · simp [or_comm]
theorem len_stored {kvs : List (Int × Value)} {k : Int} {v : Value} : (stored kvs k v).length ≤ kvs.length + 1 := by
  unfold stored; split <;> simp
theorem coverage_of {W : Wd KF} {n : Nat} {L : Addr} {l : Lm} {g : Gh} {a : Addr} {vs : List Value} {ns : List Int} {Q : Value → Gh → Prop} (hl : LI g a vs) (hv : IntsAre vs ns) (hz : ns.length ≤ 10)
    (h : ∀ g' x, Sub g g' → CovAt W g' x ns → Q (.ref x) g') : RC W (n+4) L l g (.call (.ref 428) ⟨[.ref a], []⟩) Q := by
  have hvl : vs.length = ns.length := hv.length
  refine RC_def (binds := [(Str.ofString "glyphs", .ref a)]) (by k_is) (by k_is) (fun _ _ => BindsTo.of_eq rfl) rfl rfl rfl rfl rfl fun L' => ?_
  repeat walk_at "s"
  rename_i d lo gd Bd
  refine R_for (fun _ => rfl) ?_
  repeat walk_at "s"
  refine ⟨_, _, _, Src.list (hl.sub (Sub.refl.up gd)), fun e he => ?_, fun i g' l' => LK [(Str.ofString "found", .ref d)] l' ∧ Sub g g' ∧ ∃ kvs o, g' d = some o ∧ DIo W kvs o ∧ kvs.length ≤ i ∧ ∀ y, y ∈ kvs.map (·.1) ↔ y ∈ ns.take i, ?_, ?_, ?_, ?_⟩
  · subst he
    obtain ⟨k, e⟩ := hl
    exact ⟨_, up_old gd e⟩
  · exact ⟨.cons rfl .nil, Sub.refl.up gd, [], emptyD, up_same, DIo.nil, Nat.le_refl _, fun y => by simp⟩
  · rintro i g' l' ⟨_, hs, _⟩ e o rfl he
    obtain ⟨k, e'⟩ := hl
    rw [up_old gd e'] at he
    cases he
    exact hs _ _ e'
  · rintro i v g' l' hi hvi ⟨hk, hs, kvs, o, ho, hd, hkl, hmem⟩
    refine R_known hk ?_
    obtain ⟨w, rfl⟩ := hv.int_at i v hvi
    have hni : ns[i]? = some (ns.getD i 0) := by
      rw [List.getD_eq_getElem?_getD]
      have : i < ns.length := by omega
      simp [this]
    repeat walk_at "s"
    refine R_setI ho hd Bd (by omega) fun o' ho' => ?_
    repeat walk_at "s"
    refine ⟨.cons rfl .nil, hs.up' gd, _, o', up_same, ho', Nat.le_trans len_stored (by omega), fun y => ?_⟩
    rw [keys_stored, hmem, List.take_add_one, hni]
    simp [or_comm]
  · rintro g' l' ⟨hk, hs, kvs, o, ho, hd, hkl, hmem⟩
    refine R_known hk ?_
    rw [List.take_of_length_le (by omega)] at hmem
    repeat walk_at "s"
    refine R_sortedI ⟨o, ho, hd⟩ lo (by omega) fun D vs' ns' c gD BD hi' hp hso => ?_
    have hlen' : ns'.length ≤ 10 := by rw [hp.length_eq, List.length_map]; omega
    have hvl' : vs'.length = ns'.length := hi'.length
    repeat walk_at "s"
    refine R_tupleOf ⟨_, up_same⟩ (by omega) fun T gT BT => ?_
    repeat walk_at "s"
    refine new_cov fun g3 x dd m s3 hi3 h1 h2 h3 => ?_
    repeat walk_at "s"
    exact h g3 x ((hs.trans ((Sub.refl.up gD).up gT)).trans s3) ⟨dd, 1, m, T, vs', ns', hi3, h1, h2, h3, TU.sub ⟨_, up_same⟩ s3, hi', hso, by omega, fun y => by rw [hp.mem_iff, hmem]⟩

def KVs (kvs : List (Int × Value)) (ps : List (Int × Int)) : Prop := kvs.length = ps.length ∧ ∀ (j : Nat) (pr : Int × Int), ps[j]? = some pr → ∃ z, kvs[j]? = some (pr.1, .int pr.2 z)
theorem KVs.keys {kvs : List (Int × Value)} {ps : List (Int × Int)} (h : KVs kvs ps) : kvs.map (·.1) = ps.map (·.1) := by
  apply List.ext_getElem?
  intro j
  rw [List.getElem?_map, List.getElem?_map]
  cases e : ps[j]? with
  | none =>
    have : ps.length ≤ j := List.getElem?_eq_none_iff.mp e
    rw [List.getElem?_eq_none (by rw [h.1]; exact this)]; rfl
  | some pr =>
    obtain ⟨z, hz⟩ := h.2 j pr e
    rw [hz]; rfl
theorem valueAt_some {kvs : List (Int × Value)} {k : Int} {v : Value} (hn : (kvs.map (·.1)).Nodup) {j : Nat} (hj : kvs[j]? = some (k, v)) : valueAt kvs k = some v := by
  induction kvs generalizing j with
  | nil => cases hj
  | cons x r ih =>
    rw [List.map_cons, List.nodup_cons] at hn
    unfold valueAt
    rw [List.find?_cons]
    cases j with
    | zero => simp at hj; subst hj; simp
    | succ j =>
      simp at hj
      have hne : x.1 ≠ k := fun e => hn.1 (e ▸ List.mem_map.mpr ⟨(k, v), List.mem_of_getElem? hj, rfl⟩)
      simp only [hne, decide_false]
      exact ih hn.2 hj
theorem valueAt_none {kvs : List (Int × Value)} {k : Int} (h : k ∉ kvs.map (·.1)) : valueAt kvs k = none := by
  unfold valueAt
  rw [List.find?_eq_none.mpr]
  · rfl
  · intro x hx q
    exact h (List.mem_map.mpr ⟨x, hx, of_decide_eq_true q⟩)
structure DInt (W : Wd KF) (g : Gh) (D : Addr) (ps : List (Int × Int)) : Prop where
  lo : (D == sysModules) = false
  nodup : (ps.map (·.1)).Nodup
  h : ∃ kvs, DI W g D kvs ∧ KVs kvs ps
theorem DInt.sub {W : Wd KF} {g g' : Gh} {D : Addr} {ps : List (Int × Int)} (x : DInt W g D ps) (s : Sub g g') : DInt W g' D ps := ⟨x.lo, x.nodup, let ⟨k, a, b⟩ := x.h; ⟨k, a.sub s, b⟩⟩
theorem DInt.at {W : Wd KF} {g : Gh} {D : Addr} {ps : List (Int × Int)} (x : DInt W g D ps) {j : Nat} {pr : Int × Int} (hj : ps[j]? = some pr) : ∃ kvs z, DI W g D kvs ∧ valueAt kvs pr.1 = some (.int pr.2 z) := by
  obtain ⟨kvs, a, b⟩ := x.h
  obtain ⟨z, hz⟩ := b.2 j pr hj
  exact ⟨kvs, z, a, valueAt_some (by rw [b.keys]; exact x.nodup) hz⟩
structure MadeI (W : Wd KF) (g2 g'' : Gh) (D : Addr) (ps : List (Int × Int)) (i : Nat) : Prop where
  lo : (D == sysModules) = false
  fresh : g2 D = none
  base : W.B.get? D = none
  sub : Sub g2 g''
  h : ∃ kvs o, g'' D = some o ∧ DIo W kvs o ∧ KVs kvs (ps.take i)
theorem R_dictInts {W : Wd KF} {n : Nat} {env : Env} {l : Lm} {g2 : Gh} {a : Addr} {vs : List Value} {ps : List (Int × Int)} {Q : Value → Gh → Lm → Prop} (hl : LI g2 a vs) (hlen : vs.length = ps.length) (hz : ps.length ≤ 1000) (hm : ∀ (j : Nat) (v : Value), vs[j]? = some v → ∃ pr t w z, ps[j]? = some pr ∧ v = .ref t ∧ TU g2 t [.int pr.1 w, .int pr.2 z]) (hnd : (ps.map (·.1)).Nodup)
    (h : ∀ D g3, Sub g2 g3 → DInt W g3 D ps → Q (.ref D) g3 l) : R W (n + 1) env g2 l (call (.type "dict") [.ref a]) Q := by
  refine R_dictOf hl (fun D i g'' => MadeI W g2 g'' D ps i) (fun D lo gD BD => ⟨lo, gD, BD, Sub.refl.up gD, [], emptyD, up_same, DIo.nil, rfl, fun j pr e => by simp at e⟩) (fun D i g' o m e => m.sub _ _ e) ?_ ?_
  · intro D i g' hi m
    obtain ⟨kvs, o, ho, hd, hk⟩ := m.h
    obtain ⟨v, hv⟩ : ∃ v, vs[i]? = some v := ⟨vs[i], by simp [hi]⟩
    obtain ⟨pr, t, w, z, hpr, rfl, htu⟩ := hm i v hv
    have hkl : kvs.length = i := by rw [hk.1, List.length_take]; omega
    refine ⟨t, .int pr.1 w, .int pr.2 z, hv, htu.sub m.sub, R_dsetI ho hd m.base (by omega) fun o' ho' => ⟨rfl, m.lo, m.fresh, m.base, m.sub.up' m.fresh, _, o', up_same, ho', ?_⟩⟩
    have hnk : pr.1 ∉ kvs.map (·.1) := by
      rw [hk.keys]
      intro hmem
      obtain ⟨j, hj⟩ := List.mem_iff_getElem?.mp hmem
      rw [List.getElem?_map, List.getElem?_take] at hj
      split at hj
      · rename_i hji
        cases e : ps[j]? with
        | none => rw [e] at hj; cases hj
        | some q =>
          rw [e] at hj
          have a1 : (ps.map (·.1))[j]? = some pr.1 := by rw [List.getElem?_map, e]; exact hj
          have a2 : (ps.map (·.1))[i]? = some pr.1 := by rw [List.getElem?_map, hpr]; rfl
          have := (List.getElem?_inj (by rw [List.length_map]; exact (List.getElem?_eq_some_iff.mp e).1) hnd).mp (a1.trans a2.symm)
          omega
      · cases hj
    have hst : stored kvs pr.1 (.int pr.2 z) = kvs ++ [(pr.1, .int pr.2 z)] := by
      unfold stored
      rw [if_neg]
      intro q
      obtain ⟨y, hy, e⟩ := List.any_eq_true.mp q
      exact hnk (List.mem_map.mpr ⟨y, hy, of_decide_eq_true e⟩)
    rw [hst]
    refine ⟨by rw [List.length_append, hkl, List.length_take]; simp; omega, fun j q hj => ?_⟩
    rw [List.getElem?_take] at hj
    split at hj
    · rename_i hji
      rcases Nat.lt_or_ge j i with hlt | hge
      · rw [List.getElem?_append_left (by omega)]
        exact hk.2 j q (by rw [List.getElem?_take, if_pos hlt]; exact hj)
      · have : j = i := by omega
        subst this
        rw [hpr] at hj
        cases hj
        rw [List.getElem?_append_right (by omega), hkl, Nat.sub_self]
        exact ⟨z, rfl⟩
    · cases hj
  · intro D g3 m
    obtain ⟨kvs, o, ho, hd, hk⟩ := m.h
    rw [List.take_of_length_le (by omega)] at hk
    exact h D g3 m.sub ⟨m.lo, hnd, kvs, ⟨o, ho, hd⟩, hk⟩
theorem R_toFree {W : Wd KF} {n : Nat} {env : Env} {l : Lm} {g : Gh} {S : Gh} {p cl c : Addr} {b : Int} {o : Obj} {x : Str} {pos : Pos} {v : Value} {Q : Value → Gh → Lm → Prop} (hp : PG W p cl b S g) (hk : env.scope.kind = .function) (hx : env.kindOf x = some .cell) (hd : (x == ("__debug__" : Str)) = false) (hc : env.cells.lookup x = some c) (ho : S c = some o) (hv : o.data = .cell (some v)) (h : Q v g l) :
    R W n env g l (eval (.Name x pos) env) Q := R_cell hk hx hd hc (hp.sub _ _ ho) hv h

theorem range_ps {ps : List (Int × Int)} (hl : ps.length = 5) (h : ∀ (j : Nat) (pr : Int × Int), ps[j]? = some pr → pr.1 = 1 + (j : Int) ∧ 0 ≤ pr.2 ∧ pr.2 < 3) : ps.map (·.1) = [1, 2, 3, 4, 5] := by
  apply List.ext_getElem?
  intro j
  rw [List.getElem?_map]
  rcases Nat.lt_or_ge j 5 with hj | hj
  · have hj' : j < ps.length := by omega
    have := (h j ps[j] (by simp [hj'])).1
    rw [List.getElem?_eq_getElem hj', Option.map_some, this]
    rcases (show j = 0 ∨ j = 1 ∨ j = 2 ∨ j = 3 ∨ j = 4 by omega) with rfl | rfl | rfl | rfl | rfl <;> rfl
  · rw [List.getElem?_eq_none (by omega), List.getElem?_eq_none (by simp; omega)]; rfl
def clsOf (ps : List (Int × Int)) (y : Int) : Int := ((ps[(y - 1).toNat]?).getD (0, 0)).2
def DrawI (W : Wd KF) (p cl : Addr) (b : Int) (S : Gh) (i : Nat) (ys : List Value) (g' : Gh) : Prop :=
  ∃ (S' : Gh) (ps : List (Int × Int)), PG W p cl (b + i) S' g' ∧ Sub S S' ∧ ps.length = i ∧ ys.length = i ∧ (∀ (j : Nat) (pr : Int × Int), ps[j]? = some pr → pr.1 = 1 + (j : Int) ∧ 0 ≤ pr.2 ∧ pr.2 < 3) ∧
    ∀ (j : Nat) (v : Value), ys[j]? = some v → ∃ pr t w z, ps[j]? = some pr ∧ v = .ref t ∧ TU S' t [.int pr.1 w, .int pr.2 z]
theorem snoc_get {α : Type} {xs : List α} {x y : α} {j : Nat} (e : (xs ++ [x])[j]? = some y) : (j < xs.length ∧ xs[j]? = some y) ∨ (j = xs.length ∧ y = x) := by
  rcases Nat.lt_or_ge j xs.length with hlt | hge
  · rw [List.getElem?_append_left hlt] at e; exact .inl ⟨hlt, e⟩
  · rw [List.getElem?_append_right hge] at e
    have h0 : j - xs.length = 0 := by
      rcases Nat.eq_zero_or_pos (j - xs.length) with h | h
      · exact h
      · rw [List.getElem?_eq_none (by simp; omega)] at e; cases e
    rw [h0] at e
    simp at e
    exact .inr ⟨by omega, e.symm⟩
theorem DrawI.snoc {W : Wd KF} {p cl ta : Addr} {b : Int} {S S' g2 : Gh} {i : Nat} {ys : List Value} {ps : List (Int × Int)} {k : Int} {tv t : Tok} (hs' : Sub S S') (hpl : ps.length = i) (hyl : ys.length = i) (hps : ∀ (j : Nat) (pr : Int × Int), ps[j]? = some pr → pr.1 = 1 + (j : Int) ∧ 0 ≤ pr.2 ∧ pr.2 < 3)
    (hys : ∀ (j : Nat) (v : Value), ys[j]? = some v → ∃ pr t w z, ps[j]? = some pr ∧ v = .ref t ∧ TU S' t [.int pr.1 w, .int pr.2 z]) (hk0 : 0 ≤ k) (hk1 : k < 3) (hp2 : PG W p cl (b + i + 1) S' g2) (gta : g2 ta = none) :
    DrawI W p cl b S (i + 1) (ys ++ [.ref ta]) (up g2 ta (tupO [.int (1 + (i : Int)) tv, .int k t])) := by
  obtain ⟨Sta, hp3⟩ := hp2.alloc (o := tupO [.int (1 + (i : Int)) tv, .int k t]) gta
  refine ⟨_, ps ++ [(1 + (i : Int), k)], hp3.wait (by omega), (hs'.trans (Sub.refl.up Sta)), by simp [hpl], by simp [hyl], fun j pr e => ?_, fun j v e => ?_⟩
  · rcases snoc_get e with ⟨_, e⟩ | ⟨e1, rfl⟩
    · exact hps j pr e
    · exact ⟨by rw [e1, hpl], hk0, hk1⟩
  · rcases snoc_get e with ⟨hlt, e⟩ | ⟨e1, rfl⟩
    · obtain ⟨pr, t, w, z, a1, a2, a3⟩ := hys j v e
      exact ⟨pr, t, w, z, by rw [List.getElem?_append_left (by omega)]; exact a1, a2, a3.sub (Sub.refl.up Sta)⟩
    · exact ⟨(1 + (i : Int), k), ta, tv, t, by rw [List.getElem?_append_right (by omega), show j - ps.length = 0 by omega]; rfl, rfl, ⟨_, up_same⟩⟩

theorem PG.dint {W : Wd KF} {p cl D : Addr} {b : Int} {S g : Gh} {ps : List (Int × Int)} (h : PG W p cl b S g) (x : DInt W g D ps) : DInt W S D ps := by
  obtain ⟨o, _, _, _, e, d⟩ := h.pen
  obtain ⟨_, _, _, _, rfl⟩ := d.obj
  obtain ⟨_, _, ⟨k, ec⟩, _⟩ := d.cells
  obtain ⟨kvs, ⟨od, hod, hdd⟩, hk⟩ := x.h
  have hne : ∀ {a : Addr} {vs : List Value} {k : Nat}, g a = some (lstO vs k) → D ≠ a := fun {a vs k} ha q => by
    obtain ⟨es, ep, _, hda, _⟩ := hdd
    rw [q, ha] at hod
    cases hod
    cases hda
  exact ⟨x.lo, x.nodup, kvs, ⟨od, by rw [h.off]; exact off2_new (hne e) (hne ec) hod, hdd⟩, hk⟩

def ElR (S : Gh) (sec : Bool) (ps : List Value) (rv : List (V4 × V4)) : Prop := ps.length = rv.length ∧ ∀ (j : Nat) (w : Value), ps[j]? = some w → ∃ q, rv[j]? = some q ∧ PairT S w q ∧ (sec = false → q.2 = V4.zero)
theorem ElR.sub {S S' : Gh} {sec : Bool} {ps : List Value} {rv : List (V4 × V4)} (h : ElR S sec ps rv) (s : Sub S S') : ElR S' sec ps rv := ⟨h.1, fun j w e => let ⟨q, a, b, c⟩ := h.2 j w e; ⟨q, a, b.sub s, c⟩⟩
theorem ElR.snoc {S : Gh} {sec : Bool} {ps : List Value} {rv : List (V4 × V4)} {w : Value} {q : V4 × V4} (h : ElR S sec ps rv) (hw : PairT S w q) (hz : sec = false → q.2 = V4.zero) : ElR S sec (ps ++ [w]) (rv ++ [q]) :=
  ⟨by simp [h.1], fun j x e => by
    rcases snoc_get e with ⟨hlt, e⟩ | ⟨e1, rfl⟩
    · obtain ⟨q', a, b, c⟩ := h.2 j x e
      exact ⟨q', by rw [List.getElem?_append_left (by rw [← h.1]; exact hlt)]; exact a, b, c⟩
    · exact ⟨q, by rw [e1, h.1]; simp, hw, hz⟩⟩
def RowsT (S : Gh) (sec : Bool) (ys : List Value) (rvs : List (List (V4 × V4))) : Prop := ys.length = rvs.length ∧ ∀ (j : Nat) (v : Value), ys[j]? = some v → ∃ r ps rv, v = .ref r ∧ LI S r ps ∧ rvs[j]? = some rv ∧ rv.length = 2 ∧ ElR S sec ps rv
theorem RowsT.sub {S S' : Gh} {sec : Bool} {ys : List Value} {rvs : List (List (V4 × V4))} (h : RowsT S sec ys rvs) (s : Sub S S') : RowsT S' sec ys rvs := ⟨h.1, fun j v e => let ⟨r, ps, rv, a, b, c, d, f⟩ := h.2 j v e; ⟨r, ps, rv, a, b.sub s, c, d, f.sub s⟩⟩
theorem RowsT.snoc {S : Gh} {sec : Bool} {ys : List Value} {rvs : List (List (V4 × V4))} {r : Addr} {ps : List Value} {rv : List (V4 × V4)} (h : RowsT S sec ys rvs) (hr : LI S r ps) (hl : rv.length = 2) (he : ElR S sec ps rv) : RowsT S sec (ys ++ [.ref r]) (rvs ++ [rv]) :=
  ⟨by simp [h.1], fun j x e => by
    rcases snoc_get e with ⟨hlt, e⟩ | ⟨e1, rfl⟩
    · obtain ⟨r', ps', rv', a, b, c, d⟩ := h.2 j x e
      exact ⟨r', ps', rv', a, b, by rw [List.getElem?_append_left (by rw [← h.1]; exact hlt)]; exact c, d⟩
    · exact ⟨r, ps, rv, rfl, hr, by rw [e1, h.1]; simp, hl, he⟩⟩

theorem DInt.cls {W : Wd KF} {g : Gh} {D : Addr} {ps : List (Int × Int)} (x : DInt W g D ps) (hl : ps.length = 5) (hps : ∀ (j : Nat) (pr : Int × Int), ps[j]? = some pr → pr.1 = 1 + (j : Int) ∧ 0 ≤ pr.2 ∧ pr.2 < 3) {y : Int} (h1 : 1 ≤ y) (h2 : y ≤ 5) :
    (∃ kvs z, DI W g D kvs ∧ valueAt kvs y = some (.int (clsOf ps y) z)) ∧ 0 ≤ clsOf ps y ∧ clsOf ps y < 3 := by
  have hj : ps[(y - 1).toNat]? = some ps[(y - 1).toNat] := by simp
  obtain ⟨a1, a2, a3⟩ := hps _ _ hj
  have hc : clsOf ps y = (ps[(y - 1).toNat]).2 := by unfold clsOf; rw [hj]; rfl
  obtain ⟨kvs, z, hD, hv⟩ := x.at hj
  have hy : (ps[(y - 1).toNat]).1 = y := by rw [a1]; omega
  rw [hy, ← hc] at hv
  rw [← hc] at a2 a3
  exact ⟨⟨kvs, z, hD, hv⟩, a2, a3⟩
def rvOf (rvs : List (List (V4 × V4))) (i j : Nat) : V4 × V4 := (((rvs[i]?).getD [])[j]?).getD (V4.zero, V4.zero)
def mpF (ns : List Int) (i : Nat) (c1 c2 : Int → Int) (rvs : List (List (V4 × V4))) : Int → Int → Option (V4 × V4) := fun a b => if a ∈ ns.take i ∧ 1 ≤ b ∧ b ≤ 5 ∧ c2 b < 2 then some (rvOf rvs (c1 a).toNat (c2 b).toNat) else none
def mpG (ns : List Int) (i : Nat) (x : Int) (k : Nat) (c1 c2 : Int → Int) (rvs : List (List (V4 × V4))) : Int → Int → Option (V4 × V4) := fun a b => if (a ∈ ns.take i ∨ (a = x ∧ b < 1 + (k : Int))) ∧ 1 ≤ b ∧ b ≤ 5 ∧ c2 b < 2 then some (rvOf rvs (c1 a).toNat (c2 b).toNat) else none
theorem DictT.le {W : Wd KF} {S : Gh} {d : Addr} {mp : Int → Int → Option (V4 × V4)} {sec : Bool} {N N' : Nat} (h : DictT W S d mp sec N) (hn : N ≤ N') : DictT W S d mp sec N' := ⟨h.lo, h.base, let ⟨xs, a, b, c⟩ := h.h; ⟨xs, a, Nat.le_trans b hn, c⟩⟩
theorem mpG_zero {ns : List Int} {i : Nat} {x : Int} {c1 c2 : Int → Int} {rvs : List (List (V4 × V4))} : mpG ns i x 0 c1 c2 rvs = mpF ns i c1 c2 rvs := by
  funext a b
  unfold mpG mpF
  by_cases h : a ∈ ns.take i ∧ 1 ≤ b ∧ b ≤ 5 ∧ c2 b < 2
  · rw [if_pos h, if_pos ⟨.inl h.1, h.2⟩]
  · rw [if_neg h, if_neg]
    rintro ⟨h1 | h1, h2⟩
    · exact h ⟨h1, h2⟩
    · omega
theorem mpG_five {ns : List Int} {i : Nat} {x : Int} {c1 c2 : Int → Int} {rvs : List (List (V4 × V4))} (hx : ns[i]? = some x) : mpG ns i x 5 c1 c2 rvs = mpF ns (i + 1) c1 c2 rvs := by
  funext a b
  unfold mpG mpF
  rw [List.take_add_one, hx]
  by_cases h : a ∈ ns.take i ++ (some x).toList ∧ 1 ≤ b ∧ b ≤ 5 ∧ c2 b < 2
  · rw [if_pos h, if_pos]
    refine ⟨?_, h.2⟩
    rcases List.mem_append.mp h.1 with h1 | h1
    · exact .inl h1
    · simp at h1; exact .inr ⟨h1, by omega⟩
  · rw [if_neg h, if_neg]
    rintro ⟨h1 | h1, h2⟩
    · exact h ⟨List.mem_append.mpr (.inl h1), h2⟩
    · exact h ⟨List.mem_append.mpr (.inr (by simp [h1.1])), h2⟩
theorem mpG_skip {ns : List Int} {i k : Nat} {x : Int} {c1 c2 : Int → Int} {rvs : List (List (V4 × V4))} (h : ¬ c2 (1 + (k : Int)) < 2) : mpG ns i x (k + 1) c1 c2 rvs = mpG ns i x k c1 c2 rvs := by
  funext a b
  unfold mpG
  by_cases q : b = 1 + (k : Int)
  · subst q
    rw [if_neg fun z => h z.2.2.2, if_neg fun z => h z.2.2.2]
  · have : (b < 1 + ((k + 1 : Nat) : Int)) ↔ b < 1 + (k : Int) := by omega
    simp only [this]
theorem mpG_step {ns : List Int} {i k : Nat} {x : Int} {c1 c2 : Int → Int} {rvs : List (List (V4 × V4))} (hk : k < 5) (h : c2 (1 + (k : Int)) < 2) : updM (mpG ns i x k c1 c2 rvs) x (1 + (k : Int)) (rvOf rvs (c1 x).toNat (c2 (1 + (k : Int))).toNat) = mpG ns i x (k + 1) c1 c2 rvs := by
  funext a b
  unfold updM
  by_cases q : a = x ∧ b = 1 + (k : Int)
  · obtain ⟨rfl, rfl⟩ := q
    rw [if_pos ⟨rfl, rfl⟩]
    unfold mpG
    rw [if_pos ⟨.inr ⟨rfl, by omega⟩, by omega, by omega, h⟩]
  · rw [if_neg q]
    unfold mpG
    by_cases z : a = x
    · have hb : b ≠ 1 + (k : Int) := fun e => q ⟨z, e⟩
      have : (b < 1 + ((k + 1 : Nat) : Int)) ↔ b < 1 + (k : Int) := by omega
      simp only [this]
    · simp only [z, false_and]

def plainOf (ps : List (Int × Int)) : List (Int × Int) := ps.filter fun q => decide (0 < q.2)
theorem plain_cls {ps : List (Int × Int)} {kvs : List (Int × Value)} (hn : ((plainOf ps).map (·.1)).Nodup) (hk : KVs kvs (plainOf ps)) (hl : ps.length = 5) (hps : ∀ (j : Nat) (pr : Int × Int), ps[j]? = some pr → pr.1 = 1 + (j : Int) ∧ 0 ≤ pr.2 ∧ pr.2 < 3) {y : Int} {t : Tok} (h1 : 1 ≤ y) (h2 : y ≤ 5) :
    ∃ t', (valueAt kvs y).getD (.int 0 t) = .int (clsOf ps y) t' := by
  have hj : ps[(y - 1).toNat]? = some ps[(y - 1).toNat] := by simp
  generalize ps[(y - 1).toNat] = pr at hj
  obtain ⟨a1, a2, a3⟩ := hps _ _ hj
  have hc : clsOf ps y = pr.2 := by unfold clsOf; rw [hj]; rfl
  have hy : pr.1 = y := by rw [a1]; omega
  by_cases q : 0 < pr.2
  · have hm : pr ∈ plainOf ps := List.mem_filter.mpr ⟨List.mem_of_getElem? hj, by simpa using q⟩
    obtain ⟨i, hi⟩ := List.mem_iff_getElem?.mp hm
    obtain ⟨z, hz⟩ := hk.2 i pr hi
    have := valueAt_some (by rw [hk.keys]; exact hn) hz
    rw [hy] at this
    rw [this, hc]
    exact ⟨z, rfl⟩
  · have : valueAt kvs y = none := valueAt_none (by
      rw [hk.keys]
      intro hm
      obtain ⟨q', hq', e⟩ := List.mem_map.mp hm
      obtain ⟨b1, b2⟩ := List.mem_filter.mp hq'
      obtain ⟨i, hi⟩ := List.mem_iff_getElem?.mp b1
      have c1 := (hps _ _ hi).1
      have : i = (y - 1).toNat := by omega
      subst this
      rw [hj] at hi
      cases hi
      exact q (of_decide_eq_true b2))
    rw [this, hc]
    exact ⟨t, by rw [Option.getD_none]; congr 1; omega⟩
theorem DInt.other {W : Wd KF} {g : Gh} {D c : Addr} {ps : List (Int × Int)} {o o' : Obj} (x : DInt W g D ps) (hc : g c = some o) (hne : ∀ es ep, o.data ≠ .dict es ep) : DInt W (up g c o') D ps := by
  obtain ⟨kvs, ⟨od, hod, hdd⟩, hk⟩ := x.h
  refine ⟨x.lo, x.nodup, kvs, ⟨od, (up_ne fun q => ?_).trans hod, hdd⟩, hk⟩
  obtain ⟨es, ep, _, hda, _⟩ := hdd
  rw [q, hc] at hod
  cases hod
  exact hne _ _ hda
theorem plain_nodup {ps : List (Int × Int)} (h : (ps.map (·.1)).Nodup) : ((plainOf ps).map (·.1)).Nodup := h.sublist (List.filter_sublist.map _)

theorem law_class_table {W : Wd KF} {n : Nat} {L : Addr} {l : Lm} {S g : Gh} {p cl : Addr} {b : Int} {sec : Bool} {Q : Value → Gh → Prop} (hp : PG W p cl b S g) (hb : b ≤ 500)
    (h : ∀ S' g' t tb pd mp, PG W p cl (b + 40) S' g' → Sub S S' → TU g' t [.ref tb, .ref pd] → Tab W g' tb mp sec → DictT W g' pd mp sec 1000 → Q (.ref t) g') : RC W (n+9) L l g (.call (.ref 526) ⟨[.ref p, .bool sec], []⟩) Q := by
  refine RC_defC (binds := [(Str.ofString "pen", .ref p), (Str.ofString "is_second", .bool sec)]) [] (by k_is) (by k_is) (fun _ _ => BindsTo.of_eq rfl) rfl (by decide) rfl rfl rfl (fun L' q hq => by cases hq) fun L' g0 hold hcells => ?_
  obtain ⟨⟨gs, Bs, os, hcs, hsd0⟩, ⟨gp, Bp, op, hcp, hpd0⟩, _⟩ := hcells
  have hpd : op.data = .cell (some (.ref p)) := hpd0
  have hsd : os.data = .cell (some (.bool sec)) := hsd0
  clear hpd0 hsd0
  obtain ⟨hp0, hs0⟩ := hp.grow hold
  obtain ⟨⟨o1, e1⟩, ⟨o2, e2⟩⟩ := hp.has
  have hSs0 := off2_new (Ne.symm (ne_get e1 gs)) (Ne.symm (ne_get e2 gs)) hcs
  have hSp0 := off2_new (Ne.symm (ne_get e1 gp)) (Ne.symm (ne_get e2 gp)) hcp
  generalize hS0 : off2 p cl g0 = S0 at *

  -- firsts
  repeat walk_at "s"
  refine R_comp (cl := _) (fun _ => rfl) rfl rfl rfl rfl rfl ?_
  repeat walk_at "s"
  refine R_range2 fun r1 t1 t2 t3 gr1 Br => ?_
  obtain ⟨Sr1, hpr1⟩ := hp0.alloc (o := rngO 1 6 t1 t2 t3) gr1
  refine ⟨_, _, _, DrawI W p cl (b) S0, Src.range (N := 5) up_same (by decide) (by decide) (by decide) (by decide) (by decide), ⟨?_, fun e he => he.elim, fun i ys g' _ e o he _ => he.elim, ?_, by rw [sizeLine_eq]; omega, ?_⟩, ?_⟩
  · exact ⟨_, [], hpr1.wait (by omega), Sub.refl.up Sr1, rfl, rfl, fun j pr e => (by simp at e), fun j v e => (by simp at e)⟩
  · rintro C i v ys g' hi ⟨tv, rfl⟩ ⟨S', ps, hp', hs', hpl, hyl, hps, hys⟩
    refine R_tests0 ⟨fun _ => ?_, fun q => (by cases q)⟩
    repeat walk_at "s"
    refine R_toFree hp' rfl rfl rfl rfl (hs' _ _ hSp0) hpd ?_
    repeat walk_at "s"
    refine R_ofRC (drawP hp' (by decide) (by decide) (by omega) fun k t g2 hk0 hk1 hp2 => ?_)
    repeat walk_at "s"
    exact DrawI.snoc hs' hpl hyl hps hys hk0 hk1 hp2 (by with_reducible assumption)
  · rintro i ys g' ⟨S', ps, _, _, _, hyl, _⟩
    rw [hyl]; exact Nat.le_refl _
  rintro D g' ys k gD BD ⟨S', ps1, hp', hs', hpl1, hyl, hps1, hys⟩
  obtain ⟨SD, hp3⟩ := hp'.alloc (o := lstO ys k) gD
  repeat walk_at "s"
  refine R_dictInts (ps := ps1) ⟨_, up_same⟩ (by omega) (by omega) (fun j v e => let ⟨pr, t, w, z, a1, a2, a3⟩ := hys j v e; ⟨pr, t, w, z, a1, a2, a3.sub ((Sub.refl.up SD).trans hp3.sub)⟩) (by rw [range_ps hpl1 hps1]; decide) fun D1 g3 s3 hDI1 => ?_
  obtain ⟨hp1, hs3⟩ := hp3.grow s3
  have hS1 : Sub S0 (off2 p cl g3) := (hs'.trans (Sub.refl.up SD)).trans hs3
  have hSp1 := hS1 _ _ hSp0
  have hSs1 := hS1 _ _ hSs0
  have hDS1 := hp1.dint hDI1
  generalize off2 p cl g3 = S1 at *

  -- seconds
  repeat walk_at "s"
  refine R_comp (cl := _) (fun _ => rfl) rfl rfl rfl rfl rfl ?_
  repeat walk_at "s"
  refine R_range2 fun r2 t1 t2 t3 gr2 Br => ?_
  obtain ⟨Sr2, hpr2⟩ := hp1.alloc (o := rngO 1 6 t1 t2 t3) gr2
  refine ⟨_, _, _, DrawI W p cl (b + 5) S1, Src.range (N := 5) up_same (by decide) (by decide) (by decide) (by decide) (by decide), ⟨?_, fun e he => he.elim, fun i ys g' _ e o he _ => he.elim, ?_, by rw [sizeLine_eq]; omega, ?_⟩, ?_⟩
  · exact ⟨_, [], hpr2.wait (by omega), Sub.refl.up Sr2, rfl, rfl, fun j pr e => (by simp at e), fun j v e => (by simp at e)⟩
  · rintro C i v ys g' hi ⟨tv, rfl⟩ ⟨S', ps, hp', hs', hpl, hyl, hps, hys⟩
    refine R_tests0 ⟨fun _ => ?_, fun q => (by cases q)⟩
    repeat walk_at "s"
    refine R_toFree hp' rfl rfl rfl rfl (hs' _ _ hSp1) hpd ?_
    repeat walk_at "s"
    refine R_ofRC (drawP hp' (by decide) (by decide) (by omega) fun k t g2 hk0 hk1 hp2 => ?_)
    repeat walk_at "s"
    exact DrawI.snoc hs' hpl hyl hps hys hk0 hk1 hp2 (by with_reducible assumption)
  · rintro i ys g' ⟨S', ps, _, _, _, hyl, _⟩
    rw [hyl]; exact Nat.le_refl _
  rintro D g' ys k gD BD ⟨S', ps2, hp', hs', hpl2, hyl, hps2, hys⟩
  obtain ⟨SD, hp3⟩ := hp'.alloc (o := lstO ys k) gD
  repeat walk_at "s"
  refine R_dictInts (ps := ps2) ⟨_, up_same⟩ (by omega) (by omega) (fun j v e => let ⟨pr, t, w, z, a1, a2, a3⟩ := hys j v e; ⟨pr, t, w, z, a1, a2, a3.sub ((Sub.refl.up SD).trans hp3.sub)⟩) (by rw [range_ps hpl2 hps2]; decide) fun D2 g3 s3 hDI2 => ?_
  obtain ⟨hp2, hs3⟩ := hp3.grow s3
  have hS2 : Sub S1 (off2 p cl g3) := (hs'.trans (Sub.refl.up SD)).trans hs3
  have hSp2 := hS2 _ _ hSp1
  have hSs2 := hS2 _ _ hSs1
  have hDS2 := hp2.dint hDI2
  generalize off2 p cl g3 = S2 at *
  -- covered
  have hDS1' := hDS1.sub hS2
  repeat walk_at "s"
  refine R_assignComp (cl := _) rfl rfl rfl (fun _ => rfl) rfl rfl rfl rfl rfl ?_
  repeat walk_at "s"
  refine R_range2 fun r3 t1 t2 t3 gr3 Br => ?_
  obtain ⟨Sr3, hpr3⟩ := hp2.alloc (o := rngO 1 6 t1 t2 t3) gr3
  refine ⟨_, _, _, fun i ys g' => ∃ (S' : Gh) (ns : List Int), PG W p cl (b + 10 + i) S' g' ∧ Sub S2 S' ∧ IntsAre ys ns ∧ ns.length ≤ i ∧ ∀ y ∈ ns, 1 ≤ y ∧ y ≤ 5, Src.range (N := 5) up_same (by decide) (by decide) (by decide) (by decide) (by decide), ⟨?_, fun e he => he.elim, fun i ys g' _ e o he _ => he.elim, ?_, by rw [sizeLine_eq]; omega, ?_⟩, ?_⟩
  · exact ⟨_, [], hpr3.wait (by omega), Sub.refl.up Sr3, .nil, Nat.le_refl _, fun y hy => (by cases hy)⟩
  · rintro C i v ys g' hi ⟨tv, rfl⟩ ⟨S', ns, hp', hs', hys, hnl, hns⟩
    refine R_tests1 ?_
    repeat walk_at "s"
    refine R_toFree hp' rfl rfl rfl rfl (hs' _ _ hSp2) hpd ?_
    repeat walk_at "s"
    refine R_ofRC (drawP hp' (by decide) (by decide) (by omega) fun k t g2 hk0 hk1 hp2 => ?_)
    repeat walk_at "s"
    refine ⟨fun q => ?_, fun q => ?_⟩
    · repeat walk_at "s"
      exact ⟨S', ns ++ [1 + (i : Int)], hp2.wait (by omega), hs', ints_snoc _ _ hys, by simp; omega, fun y hy => by
        rcases List.mem_append.mp hy with hy | hy
        · exact hns y hy
        · simp at hy; omega⟩
    · exact ⟨S', ns, hp2.wait (by omega), hs', hys, by omega, hns⟩
  · rintro i ys g' ⟨S', ns, _, _, hys, hnl, _⟩
    rw [hys.length]; exact hnl
  rintro Dc g' cys k gD BD ⟨S', ns, hp', hs', hcov, hnl, hns⟩
  obtain ⟨SD, hp3⟩ := hp'.alloc (o := lstO cys k) gD
  have hDc : LI (up S' Dc (lstO cys k)) Dc cys := ⟨_, up_same⟩
  have hS3 : Sub S2 (up S' Dc (lstO cys k)) := hs'.trans (Sub.refl.up SD)
  have hSp3 := hS3 _ _ hSp2
  have hSs3 := hS3 _ _ hSs2
  generalize up S' Dc (lstO cys k) = S3 at *
  -- rows
  repeat walk_at "s"
  refine R_assignComp (cl := _) rfl rfl rfl (fun _ => rfl) rfl rfl rfl rfl rfl ?_
  repeat walk_at "s"
  refine R_base fun hbase => ?_
  have hmenu0 := hp3.menu (menu_base hbase)
  refine R_range1 fun r4 t1 t2 t3 gr4 Br => ?_
  obtain ⟨Sr4, hpr4⟩ := hp3.alloc (o := rngO 0 3 t1 t2 t3) gr4
  have hmenu := hmenu0.sub (Sub.refl.up (o := rngO 0 3 t1 t2 t3) Sr4)
  refine ⟨_, _, _, fun i ys g' => ∃ (S' : Gh) (rvs : List (List (V4 × V4))), PG W p cl (b + 15 + 4 * i) S' g' ∧ Sub (up S3 r4 (rngO 0 3 t1 t2 t3)) S' ∧ rvs.length = i ∧ RowsT S' sec ys rvs, Src.range (N := 3) up_same (by decide) (by decide) (by decide) (by decide) (by decide), ⟨?_, fun e he => he.elim, fun i ys g' _ e o he _ => he.elim, ?_, by rw [sizeLine_eq]; omega, ?_⟩, ?_⟩
  · exact ⟨_, [], hpr4.wait (by omega), Sub.refl, rfl, rfl, fun j v e => (by simp at e)⟩
  · rintro C i v ys g' hi ⟨tv, rfl⟩ ⟨S', rvs, hp', hs', hrl, hrows⟩
    refine R_tests0 ⟨fun _ => ?_, fun q => (by cases q)⟩
    refine R_comp (cl := _) (fun _ => rfl) rfl rfl rfl rfl rfl ?_
    repeat walk_at "s"
    refine R_range1 fun r5 u1 u2 u3 gr5 Br => ?_
    obtain ⟨Sr5, hpr5⟩ := hp'.alloc (o := rngO 0 2 u1 u2 u3) gr5
    refine ⟨_, _, _, fun i2 ys2 g' => ∃ (S'' : Gh) (rv : List (V4 × V4)), PG W p cl (b + 15 + 4 * i + 2 * i2) S'' g' ∧ Sub (up S' r5 (rngO 0 2 u1 u2 u3)) S'' ∧ rv.length = i2 ∧ ElR S'' sec ys2 rv, Src.range (N := 2) up_same (by decide) (by decide) (by decide) (by decide) (by decide), ⟨?_, fun e he => he.elim, fun i ys g' _ e o he _ => he.elim, ?_, by rw [sizeLine_eq]; omega, ?_⟩, ?_⟩
    · exact ⟨_, [], hpr5.wait (by omega), Sub.refl, rfl, rfl, fun j v e => (by simp at e)⟩
    · rintro C2 i2 v2 ys2 g2 hi2 ⟨tv2, rfl⟩ ⟨S'', rv, hp'', hs'', hrvl, hel⟩
      have hsS : Sub S3 S'' := ((Sub.refl.up Sr4).trans hs').trans ((Sub.refl.up Sr5).trans hs'')
      have hSpx := hsS _ _ hSp3
      have hSsx := hsS _ _ hSs3
      have hmx := hmenu.sub (hs'.trans ((Sub.refl.up Sr5).trans hs''))
      refine R_tests0 ⟨fun _ => ?_, fun q => (by cases q)⟩
      repeat walk_at "s"
      refine R_toFree hp'' rfl rfl rfl rfl hSpx hpd ?_
      repeat walk_at "s"
      refine R_ofRC (drawP hp'' (by decide) (by decide) (by omega) fun k3 t3 g7 h30 h31 hp7 => ?_)
      obtain ⟨a3, ha3, hT3⟩ := hmx.at h30 h31
      repeat walk_at "s"
      refine R_itemT (hmx.list.sub hp7.sub) h30 (by omega) ha3 rfl ?_
      repeat walk_at "s"
      refine R_mono (Q := fun v g' l' => ∃ k4 t4, v = .int k4 t4 ∧ 0 ≤ k4 ∧ k4 < 4 ∧ (sec = false → k4 = 1) ∧ PG W p cl (b + 15 + 4 * i + 2 * (i2 + 1 : Nat)) S'' g') ?_ ?_
      · walk_at "ife"
        repeat walk_at "s"
        refine R_toFree hp7 rfl rfl rfl rfl hSsx hsd ?_
        repeat walk_at "s"
        refine ⟨fun q => ?_, fun q => ?_⟩
        · repeat walk_at "s"
          refine R_toFree hp7 rfl rfl rfl rfl hSpx hpd ?_
          repeat walk_at "s"
          refine R_ofRC (drawP hp7 (by decide) (by decide) (by omega) fun k4 t4 g8 h40 h41 hp8 => ?_)
          exact ⟨k4, t4, rfl, h40, h41, fun z => (by rw [q] at z; cases z), hp8.wait (by omega)⟩
        · repeat walk_at "s"
          exact ⟨1, _, rfl, by decide, by decide, fun _ => rfl, hp7.wait (by omega)⟩
      · rintro _ g8 l8 ⟨k4, t4, rfl, h40, h41, hk4, hp8⟩
        obtain ⟨a4, ha4, hT4⟩ := hmx.at h40 h41
        refine R_itemT (hmx.list.sub hp8.sub) h40 (by omega) ha4 rfl ?_
        repeat walk_at "s"
        rename_i v gv Bv
        obtain ⟨Sv, hp9⟩ := hp8.alloc (o := tupO [.ref a3, .ref a4]) gv
        have sv : Sub S'' (up S'' v (tupO [.ref a3, .ref a4])) := Sub.refl.up Sv
        exact ⟨_, rv ++ [(menuV k3, menuV k4)], hp9, hs''.trans sv, by simp [hrvl], (hel.sub sv).snoc ⟨v, a3, a4, rfl, ⟨_, up_same⟩, hT3.sub sv, hT4.sub sv⟩ fun z => by rw [hk4 z]; rfl⟩
    · rintro i2 ys2 g2 ⟨S'', rv, _, _, hrvl, hel⟩
      rw [hel.1, hrvl]; exact Nat.le_refl _
    rintro Dr g9 ys2 kr gDr BDr ⟨S'', rv, hp'', hs'', hrvl, hel⟩
    obtain ⟨SDr, hp10⟩ := hp''.alloc (o := lstO ys2 kr) gDr
    have s10 : Sub S'' (up S'' Dr (lstO ys2 kr)) := Sub.refl.up SDr
    have s11 : Sub S' (up S'' Dr (lstO ys2 kr)) := ((Sub.refl.up Sr5).trans hs'').trans s10
    exact ⟨_, rvs ++ [rv], hp10.wait (by omega), hs'.trans s11, by simp [hrl], (hrows.sub s11).snoc ⟨_, up_same⟩ hrvl (hel.sub s10)⟩
  · rintro i ys g' ⟨S', rvs, _, _, hrl, hrows⟩
    rw [hrows.1, hrl]; exact Nat.le_refl _
  rintro Dw gw rws kw gDw BDw ⟨S', rvs, hp', hs', hrvl, hrows⟩
  obtain ⟨SDw, hp4⟩ := hp'.alloc (o := lstO rws kw) gDw
  have hDw : LI (up S' Dw (lstO rws kw)) Dw rws := ⟨_, up_same⟩
  have hS4 : Sub S3 (up S' Dw (lstO rws kw)) := (Sub.refl.up Sr4).trans (hs'.trans (Sub.refl.up SDw))
  have hrows4 := hrows.sub (Sub.refl.up (o := lstO rws kw) SDw)
  have hSs4 := hS4 _ _ hSs3
  generalize up S' Dw (lstO rws kw) = S4 at *
  generalize up gw Dw (lstO rws kw) = g4 at *
  have hDS14 := (hDS1'.sub hS3).sub hS4
  have hDS24 := (hDS2.sub hS3).sub hS4
  have hDc4 := hDc.sub hS4
  have hS04 : Sub S0 S4 := ((hS1.trans hS2).trans hS3).trans hS4
  clear hmenu hmenu0 hbase hpr4 gr4 Sr4 hs' hp' hrows gDw SDw
  -- pairs
  repeat walk_at "s"
  rename_i d lo gd Bd
  have hp4s := hp4.sub
  have hc1 : ∀ {y : Int}, 1 ≤ y → y ≤ 5 → _ := fun {y} h1 h2 => DInt.cls (hDS14.sub hp4s) hpl1 hps1 h1 h2
  have hc2 : ∀ {y : Int}, 1 ≤ y → y ≤ 5 → _ := fun {y} h1 h2 => DInt.cls (hDS24.sub hp4s) hpl2 hps2 h1 h2
  have hrowsg := hrows4.sub hp4s
  have hDwg := hDw.sub hp4s
  have hDcg := hDc4.sub hp4s
  have s0 : Sub g4 (up g4 d emptyD) := Sub.refl.up gd
  refine R_for (fun _ => rfl) ?_
  repeat walk_at "s"
  refine ⟨_, _, _, Src.list (hDcg.sub s0), fun e he => ?_, fun i g' l' => LK [(Str.ofString "pairs", .ref d), (Str.ofString "rows", .ref Dw), (Str.ofString "covered", .ref Dc), (Str.ofString "seconds", .ref D2), (Str.ofString "firsts", .ref D1)] l' ∧ Sub g4 g' ∧ DictT W g' d (mpF ns i (clsOf ps1) (clsOf ps2) rvs) sec (5 * i), ?_, ?_, ?_, ?_⟩
  · subst he
    obtain ⟨k, e⟩ := hDcg.sub s0
    exact ⟨_, e⟩
  · refine ⟨.cons rfl (.cons rfl (.cons rfl (.cons rfl (.cons rfl .nil)))), s0, lo, Bd, [], ⟨⟨emptyD, up_same, DTo.nil⟩, fun x hx => by cases hx⟩, Nat.le_refl _, fun y hy => (by cases hy), fun a b => ?_⟩
    unfold mpF
    rw [if_neg (by simp)]
    trivial
  · rintro i g' l' ⟨_, hs, _⟩ e o rfl he
    obtain ⟨k, e'⟩ := hDcg
    rw [s0 _ _ e'] at he
    cases he
    exact hs _ _ e'
  · rintro i v g5 l5 hi hv ⟨hl, hs5, hD5⟩
    refine R_known hl ?_
    obtain ⟨w, rfl⟩ := hcov.int_at i v hv
    have hil : i < ns.length := by rw [← hcov.length]; exact hi
    have hni : ns[i]? = some (ns.getD i 0) := by rw [List.getD_eq_getElem?_getD]; simp [hil]
    have hxr := hns _ (List.mem_of_getElem? hni)
    generalize ns.getD i 0 = x at *
    repeat walk_at "s"
    refine R_for (fun _ => rfl) ?_
    repeat walk_at "s"
    refine R_range2 fun r6 t1 t2 t3 gr6 Br6 => ?_
    have s6 : Sub g5 (up g5 r6 (rngO 1 6 t1 t2 t3)) := Sub.refl.up gr6
    refine ⟨_, _, _, Src.range (N := 5) up_same (by decide) (by decide) (by decide) (by decide) (by decide), fun e he => he.elim, fun k g' l' => LK [(Str.ofString "first", .int x w), (Str.ofString "pairs", .ref d), (Str.ofString "rows", .ref Dw), (Str.ofString "covered", .ref Dc), (Str.ofString "seconds", .ref D2), (Str.ofString "firsts", .ref D1)] l' ∧ Sub g4 g' ∧ DictT W g' d (mpG ns i x k (clsOf ps1) (clsOf ps2) rvs) sec (5 * i + k), ?_, fun i g' l' _ e o he _ => he.elim, ?_, ?_⟩
    · exact ⟨.cons rfl (.cons rfl (.cons rfl (.cons rfl (.cons rfl (.cons rfl .nil))))), hs5.trans s6, by rw [mpG_zero]; exact hD5.sub s6⟩
    · rintro k v g7 l7 hk ⟨tv, rfl⟩ ⟨hl7, hs7, hD7⟩
      refine R_known hl7 ?_
      obtain ⟨⟨kv2, z2, hI2, hv2⟩, b0, b1⟩ := hc2 (y := 1 + (k : Int)) (by omega) (by omega)
      obtain ⟨⟨kv1, z1, hI1, hv1⟩, a0, a1⟩ := hc1 hxr.1 hxr.2
      repeat walk_at "s"
      refine R_itemI (hI2.sub hs7) hv2 rfl ?_
      repeat walk_at "s"
      refine ⟨fun q => ?_, fun q => ?_⟩
      · have q' := of_decide_eq_true q
        have hrl : rws.length = 3 := by rw [hrowsg.1, hrvl]
        obtain ⟨v, hv⟩ : ∃ v, rws[(clsOf ps1 x).toNat]? = some v := ⟨rws[(clsOf ps1 x).toNat]'(by omega), by simp⟩
        obtain ⟨r, pq, rv, rfl, hr, hrv, hrvl2, hel⟩ := hrowsg.2 _ _ hv
        obtain ⟨u, hu⟩ : ∃ u, pq[(clsOf ps2 (1 + (k : Int))).toNat]? = some u := ⟨pq[(clsOf ps2 (1 + (k : Int))).toNat]'(by rw [hel.1]; omega), by simp⟩
        obtain ⟨q2, hq2, hpt, hz⟩ := hel.2 _ _ hu
        have hrvq : rvOf rvs (clsOf ps1 x).toNat (clsOf ps2 (1 + (k : Int))).toNat = q2 := by unfold rvOf; rw [hrv, Option.getD_some, hq2]; rfl
        repeat walk_at "s"
        refine R_itemI (hI1.sub hs7) hv1 rfl ?_
        refine R_itemL (hDwg.sub hs7) a0 (by omega) hv rfl ?_
        repeat walk_at "s"
        refine R_itemI (hI2.sub hs7) hv2 rfl ?_
        refine R_itemL (hr.sub hs7) b0 (by omega) hu rfl ?_
        repeat walk_at "s"
        rename_i ka gka Bka
        have ska : Sub g7 (up g7 ka (tupO [.int x w, .int (1 + (k : Int)) tv])) := Sub.refl.up gka
        refine R_store Sub.refl (hD7.sub ska) ⟨_, ⟨_, up_same⟩, .cons intKind_isI (.cons intKind_isI .nil)⟩ ((hpt.sub hs7).sub ska) hz (by omega) fun o o' ho hD8 => ?_
        repeat walk_at "s"
        refine ⟨.cons rfl (.cons rfl (.cons rfl (.cons rfl (.cons rfl (.cons rfl .nil))))), (hs7.trans ska).up' gd, ?_⟩
        rw [← hrvq, mpG_step hk q'] at hD8
        exact hD8
      · have q' := of_decide_eq_false q
        repeat walk_at "s"
        refine ⟨.cons rfl (.cons rfl (.cons rfl (.cons rfl (.cons rfl (.cons rfl .nil))))), hs7, ?_⟩
        rw [mpG_skip q']
        exact hD7.le (by omega)
    · rintro g7 l7 ⟨hl7, hs7, hD7⟩
      refine R_known hl7 ?_
      repeat walk_at "s"
      refine ⟨.cons rfl (.cons rfl (.cons rfl (.cons rfl (.cons rfl .nil)))), hs7, ?_⟩
      rw [mpG_five hni] at hD7
      exact hD7.le (by omega)
  rintro g5 l5 ⟨hl5, hs5, hD5⟩
  refine R_known hl5 ?_
  rw [hcov.length] at hD5
  have hDP : DictT W g5 d (mpF ns ns.length (clsOf ps1) (clsOf ps2) rvs) sec 1000 := hD5.le (by omega)
  clear hD5 hl5
  -- values
  repeat walk_at "s"
  have hDw5 := hDwg.sub hs5
  have hrl : rws.length = 3 := by rw [hrowsg.1, hrvl]
  refine R_comp (cl := []) (fun _ => rfl) rfl rfl rfl rfl rfl ?_
  repeat walk_at "s"
  refine ⟨_, _, _, fun i ys g' => Sub g5 g' ∧ ys.length = i ∧ ∀ (j : Nat) (v : Value), ys[j]? = some v → ∃ r ps, v = .ref r ∧ TU g' r ps ∧ ps.length = 2 ∧ ∀ (k : Nat) (w : Value), ps[k]? = some w → PairV g' w (rvOf rvs j k), Src.list hDw5, ⟨⟨Sub.refl, rfl, fun j v e => (by simp at e)⟩, fun e he => ?_, ?_, ?_, by rw [hrl, sizeLine_eq]; omega, ?_⟩, ?_⟩
  · subst he
    obtain ⟨k, e⟩ := hDw5
    exact ⟨_, e⟩
  · rintro i ys g' ⟨hs, _⟩ e o _ he
    exact hs _ _ he
  · rintro C i v ys g' hi hv ⟨hs, hyl, hys⟩
    refine R_tests0 ⟨fun _ => ?_, fun q => (by cases q)⟩
    obtain ⟨r, pq, rv, rfl, hr, hrv, hrvl2, hel⟩ := hrowsg.2 _ _ hv
    have hrv' : ∀ j q, rv[j]? = some q → rvOf rvs i j = q := fun j q e => by unfold rvOf; rw [hrv, Option.getD_some, e]; rfl
    have hr' := (hr.sub hs5).sub hs
    repeat walk_at "s"
    refine R_comp (cl := []) (fun _ => rfl) rfl rfl rfl rfl rfl ?_
    repeat walk_at "s"
    refine ⟨_, _, _, fun i2 ys2 g'' => Sub g' g'' ∧ ys2.length = i2 ∧ ∀ (k : Nat) (w : Value), ys2[k]? = some w → PairV g'' w (rvOf rvs i k), Src.list hr', ⟨⟨Sub.refl, rfl, fun j v e => (by simp at e)⟩, fun e he => ?_, ?_, ?_, by rw [hel.1, hrvl2, sizeLine_eq]; omega, ?_⟩, ?_⟩
    · subst he
      obtain ⟨k, e⟩ := hr'
      exact ⟨_, e⟩
    · rintro i2 ys2 g'' ⟨hs2, _⟩ e o _ he
      exact hs2 _ _ he
    · rintro C2 i2 v2 ys2 g'' hi2 hv2 ⟨hs2, hyl2, hys2⟩
      refine R_tests0 ⟨fun _ => ?_, fun q => (by cases q)⟩
      obtain ⟨q2, hq2, hpt, _⟩ := hel.2 _ _ hv2
      obtain ⟨t, ta, tb, rfl, htu, hTa, hTb⟩ := hpt
      have sg := (hs5.trans hs).trans hs2
      have htu2 := htu.sub sg
      repeat walk_at "s"
      refine R_ofRC (law_value (hTa.sub sg) fun g3 va s3 ga hva => ?_)
      have htu3 := htu2.sub s3
      repeat walk_at "s"
      refine R_ofRC (law_value ((hTb.sub sg).sub s3) fun g4' vb s4 gb hvb => ?_)
      repeat walk_at "s"
      rename_i q gq Bq
      have s5 : Sub g4' (up g4' q (tupO [.ref va, .ref vb])) := Sub.refl.up gq
      refine ⟨((hs2.trans s3).trans s4).trans s5, by simp [hyl2], fun k w e => ?_⟩
      rcases snoc_get e with ⟨hlt, e⟩ | ⟨e1, rfl⟩
      · exact (hys2 k w e).sub ((s3.trans s4).trans s5)
      · rw [e1, hyl2, hrv' _ _ hq2]
        exact ⟨q, va, vb, rfl, ⟨_, up_same⟩, (hva.sub s4).sub s5, hvb.sub s5⟩
    · rintro i2 ys2 g'' ⟨_, hyl2, _⟩
      rw [hyl2]; exact Nat.le_refl _
    rintro Dr g'' ys2 kr gDr BDr ⟨hs2, hyl2, hys2⟩
    rw [hel.1, hrvl2] at hyl2
    repeat walk_at "s"
    refine R_tupleOf ⟨_, up_same⟩ (by omega) fun T gT BT => ?_
    have sT : Sub g'' (up (up g'' Dr (lstO ys2 kr)) T (tupO ys2)) := (Sub.refl.up gDr).up gT
    refine ⟨(hs.trans hs2).trans sT, by simp [hyl], fun j v e => ?_⟩
    rcases snoc_get e with ⟨hlt, e⟩ | ⟨e1, rfl⟩
    · obtain ⟨r, ps, a1, a2, a3, a4⟩ := hys j v e
      exact ⟨r, ps, a1, (a2.sub hs2).sub sT, a3, fun k w e => ((a4 k w e).sub hs2).sub sT⟩
    · exact ⟨T, ys2, rfl, ⟨_, up_same⟩, hyl2, fun k w e => by rw [e1, hyl]; exact (hys2 k w e).sub sT⟩
  · rintro i ys g' ⟨_, hyl, _⟩
    rw [hyl]; exact Nat.le_refl _
  rintro Dv g6 vys kv gDv BDv ⟨hs6, hvyl, hvys⟩
  rw [hrl] at hvyl
  repeat walk_at "s"
  refine R_tupleOf ⟨_, up_same⟩ (by omega) fun vt gvt Bvt => ?_
  have svt : Sub g6 (up (up g6 Dv (lstO vys kv)) vt (tupO vys)) := (Sub.refl.up gDv).up gvt
  have hRV : RowsV (up (up g6 Dv (lstO vys kv)) vt (tupO vys)) vt (rvOf rvs) := by
    have hex : ∃ rs : List Addr, vys = rs.map .ref := by
      refine ⟨vys.map fun v => match v with | .ref a => a | _ => 0, ?_⟩
      apply List.ext_getElem?
      intro j
      rw [List.getElem?_map, List.getElem?_map]
      cases e : vys[j]? with
      | none => rfl
      | some v => obtain ⟨r, _, rfl, _⟩ := hvys j v e; rfl
    obtain ⟨rs, hrs⟩ := hex
    refine ⟨rs, ⟨_, by rw [← hrs]; exact up_same⟩, by rw [← hvyl, hrs, List.length_map], fun i r e => ?_⟩
    obtain ⟨r', ps, a1, a2, a3, a4⟩ := hvys i (.ref r) (by rw [hrs, List.getElem?_map, e]; rfl)
    cases a1
    exact ⟨ps, a2.sub svt, a3, fun k w e => (a4 k w e).sub svt⟩
  have hs7 : Sub g5 (up (up g6 Dv (lstO vys kv)) vt (tupO vys)) := hs6.trans svt
  generalize up (up g6 Dv (lstO vys kv)) vt (tupO vys) = g7 at *
  have hs47 : Sub g4 g7 := hs5.trans hs7
  have hD17 := (hDS14.sub hp4s).sub hs47
  have hD27 := (hDS24.sub hp4s).sub hs47
  -- plain
  repeat walk_at "s"
  refine R_assignCompCell (cl := []) rfl rfl rfl (fun _ => rfl) rfl rfl rfl (fun _ => rfl) (fun _ => rfl) ?_
  repeat walk_at "s"
  rename_i T2 gT2 BT2
  have sT2 : Sub g7 (up g7 T2 (tupO [.ref D1, .ref D2])) := Sub.refl.up gT2
  have hT2 : TU (up g7 T2 (tupO [.ref D1, .ref D2])) T2 [.ref D1, .ref D2] := ⟨_, up_same⟩
  have hD18 := hD17.sub sT2
  have hD28 := hD27.sub sT2
  have hs78 := sT2
  generalize up g7 T2 (tupO [.ref D1, .ref D2]) = g8 at *
  refine ⟨_, _, _, fun D C i g' => Sub g8 g' ∧ g8 D = none ∧ g8 (C + 1) = none ∧ D ≠ C + 1 ∧ ∃ ys k oc vc, g' D = some (lstO ys k) ∧ g' (C + 1) = some oc ∧ oc.data = .cell vc ∧ ys.length = i ∧ ∀ (j : Nat) (v : Value), ys[j]? = some v → ∃ q ps, v = .ref q ∧ [ps1, ps2][j]? = some ps ∧ DInt W g' q (plainOf ps), Src.tuple hT2, fun e he => ?_, fun D C gD BD gC BC hDC => ⟨?_, ?_, ?_, ?_⟩⟩
  · subst he
    obtain ⟨k, e⟩ := hT2
    exact ⟨_, e⟩
  · rintro i g' ⟨hs, _⟩ e o _ he
    exact hs _ _ he
  · exact ⟨(Sub.refl.up gD).up (by rw [up_ne (Ne.symm hDC)]; exact gC), gD, gC, hDC, [], 0, _, none, by rw [up_ne hDC]; exact up_same, up_same, rfl, rfl, fun j v e => (by simp at e)⟩
  · rintro i v g' hi hv ⟨hs, _, _, _, ys, k, oc, vc, hyD, hoc, hocd, hyl, hys⟩
    obtain ⟨Dx, px, rfl, hpx, hDx, hpl, hps⟩ : ∃ Dx px, v = .ref Dx ∧ [ps1, ps2][i]? = some px ∧ DInt W g8 Dx px ∧ px.length = 5 ∧ (∀ (j : Nat) (pr : Int × Int), px[j]? = some pr → pr.1 = 1 + (j : Int) ∧ 0 ≤ pr.2 ∧ pr.2 < 3) := by
      rcases (show i = 0 ∨ i = 1 by simp at hi; omega) with rfl | rfl
      · cases hv; exact ⟨D1, ps1, rfl, rfl, hD18, hpl1, hps1⟩
      · cases hv; exact ⟨D2, ps2, rfl, rfl, hD28, hpl2, hps2⟩
    refine R_toCell rfl rfl rfl BC hoc hocd fun o' ho' => ?_
    have hs9 : Sub g8 (up g' (C + 1) o') := hs.up' gC
    have hc9 : up g' (C + 1) o' (C + 1) = some o' := up_same
    have hyD9 : up g' (C + 1) o' D = some (lstO ys k) := (up_ne hDC).trans hyD
    have hys9 : ∀ (j : Nat) (v : Value), ys[j]? = some v → ∃ q ps, v = .ref q ∧ [ps1, ps2][j]? = some ps ∧ DInt W (up g' (C + 1) o') q (plainOf ps) := fun j v e => by
      obtain ⟨q, ps, a1, a2, a3⟩ := hys j v e
      exact ⟨q, ps, a1, a2, a3.other hoc fun es ep z => by rw [hocd] at z; cases z⟩
    generalize up g' (C + 1) o' = g9 at *
    have hDx9 := hDx.sub hs9
    obtain ⟨kvs, hDI, hKV⟩ := hDx9.h
    obtain ⟨es, ep, hrw, hpairs⟩ := hDI.rw
    have hel : es.size = px.length := by rw [← Array.length_toList, hpairs.length, hKV.1]
    repeat walk_at "s"
    refine R_comp (cl := _) (fun _ => rfl) rfl rfl rfl rfl rfl ?_
    refine R_cell rfl rfl rfl rfl hc9 ho' ?_
    refine ⟨_, _, _, fun i2 ys2 g'' => Sub g9 g'' ∧ ys2.length = ((px.take i2).filter fun q => decide (0 < q.2)).length ∧ ∀ (j : Nat) (v : Value), ys2[j]? = some v → ∃ pr t w z, ((px.take i2).filter fun q => decide (0 < q.2))[j]? = some pr ∧ v = .ref t ∧ TU g'' t [.int pr.1 w, .int pr.2 z], Src.keys hDx9.lo hrw, ⟨⟨Sub.refl, rfl, fun j v e => (by simp at e)⟩, fun e he => ?_, ?_, ?_, by rw [hel, hpl, sizeLine_eq]; omega, ?_⟩, ?_⟩
    · subst he
      obtain ⟨o, e, _⟩ := hrw
      exact ⟨o, e⟩
    · rintro i2 ys2 g'' ⟨hs2, _⟩ e o _ he
      exact hs2 _ _ he
    · rintro C2 i2 v2 ys2 g'' hi2 ⟨e, he, rfl⟩ ⟨hs2, hyl2, hys2⟩
      have hix : i2 < px.length := by omega
      have hpr : px[i2]? = some px[i2] := by simp
      generalize px[i2] = pr at hpr
      obtain ⟨z, hz⟩ := hKV.2 i2 pr hpr
      obtain ⟨hkey, _⟩ := hpairs.get? (e := e) (by rw [Array.getElem?_toList]; exact he) hz
      obtain ⟨w, hw⟩ := Value.isInt_shape hkey
      rw [hw]
      have hva := valueAt_some (by rw [hKV.keys]; exact hDx9.nodup) hz
      have hDI2 := hDI.sub hs2
      have hc2' := hs2 _ _ hc9
      have htk : (px.take (i2 + 1)).filter (fun q => decide (0 < q.2)) = (px.take i2).filter (fun q => decide (0 < q.2)) ++ (if 0 < pr.2 then [pr] else []) := by
        rw [List.take_add_one, hpr, List.filter_append]
        by_cases q : 0 < pr.2 <;> simp [q]
      refine R_tests1 ?_
      repeat walk_at "s"
      refine R_cell rfl rfl rfl rfl hc2' ho' ?_
      repeat walk_at "s"
      refine R_itemI hDI2 hva rfl ?_
      repeat walk_at "s"
      refine ⟨fun q => ?_, fun q => ?_⟩
      · have q' := of_decide_eq_true q
        repeat walk_at "s"
        refine R_cell rfl rfl rfl rfl hc2' ho' ?_
        repeat walk_at "s"
        refine R_itemI hDI2 hva rfl ?_
        repeat walk_at "s"
        rename_i ta gta Bta
        have sta : Sub g'' (up g'' ta (tupO [.int pr.1 w, .int pr.2 z])) := Sub.refl.up gta
        rw [htk, if_pos q']
        refine ⟨hs2.trans sta, by simp [hyl2], fun j v e => ?_⟩
        rcases snoc_get e with ⟨hlt, e⟩ | ⟨e1, rfl⟩
        · obtain ⟨pr', t, w', z', b1, b2, b3⟩ := hys2 j v e
          exact ⟨pr', t, w', z', by rw [List.getElem?_append_left (by omega)]; exact b1, b2, b3.sub sta⟩
        · exact ⟨pr, ta, w, z, by rw [List.getElem?_append_right (by omega), e1, hyl2, Nat.sub_self]; rfl, rfl, ⟨_, up_same⟩⟩
      · have q' := of_decide_eq_false q
        rw [htk, if_neg q', List.append_nil]
        exact ⟨hs2, hyl2, hys2⟩
    · rintro i2 ys2 g'' ⟨_, hyl2, _⟩
      rw [hyl2]
      exact Nat.le_trans (List.length_filter_le _ _) (by rw [List.length_take]; omega)
    rintro Dl g10 ys2 kl gDl BDl ⟨hs2, hyl2, hys2⟩
    rw [hel, List.take_length] at hyl2 hys2
    have hpln : (plainOf px).length ≤ 5 := by unfold plainOf; exact Nat.le_trans (List.length_filter_le _ _) (by omega)
    have sDl : Sub g10 (up g10 Dl (lstO ys2 kl)) := Sub.refl.up gDl
    repeat walk_at "s"
    refine R_dictInts (ps := plainOf px) ⟨_, up_same⟩ hyl2 (by omega) (fun j v e => let ⟨pr, t, w, z, b1, b2, b3⟩ := hys2 j v e; ⟨pr, t, w, z, b1, b2, b3.sub sDl⟩) (plain_nodup hDx9.nodup) fun Dn g11 s11 hDn => ?_
    have s911 : Sub g9 g11 := (hs2.trans sDl).trans s11
    have hyD11 := s911 _ _ hyD9
    refine ⟨ys, ⟨k, hyD11⟩, BD, by simp at hi; omega, fun c => ⟨(hs9.trans s911).up' gD, gD, gC, hDC, ys ++ [.ref Dn], c, o', some (.ref Dx), up_same, (up_ne (Ne.symm hDC)).trans (s911 _ _ hc9), ho', by simp [hyl], fun j v e => ?_⟩⟩
    rcases snoc_get e with ⟨hlt, e⟩ | ⟨e1, rfl⟩
    · obtain ⟨q, ps, a1, a2, a3⟩ := hys9 j v e
      exact ⟨q, ps, a1, a2, (a3.sub s911).other hyD11 fun es ep z => by cases z⟩
    · exact ⟨Dn, px, rfl, by rw [e1, hyl]; exact hpx, hDn.other hyD11 fun es ep z => by cases z⟩
  rintro g12 ⟨hs12, _, _, _, ys, k, oc, vc, hyD, _, _, hyl, hys⟩
  have hyl' : ys.length = 2 := hyl
  have hlist : LI g12 D ys := ⟨k, hyD⟩
  obtain ⟨v0, hv0⟩ : ∃ v, ys[0]? = some v := ⟨ys[0]'(by omega), by simp⟩
  obtain ⟨v1, hv1⟩ : ∃ v, ys[1]? = some v := ⟨ys[1]'(by omega), by simp⟩
  obtain ⟨q0, p0, rfl, hp0', hDq0⟩ := hys 0 v0 hv0
  obtain ⟨q1, p1, rfl, hp1', hDq1⟩ := hys 1 v1 hv1
  cases hp0'
  cases hp1'
  have hs4_12 : Sub g4 g12 := (hs47.trans hs78).trans hs12
  have hcovL := hDcg.sub hs4_12
  -- the return
  repeat walk_at "s"
  refine R_ofRC (coverage_of hcovL hcov (by omega) fun g13 cv s13 hCov => ?_)
  have hlist13 := hlist.sub s13
  repeat walk_at "s"
  refine R_itemL hlist13 (by decide) (by decide) hv0 rfl ?_
  repeat walk_at "s"
  refine new_classdef fun g14 f1 fd1 fm1 s14 hf1 hf1a hf1b => ?_
  have hlist14 := hlist13.sub s14
  repeat walk_at "s"
  refine R_itemL hlist14 (by decide) (by decide) hv1 rfl ?_
  repeat walk_at "s"
  refine new_classdef fun g15 f2 fd2 fm2 s15 hf2 hf2a hf2b => ?_
  have s12_15 : Sub g12 g15 := (s13.trans s14).trans s15
  have hs4_15 := hs4_12.trans s12_15
  repeat walk_at "s"
  refine R_cell rfl rfl rfl rfl (hs4_15 _ _ (hp4s _ _ hSs4)) hsd ?_
  repeat walk_at "s"
  have hcl1 : ClsAt W g15 f1 (clsOf ps1) := by
    obtain ⟨kvs, a, b⟩ := (hDq0.sub s12_15).h
    exact ⟨fd1, 1, fm1, q0, kvs, hf1.sub s15, hf1a, hf1b, a, hDq0.lo, fun y t h1 h2 => plain_cls hDq0.nodup b hpl1 hps1 h1 h2⟩
  have hcl2 : ClsAt W g15 f2 (clsOf ps2) := by
    obtain ⟨kvs, a, b⟩ := (hDq1.sub s12_15).h
    exact ⟨fd2, 1, fm2, q1, kvs, hf2, hf2a, hf2b, a, hDq1.lo, fun y t h1 h2 => plain_cls hDq1.nodup b hpl2 hps2 h1 h2⟩
  refine new_pc ((hCov.sub s14).sub s15) hcl1 hcl2 (hRV.sub ((hs78.trans hs12).trans s12_15)) (fun z i j hi hj => ?_) (fun y h1 h2 => (hc1 h1 h2).2) (fun y h1 h2 => (hc2 h1 h2).2) fun g16 tb s16 gtb hTab => ?_
  · obtain ⟨v, hv⟩ : ∃ v, rws[i]? = some v := ⟨rws[i]'(by omega), by simp⟩
    obtain ⟨r, pq, rv, rfl, hr, hrv, hrvl2, hel⟩ := hrowsg.2 _ _ hv
    obtain ⟨u, hu⟩ : ∃ u, pq[j]? = some u := ⟨pq[j]'(by rw [hel.1]; omega), by simp⟩
    obtain ⟨q2, hq2, _, hz⟩ := hel.2 _ _ hu
    have : rvOf rvs i j = q2 := by unfold rvOf; rw [hrv, Option.getD_some, hq2]; rfl
    rw [this]
    exact hz z
  · repeat walk_at "s"
    rename_i t gt Bt
    have s17 : Sub g16 (up g16 t (tupO [.ref tb, .ref d])) := Sub.refl.up gt
    have hs4_17 := (hs4_15.trans s16).trans s17
    have hs5_17 := (((hs7.trans hs78).trans hs12).trans s12_15).trans (s16.trans s17)
    obtain ⟨hpE, hSE⟩ := hp4.grow hs4_17
    have hmp : mpF ns ns.length (clsOf ps1) (clsOf ps2) rvs = mpC ns (clsOf ps1) (clsOf ps2) (rvOf rvs) := by
      unfold mpF mpC
      rw [List.take_length]
    rw [hmp] at hDP
    exact h _ _ t tb d _ (hpE.wait (by omega)) ((hs0.trans hS04).trans hSE) ⟨_, up_same⟩ (hTab.sub s17) (hDP.sub hs5_17)

theorem R_eqInts {W : Wd KF} {n : Nat} {env : Env} {l : Lm} {g : Gh} {a b : Addr} {vs ws : List Value} {ns ms : List Int} {Q : Value → Gh → Lm → Prop} (ha : LI g a vs) (hb : LI g b ws) (hi : IntsAre vs ns) (hj : IntsAre ws ms) (h : Q (.bool (decide (ns = ms))) g l) : R W n env g l (compareOp .Eq (.ref a) (.ref b)) Q := fun A s E fr ok i =>
  ke_eq_ints (ha.is i) (hb.is i) hi hj (by have := ok.units; show A.units + 64 < 9900; omega) ⟨g, l, i, Same.refl s, h⟩
theorem LI.uniq {g : Gh} {a : Addr} {vs ws : List Value} (x : LI g a vs) (y : LI g a ws) : vs = ws := by
  obtain ⟨k, e⟩ := x
  obtain ⟨k', e'⟩ := y
  rw [e] at e'
  injection e' with e'
  injection e' with _ _ h
  injection h with h
  have := congrArg Array.toList h
  simpa using this
theorem LI.other {g : Gh} {a c : Addr} {vs ws : List Value} {o' : Obj} (x : LI g a vs) (hc : LI g c ws) (hne : vs ≠ ws) : LI (up g c o') a vs := by
  obtain ⟨k, e⟩ := x
  refine ⟨k, (up_ne fun q => ?_).trans e⟩
  subst q
  exact hne (LI.uniq ⟨k, e⟩ hc)
theorem Line.setAt {W : Wd KF} {g : Gh} {ln a : Addr} {as : List Addr} {rs : List Rec} {j : Nat} {ws : List Value} {o' : Obj} {r' : Rec} (hL : Line W g ln as rs) (ha : as[j]? = some a) (hw : LI g a ws) (hr' : RowAt (up g a o') a r') : Line W (up g a o') ln as (rs.set j r') := by
  have hjl : j < rs.length := by rw [← hL.len]; exact (List.getElem?_eq_some_iff.mp ha).1
  obtain ⟨r, hr, o, t, u, w, t1, t2, t3, hrow, hoff⟩ := hL.at_ j a ha
  have hws := hw.uniq hrow
  subst hws
  refine ⟨hL.list.other hw (fun e => ?_), by rw [List.length_set]; exact hL.len, fun i b hb => ?_, hL.nodup, hL.base⟩
  · have := congrArg List.head? e
    cases as with
    | nil => simp at ha
    | cons x xs => simp at this
  · by_cases q : j = i
    · subst q
      rw [ha] at hb
      cases hb
      exact ⟨r', by rw [List.getElem?_set, if_pos rfl, if_pos hjl], hr'⟩
    · obtain ⟨r2, hr2, o2, s1, s2, s3, s4, s5, s6, hrow2, hoff2⟩ := hL.at_ i b hb
      refine ⟨r2, by rw [List.getElem?_set, if_neg q]; exact hr2, o2, s1, s2, s3, s4, s5, s6, ?_, hoff2.other hw (fun e => by simp at e)⟩
      obtain ⟨k, e⟩ := hrow2
      refine ⟨k, (up_ne fun z => q ?_).trans e⟩
      subst z
      exact (List.getElem?_inj (List.getElem?_eq_some_iff.mp ha).1 hL.nodup).mp (ha.trans hb.symm)
theorem Line.sub {W : Wd KF} {g g' : Gh} {ln : Addr} {as : List Addr} {rs : List Rec} (h : Line W g ln as rs) (s : Sub g g') : Line W g' ln as rs := ⟨h.list.sub s, h.len, fun i a e => let ⟨r, a1, a2⟩ := h.at_ i a e; ⟨r, a1, a2.sub s⟩, h.nodup, h.base⟩
theorem Line.row {W : Wd KF} {g : Gh} {ln : Addr} {as : List Addr} {rs : List Rec} (h : Line W g ln as rs) {j : Nat} {r : Rec} (hr : rs[j]? = some r) : ∃ a, as[j]? = some a ∧ RowAt g a r := by
  have : j < as.length := by rw [h.len]; exact (List.getElem?_eq_some_iff.mp hr).1
  have ha : as[j]? = some as[j] := by simp
  obtain ⟨r', h1, h2⟩ := h.at_ j _ ha
  rw [hr] at h1
  cases h1
  exact ⟨_, ha, h2⟩
theorem Line.item {W : Wd KF} {g : Gh} {ln a : Addr} {as : List Addr} {rs : List Rec} {j : Nat} (_h : Line W g ln as rs) (ha : as[j]? = some a) {x : Int} (hx : x = j) : (as.map Value.ref)[x.toNat]? = some (.ref a) := by
  subst hx; rw [List.getElem?_map]; simp [ha]
theorem Line.fresh {W : Wd KF} {g : Gh} {ln c : Addr} {as : List Addr} {rs : List Rec} (h : Line W g ln as rs) (hc : g c = none) : c ∉ as := fun hm => by
  obtain ⟨i, hi⟩ := List.mem_iff_getElem?.mp hm
  obtain ⟨r, _, _, _, _, _, _, _, _, ⟨k, e⟩, _⟩ := h.at_ i c hi
  rw [hc] at e; cases e
def lineF (rs1 : List Rec) (i j : Nat) (p : V4 × V4) : Nat → List Rec
  | 0 => rs1
  | 1 => rs1.modify i (addV p.1)
  | _ => (rs1.modify i (addV p.1)).modify j (addV p.2)
def First (pas : Bool) (rs : List Rec) (i k : Nat) : List Int → Prop
  | [] => ∀ (j : Nat) (r : Rec), i < j → j < i + 1 + k → rs[j]? = some r → good pas r = false
  | x :: _ => ∃ j : Nat, x = j ∧ IsNext pas rs i (some j)
theorem First.step {pas : Bool} {rs : List Rec} {i k : Nat} {ns : List Int} {r : Rec} (h : First pas rs i k ns) (hr : rs[i + 1 + k]? = some r) : First pas rs i (k + 1) (if good pas r = true then ns ++ [((i + 1 + k : Nat) : Int)] else ns) := by
  cases ns with
  | nil =>
    by_cases q : good pas r = true
    · rw [if_pos q]
      exact ⟨_, rfl, by omega, ⟨r, hr, q⟩, h⟩
    · rw [if_neg q]
      intro j r' h1 h2 h3
      rcases Nat.lt_or_ge j (i + 1 + k) with hh | hh
      · exact h j r' h1 hh h3
      · have : j = i + 1 + k := by omega
        subst this
        rw [hr] at h3
        cases h3
        simpa using q
  | cons x xs =>
    split
    · exact h
    · exact h

theorem law_step {W : Wd KF} {n : Nat} {L : Addr} {l : Lm} {g S : Gh} {ln pd : Addr} {as : List Addr} {rs : List Rec} {i : Nat} {o : Option Nat} {pas sec : Bool} {M : Int} {mp : Int → Int → Option (V4 × V4)} {N : Nat} {u : Tok} {Q : Value → Gh → Prop}
    (hs : Sub S g) (hD : DictT W S pd mp sec N) (hL : Line W g ln as rs) (hSa : ∀ a ∈ as, S a = none) (hi : i < rs.length) (hz : rs.length ≤ 100) (hN : IsNext pas rs i o) (hM : ∀ j, o = some j → IsMin M rs i j)
    (h : ∀ g' t, Keep as g g' → Line W g' ln as (stepOf mp sec rs i M o).2 → Q (.int (stepOf mp sec rs i M o).1 t) g') : RC W (n+4) L l g (.call (.ref 531) ⟨[.ref ln, .ref pd, .bool sec, .bool pas, .int i u], []⟩) Q := by
  refine RC_defC (binds := [(Str.ofString "line", .ref ln), (Str.ofString "pairs", .ref pd), (Str.ofString "is_second", .bool sec), (Str.ofString "is_passing", .bool pas), (Str.ofString "at", .int i u)]) [(Str.ofString "pairs", .ref pd), (Str.ofString "is_second", .bool sec), (Str.ofString "at", .int i u)] (by k_is) (by k_is) (fun _ _ => BindsTo.of_eq rfl) rfl (by decide) rfl rfl rfl (fun L' q hq => ?_) fun L' g0 hold hcells => ?_
  · simp at hq
    rcases hq with rfl | rfl | rfl <;> rfl
  obtain ⟨⟨gp, Bp, op, hcp, hpd0⟩, ⟨gl, Bl, ol, hcl, hld0⟩, _⟩ := hcells
  have hpd : op.data = .cell (some (.bool pas)) := hpd0
  have hld : ol.data = .cell (some (.ref ln)) := hld0
  clear hpd0 hld0
  have hold : Sub g g0 := hold
  have hL0 := hL.sub hold
  have hs0 : Sub S g0 := hs.trans hold
  have hlz : (as.map Value.ref).length ≤ 1000000 := by rw [List.length_map, hL.len]; omega
  have hll0 := hL0.list
  repeat walk_at "s"
  refine R_assignComp (cl := _) rfl rfl rfl (fun _ => rfl) rfl rfl rfl rfl rfl ?_
  repeat walk_at "s"
  refine R_cell rfl rfl rfl rfl hcl hld ?_
  repeat walk_at "s"
  rw [List.length_map, hL.len]
  refine R_range2 fun r1 t1 t2 t3 gr1 Br1 => ?_
  have s1 : Sub g0 (up g0 r1 (rngO ((i : Int) + 1) rs.length t1 t2 t3)) := Sub.refl.up gr1
  refine ⟨_, _, _, fun k ys g' => Sub g0 g' ∧ ∃ ns : List Int, IntsAre ys ns ∧ ns.length ≤ k ∧ First pas rs i k ns, Src.range (N := rs.length - (i + 1)) up_same (by omega) (by omega) (by omega) (by omega) (by omega), ⟨⟨s1, [], .nil, Nat.le_refl _, fun j r h1 h2 => (by omega)⟩, fun e he => he.elim, fun i ys g' _ e o he _ => he.elim, ?_, by rw [sizeLine_eq]; omega, ?_⟩, ?_⟩
  · rintro C k v ys g' hk ⟨tv, rfl⟩ ⟨hs1, ns, hys, hnl, hf⟩
    have hr : rs[i + 1 + k]? = some rs[i + 1 + k] := by simp
    generalize rs[i + 1 + k]'(by omega) = r at hr
    obtain ⟨a, ha, of, ta, tb, tc, t4, t5, t6, hrow, hoff⟩ := (hL0.sub hs1).row hr
    have hst := hf.step hr
    have gc1 := hs1 _ _ hcl
    have gc2 := hs1 _ _ hcp
    have hit := hL0.item ha (x := (i : Int) + 1 + (k : Int)) (by omega)
    have hll := hll0.sub hs1
    have hgd : good pas r = (!(pas && decide (r.glyph = 5)) && decide (r.kind = Str.ofString "")) := rfl
    generalize good pas r = gd at hst hgd
    refine R_tests1 ?_
    repeat walk_at "s"
    refine R_andCons ?_
    repeat walk_at "s"
    refine R_cell rfl rfl rfl rfl gc1 hld ?_
    repeat walk_at "s"
    refine R_itemL hll (by omega) (by omega) hit rfl ?_
    repeat walk_at "s"
    refine R_eqS ?_
    repeat walk_at "s"
    have hks : (r.kind == Str.ofString "") = decide (r.kind = Str.ofString "") := by
      by_cases q : r.kind = Str.ofString ""
      · rw [q]; rfl
      · rw [decide_eq_false q]; exact beq_false_of_ne q
    rw [hks]
    refine ⟨fun q => ?_, fun q => ?_⟩
    · rw [q, Bool.and_true] at hgd
      refine R_andCons ?_
      repeat walk_at "s"
      refine R_andCons ?_
      repeat walk_at "s"
      refine R_cell rfl rfl rfl rfl gc2 hpd ?_
      repeat walk_at "s"
      refine ⟨fun p => ?_, fun p => ?_⟩
      · rw [p, Bool.true_and] at hgd
        refine R_andCons ?_
        repeat walk_at "s"
        refine R_cell rfl rfl rfl rfl gc1 hld ?_
        repeat walk_at "s"
        refine R_itemL hll (by omega) (by omega) hit rfl ?_
        repeat walk_at "s"
        refine R_eqI ?_
        repeat walk_at "s"
        have h5 : (r.glyph == 5) = decide (r.glyph = 5) := by by_cases z : r.glyph = 5 <;> simp [z]
        rw [h5]
        refine ⟨fun z => ?_, fun z => ?_⟩
        · rw [z] at hgd
          refine R_andNil ⟨fun q => absurd q (by decide), fun _ => ⟨fun q => absurd q (by decide), fun _ => ⟨hs1, ns, hys, by omega, ?_⟩⟩⟩
          rw [hgd, if_neg (by decide)] at hst
          exact hst
        · rw [z] at hgd
          refine ⟨fun _ => ?_, fun q => absurd q (by decide)⟩
          refine R_andNil ⟨fun _ => ?_, fun q => absurd q (by decide)⟩
          repeat walk_at "s"
          rw [hgd, if_pos (by decide)] at hst
          rw [show (i : Int) + 1 + (k : Int) = ((i + 1 + k : Nat) : Int) by omega]
          exact ⟨hs1, _, ints_snoc _ _ hys, by simp; omega, hst⟩
      · rw [p, Bool.false_and] at hgd
        refine ⟨fun _ => ?_, fun q => absurd q (by decide)⟩
        refine R_andNil ⟨fun _ => ?_, fun q => absurd q (by decide)⟩
        repeat walk_at "s"
        rw [hgd, if_pos (by decide)] at hst
        rw [show (i : Int) + 1 + (k : Int) = ((i + 1 + k : Nat) : Int) by omega]
        exact ⟨hs1, _, ints_snoc _ _ hys, by simp; omega, hst⟩
    · rw [q, Bool.and_false] at hgd
      refine ⟨fun q => absurd q (by decide), fun _ => ⟨hs1, ns, hys, by omega, ?_⟩⟩
      rw [hgd, if_neg (by decide)] at hst
      exact hst
  · rintro k ys g' ⟨_, ns, hys, hnl, _⟩
    rw [hys.length]; exact hnl
  rintro Dl g2 lys kl gDl BDl ⟨hs2, ns, hlys, hnl, hf⟩
  have hs3 : Sub g0 (up g2 Dl (lstO lys kl)) := hs2.trans (Sub.refl.up gDl)
  have hDl : LI (up g2 Dl (lstO lys kl)) Dl lys := ⟨_, up_same⟩
  generalize up g2 Dl (lstO lys kl) = g3 at *
  have hL3 := hL0.sub hs3
  have hll3 := hll0.sub hs3
  have gc3 := hs3 _ _ hcl
  repeat walk_at "s"
  refine R_orCons ?_
  repeat walk_at "s"
  rename_i De gDe BDe
  have s4 : Sub g3 (up g3 De (lstO [] 0)) := Sub.refl.up gDe
  refine R_eqInts (hDl.sub s4) ⟨_, up_same⟩ hlys .nil ?_
  have hL4 := hL3.sub s4
  have hll4 := hll3.sub s4
  have gc4 := s4 _ _ gc3
  have hDl4 := hDl.sub s4
  have hs4 : Sub g0 (up g3 De (lstO [] 0)) := hs3.trans s4
  generalize up g3 De (lstO [] 0) = g4 at *
  repeat walk_at "s"
  cases hns : ns with
  | nil =>
    rw [hns] at hf
    have hNn : IsNext pas rs i none := fun j r h1 h2 => hf j r h1 (by have := (List.getElem?_eq_some_iff.mp h2).1; omega) h2
    obtain rfl := hN.uniq hNn
    refine ⟨fun q => absurd q (by simp), fun _ => ⟨fun _ => ?_, fun q => absurd q (by decide)⟩⟩
    repeat walk_at "s"
    exact h _ _ (Sub.keep (hold.trans hs4)) hL4
  | cons x xs =>
    rw [hns] at hf
    obtain ⟨j, rfl, hNj⟩ := hf
    obtain rfl := hN.uniq hNj
    refine ⟨fun _ => ?_, fun q => absurd q (by simp)⟩
    obtain ⟨hij, ⟨rj, hrj, _⟩, _⟩ := hNj
    have hjl : j < rs.length := (List.getElem?_eq_some_iff.mp hrj).1
    have hri : rs[i]? = some rs[i] := by simp
    generalize rs[i] = ri at hri
    obtain ⟨w0, hw0⟩ : ∃ w, lys[0]? = some (.int (j : Int) w) := by
      rw [hns] at hlys
      cases hlys with
      | cons n t r => exact ⟨t, rfl⟩
    obtain ⟨ai, hai, oi, tia, tib, tic, ti4, ti5, ti6, hrowi, hoffi⟩ := hL4.row hri
    obtain ⟨aj, haj, oj, tja, tjb, tjc, tj4, tj5, tj6, hrowj, hoffj⟩ := hL4.row hrj
    have iti := hL4.item hai (x := (i : Int)) rfl
    have itj := hL4.item haj (x := (j : Int)) rfl
    refine R_orCons ?_
    repeat walk_at "s"
    refine R_cell rfl rfl rfl rfl gc4 hld ?_
    repeat walk_at "s"
    refine R_itemL hll4 (by omega) (by omega) iti rfl ?_
    repeat walk_at "s"
    refine R_cell rfl rfl rfl rfl gc4 hld ?_
    repeat walk_at "s"
    refine R_itemL hDl4 (by decide) (by decide) hw0 rfl ?_
    refine R_itemL hll4 (by omega) (by omega) itj rfl ?_
    repeat walk_at "s"
    rename_i k1 gk1 Bk1
    have s5 : Sub g4 (up g4 k1 (tupO [.int ri.glyph tia, .int rj.glyph tja])) := Sub.refl.up gk1
    obtain ⟨xs2, hdt, hxl, hxv, hxf⟩ := hD.h
    have hS4 : Sub S g4 := hs0.trans hs4
    have hf2 := hxf ri.glyph rj.glyph
    refine R_notInD (ks := [ri.glyph, rj.glyph]) ((hdt.sub hS4).sub s5) ⟨_, ⟨_, up_same⟩, .cons intKind_isI (.cons intKind_isI .nil)⟩ hD.lo ?_
    repeat walk_at "s"
    unfold look at hf2
    cases hmp : mp ri.glyph rj.glyph with
    | none =>
      rw [hmp] at hf2
      have hst : stepOf mp sec rs i M (some j) = (-1, rs) := by simp [stepOf, hri, hrj, hmp]
      rw [hst] at h
      cases hat : atKey xs2 [ri.glyph, rj.glyph] with
      | some z => rw [hat] at hf2; exact hf2.elim
      | none =>
        refine ⟨fun q => absurd q (by decide), fun _ => ⟨fun _ => ?_, fun q => absurd q (by decide)⟩⟩
        repeat walk_at "s"
        exact h _ _ (Sub.keep ((hold.trans hs4).trans s5)) (hL4.sub s5)
    | some p =>
      rw [hmp] at hf2
      have hst : stepOf mp sec rs i M (some j) = (if sec then (j : Int) + 1 else j, ((hangU M i (j + 1) rs).modify i (addV p.1)).modify j (addV p.2)) := by simp [stepOf, hri, hrj, hmp]
      rw [hst] at h
      cases hat : atKey xs2 [ri.glyph, rj.glyph] with
      | none => rw [hat] at hf2; exact hf2.elim
      | some z =>
        rw [hat] at hf2
        obtain ⟨pt, px, py, hzv, hptu, hpx, hpy⟩ := hf2
        have hzv : z.2 = .ref pt := hzv
        refine ⟨fun _ => ?_, fun q => absurd q (by simp)⟩
        refine R_orNil ⟨fun q => absurd q (by decide), fun _ => ?_⟩
        have hs5 := hs4.trans s5
        have hL5 := hL4.sub s5
        have hll5 := hll4.sub s5
        have gc5 := s5 _ _ gc4
        have hDl5 := hDl4.sub s5
        have hrowi5 := hrowi.sub s5
        have hrowj5 := hrowj.sub s5
        have hS5 := hS4.trans s5
        generalize up g4 k1 (tupO [.int ri.glyph tia, .int rj.glyph tja]) = g5 at *
        repeat walk_at "s"
        refine R_cell rfl rfl rfl rfl gc5 hld ?_
        repeat walk_at "s"
        refine R_itemL hll5 (by omega) (by omega) iti rfl ?_
        repeat walk_at "s"
        refine R_cell rfl rfl rfl rfl gc5 hld ?_
        repeat walk_at "s"
        refine R_itemL hDl5 (by decide) (by decide) hw0 rfl ?_
        refine R_itemL hll5 (by omega) (by omega) itj rfl ?_
        repeat walk_at "s"
        rename_i k2 gk2 Bk2
        have s6 : Sub g5 (up g5 k2 (tupO [.int ri.glyph tia, .int rj.glyph tja])) := Sub.refl.up gk2
        refine R_dItemT (ks := [ri.glyph, rj.glyph]) ((hdt.sub hS5).sub s6) ⟨_, ⟨_, up_same⟩, .cons intKind_isI (.cons intKind_isI .nil)⟩ hat rfl ?_
        rw [hzv]
        have hL6 := hL5.sub s6
        have hll6 := hll5.sub s6
        have gc6 := s6 _ _ gc5
        have hDl6 := hDl5.sub s6
        have hS6 := hS5.trans s6
        have hs6 := hs5.trans s6
        generalize up g5 k2 (tupO [.int ri.glyph tia, .int rj.glyph tja]) = g6 at *
        repeat walk_at "s"
        refine R_comp (cl := []) (fun _ => rfl) rfl rfl rfl rfl rfl ?_
        repeat walk_at "s"
        refine R_cell rfl rfl rfl rfl gc6 hld ?_
        repeat walk_at "s"
        refine R_itemL hDl6 (by decide) (by decide) hw0 rfl ?_
        repeat walk_at "s"
        have hlen : (as.map Value.ref).length = rs.length := by rw [List.length_map]; exact hL.len
        have hpick : kms_pick (as.map Value.ref) (some (i : Int)) (some ((j : Int) + 1)) = ((as.drop i).take (j + 1 - i)).map Value.ref := by
          unfold kms_pick kms_lo kms_hi
          rw [hlen]
          simp only []
          rw [if_neg (by omega), if_neg (by omega), ← List.map_drop, ← List.map_take]
          have e1 : min (i : Int).toNat rs.length = i := by omega
          have e2 : min ((j : Int) + 1).toNat rs.length = j + 1 := by omega
          rw [e1, e2]
        refine ⟨ln, _, _, _, rfl, hll6.lw, hlz, .int _ _, .int _ _, fun D gD BD => ?_⟩
        rw [hpick]
        generalize hstr : (as.drop i).take (j + 1 - i) = st
        have hstl : st.length = j + 1 - i := by rw [← hstr, List.length_take, List.length_drop, hL.len]; omega
        have hsg : ∀ k, k < st.length → st[k]? = as[i + k]? := fun k hk => by rw [← hstr, stretch_get, if_pos (by rw [hstl] at hk; exact hk)]
        have s7 : Sub g6 (up g6 D (lstO (st.map Value.ref) 0)) := Sub.refl.up gD
        have hD7 : LI (up g6 D (lstO (st.map Value.ref) 0)) D (st.map Value.ref) := ⟨_, up_same⟩
        have hL7 := hL6.sub s7
        have gc7 := s7 _ _ gc6
        have hDl7 := hDl6.sub s7
        have hS7 := hS6.trans s7
        have hs7 := hs6.trans s7
        generalize up g6 D (lstO (st.map Value.ref) 0) = g7 at *
        refine ⟨_, _, _, fun k ys g' => g' = g7 ∧ ∃ ns, IntsAre ys ns ∧ ns.length = k ∧ ∀ (e : Nat) (c : Int), ns[e]? = some c → ∃ r, rs[i + e]? = some r ∧ r.cluster = c, Src.list hD7, ⟨⟨rfl, [], .nil, rfl, fun j c e => by simp at e⟩, ?_, ?_, ?_, by rw [List.length_map, hstl, sizeLine_eq]; omega, ?_⟩, ?_⟩
        · rintro e rfl
          obtain ⟨k, e⟩ := hD7
          exact ⟨_, e⟩
        · rintro k ys g' ⟨rfl, _⟩ e o _ he
          exact he
        · rintro C k v ys g' hk hv ⟨rfl, ns3, hys, hnl3, hns3⟩
          rw [List.length_map] at hk
          rw [List.getElem?_map, hsg k hk] at hv
          cases hx : as[i + k]? with
          | none => rw [hx] at hv; cases hv
          | some a =>
            rw [hx] at hv
            cases hv
            obtain ⟨r, hr, of, ta, tb, tc, t4, t5, t6, hrow, _⟩ := hL7.at_ _ a hx
            refine R_tests0 ⟨fun _ => ?_, fun q => by cases q⟩
            repeat walk_at "s"
            refine ⟨rfl, ns3 ++ [r.cluster], ints_snoc _ _ hys, by simp [hnl3], fun e c he => ?_⟩
            rcases snoc_get he with ⟨hlt, he⟩ | ⟨e1, rfl⟩
            · exact hns3 e c he
            · rw [e1, hnl3]; exact ⟨r, hr, rfl⟩
        · rintro k ys g' ⟨rfl, ns3, hys, hnl3, _⟩
          rw [hys.length, hnl3]; exact Nat.le_refl _
        rintro D2 g' ys k2' gD2 BD2 ⟨hg', ns3, hys, hnl3, hns3⟩
        subst hg'
        rw [List.length_map, hstl] at hnl3
        repeat walk_at "s"
        refine R_min ⟨_, up_same⟩ hys (by omega) fun M' t' hM1 hM2 => ?_
        have hMM : M' = M := min_of (hM j rfl) hM1 hM2 fun x => by
          constructor
          · intro hx
            obtain ⟨e, he⟩ := List.mem_iff_getElem?.mp hx
            obtain ⟨r, h1, h2⟩ := hns3 e x he
            have := (List.getElem?_eq_some_iff.mp he).1
            exact ⟨i + e, r, by omega, by omega, h1, h2⟩
          · rintro ⟨e, r, h1, h2, h3, h4⟩
            have hjl' : e - i < ns3.length := by omega
            obtain ⟨r', h5, h6⟩ := hns3 (e - i) ns3[e - i] (by simp)
            rw [show i + (e - i) = e by omega, h3] at h5
            cases h5
            rw [← h4, h6]
            exact List.getElem_mem hjl'
        subst hMM
        repeat walk_at "s"
        refine ⟨_, _, _, rfl, ⟨_, up_same⟩, ?_⟩
        rename_i kk gkk Bkk
        have hcn : L' + 1 ∉ as := hL.fresh gl
        have hDln : Dl ∉ as := (hL0.sub hs2).fresh gDl
        have s8 : Sub g' (up (up g' D2 (lstO ys k2')) kk (tupO [.ref pt, .int M' t'])) := (Sub.refl.up gD2).up gkk
        have hL8 := hL7.sub s8
        have gc8 := s8 _ _ gc7
        have hDl8 := hDl7.sub s8
        have hS8 := hS7.trans s8
        have hs8 := hs7.trans s8
        generalize up (up g' D2 (lstO ys k2')) kk (tupO [.ref pt, .int M' t']) = g8 at *
        repeat walk_at "s"
        refine R_forJ (fun _ => rfl) ?_
        repeat walk_at "s"
        refine R_itemL hDl8 (by decide) (by decide) hw0 rfl ?_
        repeat walk_at "s"
        refine R_range2 fun r9 t1 t2 t3 gr9 Br9 => ?_
        have s9 : Sub g8 (up g8 r9 (rngO (i : Int) ((j : Int) + 1) t1 t2 t3)) := Sub.refl.up gr9
        refine ⟨_, _, _, Src.range (N := j + 1 - i) up_same (by omega) (by omega) (by omega) (by omega) (by omega), fun e he => he.elim, fun k g'' l' => LK [(Str.ofString "pair", .ref pt), (Str.ofString "lowest", .int M' t'), (Str.ofString "later", .ref Dl), (Str.ofString "is_second", .bool sec), (Str.ofString "at", .int i u)] l' ∧ Keep as g8 g'' ∧ Line W g'' ln as (hangU M' i (i + k) rs), ?_, fun i g' l' _ e o he _ => he.elim, ?_, ?_⟩
        · exact ⟨.cons rfl (.cons rfl (.cons rfl (.cons rfl (.cons rfl .nil)))), s9.keep, by rw [Nat.add_zero, hangU_start]; exact hL8.sub s9⟩
        · rintro J k v g9 l9 hk ⟨tv, rfl⟩ ⟨hl9, hk9, hL9⟩ hJ
          refine R_known hl9 ?_
          have hr : rs[i + k]? = some rs[i + k] := by simp
          generalize rs[i + k]'(by omega) = r at hr
          have hr9 : (hangU M' i (i + k) rs)[i + k]? = some r := by rw [hangU_get, hr, Option.map_some, if_neg (by omega)]
          obtain ⟨a, ha, of, ta, tb, tc, t4, t5, t6, hrow, hoff⟩ := hL9.row hr9
          have hit := hL9.item ha (x := (i : Int) + (k : Int)) (by omega)
          have gc9 := hk9 _ _ hcn gc8
          have hll9 := hL9.list
          have hBa := hL9.base a (List.mem_of_getElem? ha)
          have hst := hangU_step (M := M') (show i ≤ i + k by omega) hr
          repeat walk_at "s"
          refine R_monoJ (Q := fun v g' l' => v = .bool (r.un || (r.cluster != M')) ∧ g' = g9 ∧ LK [(Str.ofString "spot", .int ((i : Int) + (k : Int)) tv), (Str.ofString "pair", .ref pt), (Str.ofString "lowest", .int M' t'), (Str.ofString "later", .ref Dl), (Str.ofString "is_second", .bool sec), (Str.ofString "at", .int i u)] l') ?_ ?_
          · intro J' hJ'
            refine R_or2 ?_
            repeat walk_at "s"
            refine R_cell rfl rfl rfl rfl gc9 hld ?_
            repeat walk_at "s"
            refine R_itemL hll9 (by omega) (by omega) hit rfl ?_
            repeat walk_at "s"
            refine ⟨fun q => ?_, fun q => ?_⟩
            · exact hJ' _ _ _ ⟨by rw [q]; rfl, rfl, .cons rfl (.cons rfl (.cons rfl (.cons rfl (.cons rfl (.cons rfl .nil)))))⟩
            · repeat walk_at "s"
              refine R_cell rfl rfl rfl rfl gc9 hld ?_
              repeat walk_at "s"
              refine R_itemL hll9 (by omega) (by omega) hit rfl ?_
              repeat walk_at "s"
              refine R_neI ?_
              exact hJ' _ _ _ ⟨by rw [q]; rfl, rfl, .cons rfl (.cons rfl (.cons rfl (.cons rfl (.cons rfl (.cons rfl .nil)))))⟩
          · rintro _ _ l10 ⟨rfl, rfl, hl10⟩
            refine R_known hl10 ?_
            repeat walk_at "s"
            refine R_cell rfl rfl rfl rfl gc9 hld ?_
            repeat walk_at "s"
            refine R_itemL hll9 (by omega) (by omega) hit rfl ?_
            repeat walk_at "s"
            refine R_setL hrow hBa (by decide) (by decide) (by simp) fun c => ?_
            repeat walk_at "s"
            refine hJ _ _ ⟨.cons rfl (.cons rfl (.cons rfl (.cons rfl (.cons rfl .nil)))), hk9.upIn (List.mem_of_getElem? ha), ?_⟩
            rw [← Nat.add_assoc, hst]
            exact hL9.setAt ha hrow ⟨of, ta, tb, tc, t4, t5, t6, ⟨c, up_same⟩, hoff.other hrow (fun e => by simp at e)⟩
        rintro g10 l10 ⟨hl10, hk10, hL10⟩
        refine R_known hl10 ?_
        rw [show i + (j + 1 - i) = j + 1 by omega] at hL10
        have gc10 := hk10 _ _ hcn gc8
        have hDl10 : LI g10 Dl lys := let ⟨c, e⟩ := hDl8; ⟨c, hk10 _ _ hDln e⟩
        have hS10 : Sub S g10 := hk10.sub hS8 hSa
        have hpt10 := hptu.sub hS10
        repeat walk_at "s"
        refine R_forJ (fun _ => rfl) ?_
        repeat walk_at "s"
        refine R_itemL (let ⟨c, e⟩ := hDl10; ⟨c, up_old (by with_reducible assumption) e⟩) (by decide) (by decide) hw0 rfl ?_
        repeat walk_at "s"
        refine R_itemT (let ⟨c, e⟩ := hpt10; ⟨c, up_old (by with_reducible assumption) e⟩) (by decide) (by decide) rfl rfl ?_
        repeat walk_at "s"
        rename_i q1 gq1 Bq1 _ _ q2 gq2 Bq2 q3 gq3 Bq3
        have s11 : Sub g10 (up (up (up g10 q1 (tupO [.int (i : Int) u, .ref px])) q2 (tupO [.int (j : Int) w0, .ref py])) q3 (tupO [.ref q1, .ref q2])) := ((Sub.refl.up gq1).up gq2).up gq3
        have hq1 : TU (up (up (up g10 q1 (tupO [.int (i : Int) u, .ref px])) q2 (tupO [.int (j : Int) w0, .ref py])) q3 (tupO [.ref q1, .ref q2])) q1 [.int (i : Int) u, .ref px] := ⟨_, up_old gq3 (up_old gq2 up_same)⟩
        have hq2 : TU (up (up (up g10 q1 (tupO [.int (i : Int) u, .ref px])) q2 (tupO [.int (j : Int) w0, .ref py])) q3 (tupO [.ref q1, .ref q2])) q2 [.int (j : Int) w0, .ref py] := ⟨_, up_old gq3 up_same⟩
        have hq3 : TU (up (up (up g10 q1 (tupO [.int (i : Int) u, .ref px])) q2 (tupO [.int (j : Int) w0, .ref py])) q3 (tupO [.ref q1, .ref q2])) q3 [.ref q1, .ref q2] := ⟨_, up_same⟩
        have n1 : q1 ∉ as := hL10.fresh gq1
        have n2 : q2 ∉ as := hL10.fresh ((Sub.refl.up gq1).none gq2)
        have n3 : q3 ∉ as := hL10.fresh (((Sub.refl.up gq1).up gq2).none gq3)
        have hL11 := hL10.sub s11
        have gc11 := s11 _ _ gc10
        have hDl11 := hDl10.sub s11
        have hS11 := hS10.trans s11
        generalize up (up (up g10 q1 (tupO [.int (i : Int) u, .ref px])) q2 (tupO [.int (j : Int) w0, .ref py])) q3 (tupO [.ref q1, .ref q2]) = g11 at *
        have keepTU : ∀ {g'' : Gh} {c : Addr} {vs : List Value}, Keep as g11 g'' → c ∉ as → TU g11 c vs → TU g'' c vs := fun {g'' c vs} hk hn ht => let ⟨k, e⟩ := ht; ⟨k, hk _ _ hn e⟩
        refine ⟨_, _, _, Src.tuple hq3, fun e he => ?_, fun k g'' l' => LK [(Str.ofString "later", .ref Dl), (Str.ofString "is_second", .bool sec)] l' ∧ Keep as g11 g'' ∧ Line W g'' ln as (lineF (hangU M' i (j + 1) rs) i j p k), ?_, ?_, ?_, ?_⟩
        · subst he
          obtain ⟨k, e⟩ := hq3
          exact ⟨_, e⟩
        · exact ⟨.cons rfl (.cons rfl .nil), Keep.refl, hL11⟩
        · rintro k g'' l' ⟨_, hk, _⟩ e o rfl he
          exact hk _ _ n3 he
        · rintro J k v g12 l12 hk hv ⟨hl12, hk12, hL12⟩ hJ
          refine R_known hl12 ?_
          obtain ⟨sp, f, qv, r, qq, ww, rfl, htt, hT4, hsp, hstep, hspl⟩ : ∃ (sp : Nat) (f : Addr) (qv : V4) (r : Rec) (qq : Addr) (ww : Tok), v = .ref qq ∧ TU g12 qq [.int (sp : Int) ww, .ref f] ∧ T4 S f qv ∧ (lineF (hangU M' i (j + 1) rs) i j p k)[sp]? = some r ∧ lineF (hangU M' i (j + 1) rs) i j p (k + 1) = (lineF (hangU M' i (j + 1) rs) i j p k).set sp (addV qv r) ∧ sp ≤ 1000 := by
            rcases (show k = 0 ∨ k = 1 by simp at hk; omega) with rfl | rfl
            · cases hv
              have hr3 : (hangU M' i (j + 1) rs)[i]? = some { ri with un := ri.un || (ri.cluster != M') } := by rw [hangU_get, hri, Option.map_some, if_pos (by omega)]
              exact ⟨i, px, p.1, _, q1, u, rfl, keepTU hk12 n1 hq1, hpx, hr3, (set_modify hr3).symm, by omega⟩
            · cases hv
              have hr4 : ((hangU M' i (j + 1) rs).modify i (addV p.1))[j]? = some { rj with un := rj.un || (rj.cluster != M') } := by
                rw [List.getElem?_modify, hangU_get, hrj, Option.map_some, if_pos (by omega)]
                have : i ≠ j := by omega
                simp [this]
              exact ⟨j, py, p.2, _, q2, w0, rfl, keepTU hk12 n2 hq2, hpy, hr4, (set_modify hr4).symm, by omega⟩
          have hS12 := hk12.sub hS11 hSa
          have gc12 := hk12 _ _ hcn gc11
          have hll12 := hL12.list
          obtain ⟨a, ha, of, ta, tb, tc, t4, t5, t6, hrow, hoff⟩ := hL12.row hsp
          have hit := hL12.item ha (x := (sp : Int)) rfl
          have hBa := hL12.base a (List.mem_of_getElem? ha)
          obtain ⟨f1, f2, f3, f4, hfT⟩ := hT4
          have hfT12 := hfT.sub hS12
          repeat walk_at "s"
          refine R_cell rfl rfl rfl rfl gc12 hld ?_
          repeat walk_at "s"
          refine R_itemL hll12 (by omega) (by omega) hit rfl ?_
          repeat walk_at "s"
          refine R_cell rfl rfl rfl rfl gc12 hld ?_
          repeat walk_at "s"
          refine R_itemL hll12 (by omega) (by omega) hit rfl ?_
          repeat walk_at "s"
          refine R_cell rfl rfl rfl rfl gc12 hld ?_
          repeat walk_at "s"
          refine R_itemL hll12 (by omega) (by omega) hit rfl ?_
          repeat walk_at "s"
          rename_i x1 _ _ _ x2 _ _ _ x3 nl gnl Bnl
          have s13 : Sub g12 (up g12 nl (lstO [.int (r.xo + qv.a) x1, .int (r.yo + qv.b) x2, .int (r.xa + qv.c) x3] 0)) := Sub.refl.up gnl
          have hL13 := hL12.sub s13
          have hnl : LI (up g12 nl (lstO [.int (r.xo + qv.a) x1, .int (r.yo + qv.b) x2, .int (r.xa + qv.c) x3] 0)) nl [.int (r.xo + qv.a) x1, .int (r.yo + qv.b) x2, .int (r.xa + qv.c) x3] := ⟨0, up_same⟩
          have gc13 := s13 _ _ gc12
          have hrow13 := hrow.sub s13
          have hk13 : Keep as g11 (up g12 nl (lstO [.int (r.xo + qv.a) x1, .int (r.yo + qv.b) x2, .int (r.xa + qv.c) x3] 0)) := hk12.trans s13.keep
          generalize up g12 nl (lstO [.int (r.xo + qv.a) x1, .int (r.yo + qv.b) x2, .int (r.xa + qv.c) x3] 0) = g13 at *
          refine R_cell rfl rfl rfl rfl gc13 hld ?_
          repeat walk_at "s"
          refine R_itemL hL13.list (by omega) (by omega) hit rfl ?_
          repeat walk_at "s"
          refine R_setL hrow13 hBa (by decide) (by decide) (by simp) fun c => ?_
          repeat walk_at "s"
          refine hJ _ _ ⟨.cons rfl (.cons rfl .nil), hk13.upIn (List.mem_of_getElem? ha), ?_⟩
          rw [hstep]
          exact hL13.setAt ha hrow13 ⟨nl, ta, tb, tc, x1, x2, x3, ⟨c, up_same⟩, hnl.other hrow13 (fun e => by simp at e)⟩
        rintro g14 l14 ⟨hl14, hk14, hL14⟩
        refine R_known hl14 ?_
        have hDl14 : LI g14 Dl lys := let ⟨c, e⟩ := hDl11; ⟨c, hk14 _ _ hDln e⟩
        have hkAll : Keep as g g14 := ((Sub.keep (hold.trans hs8)).trans hk10).trans ((Sub.keep s11).trans hk14)
        repeat walk_at "s"
        walk_at "ife"
        repeat walk_at "s"
        refine ⟨fun q => ?_, fun q => ?_⟩
        · subst q
          repeat walk_at "s"
          refine R_itemL hDl14 (by decide) (by decide) hw0 rfl ?_
          repeat walk_at "s"
          exact h _ _ hkAll hL14
        · subst q
          repeat walk_at "s"
          refine R_itemL hDl14 (by decide) (by decide) hw0 rfl ?_
          repeat walk_at "s"
          exact h _ _ hkAll hL14

def offD (D : List Addr) (g : Gh) : Gh := fun b => if b ∈ D then none else g b
def joinD (D : List Addr) (g g1 : Gh) : Gh := fun b => if b ∈ D then g b else g1 b
theorem RC_off {W : Wd KF} {n : Nat} {L : Addr} {l : Lm} {g : Gh} {c : Code} {Q : Value → Gh → Prop} (D : List Addr) (hB : ∀ d ∈ D, W.B.get? d = none) (hg : ∀ d ∈ D, ∃ o, g d = some o)
    (h : RC W n L l (offD D g) c fun v g1 => (∀ d ∈ D, g1 d = none) → Q v (joinD D g g1)) : RC W n L l g c Q := by
  intro A s fr ok i
  have notL : L ∉ D := fun hm => by obtain ⟨o, e⟩ := hg L hm; rw [i.off] at e; cases e
  have frD : ∀ b o, fr b = some o → b ∉ D := fun b o e hm => by obtain ⟨o', e'⟩ := hg b hm; rw [i.apart b o e] at e'; cases e'
  let fr2 : Gh := fun b => if b ∈ D then g b else fr b
  have i2 : In W fr2 (offD D g) L l s.heap := {
    sub := fun b o e => by
      unfold offD at e
      split at e
      · cases e
      · exact i.sub b o e
    fsub := fun b o e => by
      simp only [fr2] at e
      split at e
      · exact i.sub b o e
      · exact i.fsub b o e
    apart := fun b o e => by
      simp only [fr2] at e
      unfold offD
      split at e
      · rename_i q; rw [if_pos q]
      · rename_i q; rw [if_neg q]; exact i.apart b o e
    base := fun b o e => by
      unfold offD
      rw [if_neg fun q => by rw [hB b q] at e; cases e]
      exact i.base b o e
    off := by unfold offD; rw [if_neg notL]; exact i.off
    foff := by simp only [fr2]; rw [if_neg notL]; exact i.foff
    above := i.above
    ns := i.ns }
  refine codeAny_mono (h A s fr2 ok i2) fun r s' ⟨v, g1, hr, i', e, q⟩ => ?_
  have hno : ∀ d ∈ D, g1 d = none := fun d hd => by
    obtain ⟨o, eo⟩ := hg d hd
    exact i'.apart d o (by simp only [fr2]; rw [if_pos hd]; exact eo)
  refine ⟨v, joinD D g g1, hr, ?_, e, q hno⟩
  exact {
    sub := fun b o e => by
      unfold joinD at e
      split at e
      · rename_i z; exact i'.fsub b o (by simp only [fr2]; rw [if_pos z]; exact e)
      · exact i'.sub b o e
    fsub := fun b o e => i'.fsub b o (by simp only [fr2]; rw [if_neg (frD b o e)]; exact e)
    apart := fun b o e => by
      unfold joinD
      rw [if_neg (frD b o e)]
      exact i'.apart b o (by simp only [fr2]; rw [if_neg (frD b o e)]; exact e)
    base := fun b o e => by
      unfold joinD
      rw [if_neg fun z => by rw [hB b z] at e; cases e]
      exact i'.base b o e
    off := by unfold joinD; rw [if_neg notL]; exact i'.off
    foff := i.foff
    above := i.above
    ns := i'.ns }
theorem offD_of {D : List Addr} {s g : Gh} (h : Sub s g) (hD : ∀ d ∈ D, s d = none) : Sub s (offD D g) := fun b o e => by
  unfold offD; rw [if_neg fun z => by rw [hD b z] at e; cases e]; exact h b o e
theorem joinD_right {D : List Addr} {g g1 : Gh} (h : ∀ d ∈ D, g1 d = none) : Sub g1 (joinD D g g1) := fun b o e => by
  unfold joinD; rw [if_neg fun z => by rw [h b z] at e; cases e]; exact e
theorem joinD_left {D : List Addr} {g g1 : Gh} (h : Sub (offD D g) g1) : Sub g (joinD D g g1) := fun b o e => by
  unfold joinD
  by_cases z : b ∈ D
  · rw [if_pos z]; exact e
  · rw [if_neg z]; exact h b o (by unfold offD; rw [if_neg z]; exact e)

def RecOk (r : Rec) : Prop := KindOk r ∧ 1 ≤ r.glyph ∧ r.glyph ≤ 5
theorem hangU_ok {M : Int} {a k : Nat} {rs : List Rec} (h : ∀ r ∈ rs, RecOk r) : ∀ r ∈ hangU M a k rs, RecOk r := fun r hr => by
  obtain ⟨i, hi⟩ := List.mem_iff_getElem?.mp hr
  rw [hangU_get] at hi
  cases e : rs[i]? with
  | none => rw [e] at hi; cases hi
  | some x =>
    rw [e, Option.map_some] at hi
    have hx := h x (List.mem_of_getElem? e)
    have := Option.some.inj hi
    rw [← this]
    split <;> exact hx
theorem modify_ok {i : Nat} {v : V4} {rs : List Rec} (h : ∀ r ∈ rs, RecOk r) : ∀ r ∈ rs.modify i (addV v), RecOk r := fun r hr => by
  obtain ⟨j, hj⟩ := List.mem_iff_getElem?.mp hr
  rw [List.getElem?_modify] at hj
  cases e : rs[j]? with
  | none => rw [e] at hj; cases hj
  | some x =>
    rw [e] at hj
    have hx := h x (List.mem_of_getElem? e)
    simp at hj
    rw [← hj]
    split <;> exact hx
theorem stepOf_ok {mp : Int → Int → Option (V4 × V4)} {sec : Bool} {rs : List Rec} {i : Nat} {M : Int} {o : Option Nat} (h : ∀ r ∈ rs, RecOk r) : (∀ r ∈ (stepOf mp sec rs i M o).2, RecOk r) ∧ (stepOf mp sec rs i M o).2.length = rs.length := by
  unfold stepOf
  cases o with
  | none => exact ⟨h, rfl⟩
  | some j =>
    dsimp only
    split
    · split
      · exact ⟨h, rfl⟩
      · exact ⟨modify_ok (modify_ok (hangU_ok h)), by simp [hangU_len]⟩
    · exact ⟨h, rfl⟩
theorem next_ex (pas : Bool) (rs : List Rec) (k : Nat) : ∃ o, IsNext pas rs k o := by
  have key : ∀ m, (∃ j, j < k + 1 + m ∧ IsNext pas rs k (some j)) ∨ ∀ (i : Nat) (r : Rec), k < i → i < k + 1 + m → rs[i]? = some r → good pas r = false := by
    intro m
    induction m with
    | zero => exact .inr fun i r h1 h2 => by omega
    | succ m ih =>
      rcases ih with ⟨j, hj, hn⟩ | hno
      · exact .inl ⟨j, by omega, hn⟩
      · cases e : rs[k + 1 + m]? with
        | none =>
          refine .inr fun i r h1 h2 h3 => ?_
          rcases Nat.lt_or_ge i (k + 1 + m) with hh | hh
          · exact hno i r h1 hh h3
          · have : i = k + 1 + m := by omega
            rw [this, e] at h3; cases h3
        | some x =>
          by_cases q : good pas x = true
          · exact .inl ⟨k + 1 + m, by omega, by omega, ⟨x, e, q⟩, hno⟩
          · refine .inr fun i r h1 h2 h3 => ?_
            rcases Nat.lt_or_ge i (k + 1 + m) with hh | hh
            · exact hno i r h1 hh h3
            · have : i = k + 1 + m := by omega
              rw [this, e] at h3; cases h3; simpa using q
  rcases key rs.length with ⟨j, _, hn⟩ | hno
  · exact ⟨some j, hn⟩
  · exact ⟨none, fun i r h1 h2 => hno i r h1 (by have := (List.getElem?_eq_some_iff.mp h2).1; omega) h2⟩
theorem min_ex {rs : List Rec} {a : Nat} : ∀ (m : Nat), a + m < rs.length → ∃ M, IsMin M rs a (a + m)
  | 0, h => by
    have e : rs[a]? = some rs[a] := by simp
    refine ⟨rs[a].cluster, ⟨a, _, by omega, by omega, e, rfl⟩, fun j r h1 h2 h3 => ?_⟩
    have : j = a := by omega
    subst this
    rw [e] at h3; cases h3; omega
  | m + 1, h => by
    obtain ⟨M, ⟨j0, r0, a1, a2, a3, a4⟩, hM⟩ := min_ex (rs := rs) (a := a) m (by omega)
    have e : rs[a + (m + 1)]? = some rs[a + (m + 1)] := by simp
    generalize rs[a + (m + 1)] = x at e
    by_cases q : x.cluster < M
    · refine ⟨x.cluster, ⟨a + (m + 1), x, by omega, by omega, e, rfl⟩, fun j r h1 h2 h3 => ?_⟩
      rcases Nat.lt_or_ge j (a + (m + 1)) with hh | hh
      · have := hM j r h1 (by omega) h3; omega
      · have : j = a + (m + 1) := by omega
        subst this
        rw [e] at h3; cases h3; omega
    · refine ⟨M, ⟨j0, r0, a1, by omega, a3, a4⟩, fun j r h1 h2 h3 => ?_⟩
      rcases Nat.lt_or_ge j (a + (m + 1)) with hh | hh
      · exact hM j r h1 (by omega) h3
      · have : j = a + (m + 1) := by omega
        subst this
        rw [e] at h3; cases h3; omega
theorem min_all {pas : Bool} {rs : List Rec} {k : Nat} {o : Option Nat} (hN : IsNext pas rs k o) : ∃ M, ∀ j, o = some j → IsMin M rs k j := by
  cases o with
  | none => exact ⟨0, fun j e => by cases e⟩
  | some j =>
    obtain ⟨h1, ⟨r, h2, _⟩, _⟩ := hN
    obtain ⟨M, hM⟩ := min_ex (rs := rs) (a := k) (j - k) (by have := (List.getElem?_eq_some_iff.mp h2).1; omega)
    rw [show k + (j - k) = j by omega] at hM
    exact ⟨M, fun j' e => by cases e; exact hM⟩
theorem stepOf_ix {mp : Int → Int → Option (V4 × V4)} {sec pas : Bool} {rs : List Rec} {i : Nat} {M : Int} {o : Option Nat} (hN : IsNext pas rs i o) : -1 ≤ (stepOf mp sec rs i M o).1 ∧ (stepOf mp sec rs i M o).1 ≤ rs.length := by
  unfold stepOf
  cases o with
  | none => exact ⟨by simp, by simp⟩
  | some j =>
    obtain ⟨h1, ⟨r, h2, _⟩, _⟩ := hN
    have hj := (List.getElem?_eq_some_iff.mp h2).1
    dsimp only
    split
    · split
      · exact ⟨by simp, by simp⟩
      · cases sec <;> simp <;> omega
    · exact ⟨by simp, by simp⟩

def recData (r : Rec) : PyData := .list [.int r.glyph, .str r.kind, .int r.cluster, .list [.int r.xo, .int r.yo, .int r.xa], .bool r.un]
theorem line_reads {W : Wd KF} {g : Gh} {ln : Addr} {as : List Addr} {rs : List Rec} (hL : Line W g ln as rs) (hh : Heap) (hk : ∀ c o, g c = some o → hh.get? c = some o) : ∃ xs, Reads hh (.ref ln) (.list (rs.map recData)) xs := by
  have all : ∀ (as : List Addr) (rs : List Rec), as.length = rs.length → (∀ (i : Nat) (a : Addr), as[i]? = some a → ∃ r, rs[i]? = some r ∧ RowAt g a r) → ∃ xs, ReadsAll hh (as.map Value.ref) (rs.map recData) xs := by
    intro as
    induction as with
    | nil =>
      intro rs hl _
      cases rs with
      | nil => exact ⟨_, .nil⟩
      | cons r rs => simp at hl
    | cons a as ih =>
      intro rs hl h
      cases rs with
      | nil => simp at hl
      | cons r rs =>
        obtain ⟨xs, hx⟩ := ih rs (by simpa using hl) fun i b e => by
          obtain ⟨r', h1, h2⟩ := h (i + 1) b (by simpa using e)
          exact ⟨r', by simpa using h1, h2⟩
        obtain ⟨r', h1, o, t, u, w, t1, t2, t3, ⟨k, e⟩, ⟨k', e'⟩⟩ := h 0 a rfl
        simp at h1
        subst h1
        exact ⟨_, .cons (reads_list_at (hk _ _ e) rfl rfl (.cons (.int _ _) (.cons (.str _ _) (.cons (.int _ _) (.cons (reads_list_at (hk _ _ e') rfl rfl (.cons (.int _ _) (.cons (.int _ _) (.cons (.int _ _) .nil)))) (.cons (.bool _) .nil)))))) hx⟩
  obtain ⟨xs, hx⟩ := all as rs hL.len hL.at_
  obtain ⟨k, e⟩ := hL.list
  exact ⟨_, reads_list_at (hk _ _ e) rfl rfl (by simpa using hx)⟩
theorem rec_lay {r : Rec} (h : KindOk r) : (recData r).canLay0 = true ∧ (recData r).depth ≤ 2 := by
  have : PyData.strOk r.kind = true := by rcases h with h | h | h | h <;> rw [h] <;> decide +kernel
  simp [recData, PyData.canLay0, PyData.canLayAll0, PyData.depth, PyData.depthAll, this]
theorem line_shaped : ∀ {rs : List Rec}, (∀ r ∈ rs, KindOk r) → PyData.canLayAll0 (rs.map recData) = true ∧ PyData.depthAll (rs.map recData) ≤ 2
  | [], _ => by simp [PyData.canLayAll0, PyData.depthAll]
  | r :: rs, h => by
    obtain ⟨a, b⟩ := line_shaped fun x hx => h x (.tail _ hx)
    obtain ⟨c, d⟩ := rec_lay (h r (.head _))
    simp only [List.map_cons, PyData.canLayAll0, PyData.depthAll, a, c, Bool.and_self, true_and]
    omega
theorem line_eqv : ∀ {rs : List Rec}, PyData.eqvAll (rs.map recData) (rs.map recData) = true
  | [] => by simp [PyData.eqvAll]
  | r :: rs => by
    simp only [List.map_cons, PyData.eqvAll, line_eqv, Bool.and_true]
    simp [recData, PyData.eqv, PyData.eqvAll]
theorem line_shape {rs : List Rec} (h : ∀ r ∈ rs, KindOk r) : SeqAt.shaped (.list (rs.map recData)) = true := by
  obtain ⟨a, b⟩ := line_shaped h
  unfold SeqAt.shaped
  simp only [PyData.canLay0, PyData.depth, a, Bool.true_and]
  exact decide_eq_true (by omega)
theorem Line.keep {W : Wd KF} {g g' : Gh} {ln infos : Addr} {as : List Addr} {rs rs' : List Rec} {ads : List (Addr × Addr)} (hL : Line W g ln as rs) (hI : Infos W g infos ads rs') (hk : Keep (ads.map (·.2)) g g') : Line W g' ln as rs := by
  have kl : ∀ {a vs}, LI g a vs → LI g' a vs := fun {a vs} ⟨k, e⟩ => ⟨k, hk _ _ (not_dict hI e fun es c => lst_ne_dict) e⟩
  exact ⟨kl hL.list, hL.len, fun i a e => let ⟨r, h1, o, t, u, w, t1, t2, t3, p, q⟩ := hL.at_ i a e; ⟨r, h1, o, t, u, w, t1, t2, t3, kl p, kl q⟩, hL.nodup, hL.base⟩

theorem joinD_sub {D : List Addr} {S g g1 : Gh} (hS : Sub S g) (hSD : ∀ d ∈ D, S d = none) (h1 : Sub (offD D g) g1) : Sub S g1 := fun b o e => h1 b o (by unfold offD; rw [if_neg fun z => by rw [hSD b z] at e; cases e]; exact hS b o e)
theorem scene_off {W : Wd KF} {n : Nat} {L : Addr} {l : Lm} {g : Gh} {a tb : Addr} {bw pas : Bool} {D : List Addr} {Q : Value → Gh → Prop} (hB : ∀ d ∈ D, W.B.get? d = none) (hg : ∀ d ∈ D, ∃ o, g d = some o)
    (h : ∀ S' g' sc, Sub g g' → Sub (offD D g) S' → Sub S' g' → (∀ d ∈ D, S' d = none) → Scn W S' sc a bw pas → Q (.ref sc) g') : RC W (n+4) L l g (.call (.ref 550) ⟨[.ref a, .bool bw, .ref tb, .bool pas], []⟩) Q :=
  RC_off D hB hg (law_scene fun g1 sc hs hS hno => h g1 _ sc (joinD_left hs) hs (joinD_right hno) hno hS)
theorem Infos.has {W : Wd KF} {g : Gh} {a : Addr} {ads : List (Addr × Addr)} {rs : List Rec} (hI : Infos W g a ads rs) : ∀ d ∈ ads.map (·.2), W.B.get? d = none ∧ ∃ o, g d = some o := fun d hd => by
  obtain ⟨p, hp, rfl⟩ := List.mem_map.mp hd
  obtain ⟨j, hj⟩ := List.mem_iff_getElem?.mp hp
  obtain ⟨_, _, hB, _, _, _, ⟨_, o, ho, _⟩, _⟩ := hI.at_ j p.1 p.2 hj
  exact ⟨hB, o, ho⟩
theorem Line.has {W : Wd KF} {g : Gh} {ln : Addr} {as : List Addr} {rs : List Rec} (hL : Line W g ln as rs) : ∀ a ∈ as, W.B.get? a = none ∧ ∃ o, g a = some o := fun a ha => by
  obtain ⟨j, hj⟩ := List.mem_iff_getElem?.mp ha
  obtain ⟨_, _, _, _, _, _, _, _, _, ⟨k, e⟩, _⟩ := hL.at_ j a hj
  exact ⟨hL.base a ha, _, e⟩
theorem Infos.keepL {W : Wd KF} {g g' : Gh} {a ln : Addr} {ads : List (Addr × Addr)} {as : List Addr} {rs rs' : List Rec} (hI : Infos W g a ads rs) (hL : Line W g ln as rs') (hk : Keep as g g') (ha : a ∉ as) : Infos W g' a ads rs := by
  refine ⟨let ⟨k, e⟩ := hI.list; ⟨k, hk _ _ ha e⟩, hI.len, fun i x d e => ?_, hI.nodup⟩
  obtain ⟨r, h1, h2, k, m, h3, ⟨h4, o, h5, h6⟩, h7⟩ := hI.at_ i x d e
  have nx : ∀ {c o}, g c = some o → (∀ vs k, o ≠ lstO vs k) → c ∉ as := fun {c o} hc hne hm => by
    obtain ⟨j, hj⟩ := List.mem_iff_getElem?.mp hm
    obtain ⟨_, _, _, _, _, _, _, _, _, ⟨k, e⟩, _⟩ := hL.at_ j c hj
    rw [hc] at e; cases e; exact hne _ _ rfl
  refine ⟨r, h1, h2, k, m, h3, ⟨hk _ _ (nx h4 fun vs k => lst_ne_inst.symm) h4, o, hk _ _ (nx h5 fun vs k => ?_) h5, h6⟩, h7⟩
  obtain ⟨es, c, rfl, _⟩ := h6
  exact lst_ne_dict.symm

theorem toRec_ok {cs : List Cel} (h : ∀ c ∈ cs, (c.kind = Str.ofString "" ∨ c.kind = Str.ofString "zwj" ∨ c.kind = Str.ofString "zwnj" ∨ c.kind = Str.ofString "hidden") ∧ 1 ≤ c.glyph ∧ c.glyph ≤ 5) : ∀ r ∈ cs.map Cel.toRec, RecOk r := fun r hr => by
  obtain ⟨c, hc, rfl⟩ := List.mem_map.mp hr
  exact h c hc

theorem law_right {W : Wd KF} {n : Nat} {L : Addr} {l : Lm} {g : Gh} {row tb pd : Addr} {ts : List Addr} {cs : List Cel} {bw pas sec : Bool} {mp : Int → Int → Option (V4 × V4)} {N : Nat} {Q : Value → Gh → Prop} (hr : RowT g row ts cs) (hz : cs.length ≤ 20) (hT : Tab W g tb mp sec) (hD : DictT W g pd mp sec N)
    (hok : ∀ c ∈ cs, (c.kind = Str.ofString "" ∨ c.kind = Str.ofString "zwj" ∨ c.kind = Str.ofString "zwnj" ∨ c.kind = Str.ofString "hidden") ∧ 1 ≤ c.glyph ∧ c.glyph ≤ 5)
    (h : ∀ g', Sub g g' → Q (.bool true) g') : RC W (n+9) L l g (.call (.ref 557) ⟨[.ref row, .bool bw, .ref tb, .ref pd, .bool pas, .bool sec], []⟩) Q := by
  refine RC_def (binds := [(Str.ofString "row", .ref row), (Str.ofString "is_backward", .bool bw), (Str.ofString "table", .ref tb), (Str.ofString "pairs", .ref pd), (Str.ofString "is_passing", .bool pas), (Str.ofString "is_second", .bool sec)]) (by k_is) (by k_is) (fun _ _ => BindsTo.of_eq rfl) rfl rfl rfl rfl rfl fun L' => ?_
  have hrl := hr.list
  have hrz : (ts.map Value.ref).length ≤ 1000000 := by rw [List.length_map, hr.len]; omega
  have hrecs := toRec_ok hok
  have hrsl : (cs.map Cel.toRec).length = cs.length := List.length_map ..
  generalize hrs0 : cs.map Cel.toRec = rs0 at *
  repeat walk_at "s"
  refine R_for (fun _ => rfl) ?_
  repeat walk_at "s"
  rw [List.length_map, hr.len]
  refine R_range1 fun r1 t1 t2 t3 gr1 Br1 => ?_
  have s1 : Sub g (up g r1 (rngO 0 (cs.length : Int) t1 t2 t3)) := Sub.refl.up gr1
  refine ⟨_, _, _, Src.range (N := cs.length) up_same (by omega) (by omega) (by omega) (by omega) (by omega), fun e he => he.elim, fun k g' l' => LK [(Str.ofString "row", .ref row), (Str.ofString "is_backward", .bool bw), (Str.ofString "table", .ref tb), (Str.ofString "pairs", .ref pd), (Str.ofString "is_passing", .bool pas), (Str.ofString "is_second", .bool sec)] l' ∧ Sub g g', ?_, fun i g' l' _ e o he _ => he.elim, ?_, ?_⟩
  · exact ⟨.cons rfl (.cons rfl (.cons rfl (.cons rfl (.cons rfl (.cons rfl .nil))))), s1⟩
  · rintro i v g1 l1 hi ⟨tv, rfl⟩ ⟨hl1, hs1⟩
    refine R_known hl1 ?_
    rw [show (0 : Int) + (i : Int) = (i : Int) by omega]
    obtain ⟨o, hN⟩ := next_ex pas rs0 i
    obtain ⟨M, hM⟩ := min_all hN
    have hst := stepOf_ok (mp := mp) (sec := sec) (i := i) (M := M) (o := o) hrecs
    repeat walk_at "s"
    refine R_ofRC (law_infos (hr.sub hs1) (by omega) fun g2 a ads s2 hI2 hf2 => ?_)
    rw [hrs0] at hI2
    repeat walk_at "s"
    refine R_ofRC (law_shown hI2 (by omega) fun g3 ln as s3 hL3 hf3 => ?_)
    have hs3 : Sub g1 g3 := s2.trans s3
    repeat walk_at "s"
    refine R_ofRC (law_step (S := g2) s3 (hD.sub (hs1.trans s2)) hL3 hf3 (by omega) (by omega) hN hM fun g4 t4 hk4 hL4 => ?_)
    have hs24 : Sub g2 g4 := hk4.sub s3 hf3
    have hI4 := hI2.sub hs24
    repeat walk_at "s"
    refine R_orCons ?_
    repeat walk_at "s"
    have hDn : ∀ d ∈ ads.map (·.2) ++ as, W.B.get? d = none ∧ ∃ o, g4 d = some o := fun d hd => by
      rcases List.mem_append.mp hd with hd | hd
      · exact hI4.has d hd
      · exact hL4.has d hd
    have hg2 : Sub g g2 := hs1.trans s2
    have gdict : ∀ d ∈ ads.map (·.2), g d = none := fun d hd => by obtain ⟨q, hq, rfl⟩ := List.mem_map.mp hd; exact hs1.none (hf2 q hq)
    have grow : ∀ d ∈ as, g d = none := fun d hd => hg2.none (hf3 d hd)
    have hg4 : Sub g g4 := hg2.trans hs24
    refine R_ofRC (scene_off (fun d hd => (hDn d hd).1) (fun d hd => (hDn d hd).2) fun S' g5 sc s45 hoff sS hSD hS => ?_)
    have hgS : Sub g S' := joinD_sub hg4 (fun d hd => by
      rcases List.mem_append.mp hd with hd | hd
      · exact gdict d hd
      · exact grow d hd) hoff
    have hI5 := hI4.sub s45
    repeat walk_at "s"
    refine R_ofRC (apply_pair sS (hT.sub hgS) hS hI5 (fun q hq => hSD _ (List.mem_append_left _ (List.mem_map.mpr ⟨q, hq, rfl⟩))) (fun r hr => (hrecs r hr).1) (fun r hr => (hrecs r hr).2) (by omega) (by omega) hN hM fun g6 t6 hk6 hI6 => ?_)
    have hL6 := (hL4.sub s45).keep hI5 hk6
    have hg6 : Sub g g6 := hk6.sub (hg4.trans s45) gdict
    repeat walk_at "s"
    refine R_neI ?_
    repeat walk_at "s"
    refine ⟨fun _ => ?_, fun q => absurd q (by simp)⟩
    refine R_orCons ?_
    repeat walk_at "s"
    refine R_ofRC (law_shown hI6 (by omega) fun g7 ln2 as2 s7 hL7 _ => ?_)
    repeat walk_at "s"
    refine R_neD (line_reads hL7) (line_reads (hL6.sub s7)) (line_shape fun r hr => (hst.1 r hr).1) (line_shape fun r hr => (hst.1 r hr).1) ?_
    repeat walk_at "s"
    refine ⟨fun _ => ?_, fun q => absurd q (by simp [PyData.eqv, line_eqv])⟩
    refine R_orNil ⟨fun q => absurd q (by decide), fun _ => ?_⟩
    repeat walk_at "s"
    exact ⟨.cons rfl (.cons rfl (.cons rfl (.cons rfl (.cons rfl (.cons rfl .nil))))), hg6.trans s7⟩
  · rintro g1 l1 ⟨hl1, hs1⟩
    refine R_known hl1 ?_
    repeat walk_at "s"
    refine R_ofRC (law_infos (hr.sub hs1) (by omega) fun g2 a ads s2 hI2 hf2 => ?_)
    rw [hrs0] at hI2
    repeat walk_at "s"
    refine ⟨_, _, _, _, rfl, ⟨_, up_same⟩, ?_⟩
    rename_i _ _ q1 gq1 Bq1
    have hgq : ∀ o, Sub g2 (up g2 q1 o) := fun o => Sub.refl.up gq1
    have hI3 := fun o => hI2.sub (hgq o)
    have hs3 : ∀ o, Sub g (up g2 q1 o) := fun o => (hs1.trans s2).trans (hgq o)
    repeat walk_at "s"
    refine R_ofRC (law_shown (hI3 _) (by omega) fun g4 ln as s4 hL4 hf4 => ?_)
    have hI4 := (hI3 _).sub s4
    have haas : a ∉ as := fun ha => by
      obtain ⟨k, e⟩ := (hI3 _).list
      rw [hf4 a ha] at e
      cases e
    have gdict : ∀ d ∈ ads.map (·.2), g d = none := fun d hd => by obtain ⟨q, hq, rfl⟩ := List.mem_map.mp hd; exact hs1.none (hf2 q hq)
    have grow : ∀ d ∈ as, g d = none := fun d hd => (hs3 _).none (hf4 d hd)
    have hs4 : Sub g g4 := (hs3 _).trans s4
    clear hI2 hI3 hgq hs3
    repeat walk_at "s"
    have hDn : ∀ d ∈ ads.map (·.2) ++ as, W.B.get? d = none ∧ ∃ o, g4 d = some o := fun d hd => by
      rcases List.mem_append.mp hd with hd | hd
      · exact hI4.has d hd
      · exact hL4.has d hd
    refine R_ofRC (scene_off (fun d hd => (hDn d hd).1) (fun d hd => (hDn d hd).2) fun S' g5 sc s45 hoff sS hSD hS => ?_)
    have hgS : Sub g S' := joinD_sub hs4 (fun d hd => by
      rcases List.mem_append.mp hd with hd | hd
      · exact gdict d hd
      · exact grow d hd) hoff
    have hI5 := hI4.sub s45
    have hL5 := hL4.sub s45
    repeat walk_at "s"
    refine ⟨_, _, _, rfl, ⟨_, up_same⟩, ?_⟩
    rename_i q2 gq2 Bq2
    have s5 : Sub g g5 := hs4.trans s45
    have hSd : ∀ q ∈ ads, S' q.2 = none := fun q hq => hSD _ (List.mem_append_left _ (List.mem_map.mpr ⟨q, hq, rfl⟩))
    have hSa : ∀ d ∈ as, S' d = none := fun d hd => hSD _ (List.mem_append_right _ hd)
    clear hI4 hL4 hDn hoff gdict grow
    repeat walk_at "s"
    refine R_for (fun _ => rfl) ?_
    repeat walk_at "s"
    refine R_lenL (hrl.sub (s5.trans (Sub.refl.up gq2))) hrz fun tl => ?_
    rw [List.length_map, hr.len]
    repeat walk_at "s"
    refine R_range1 fun r2 u1 u2 u3 gr2 Br2 => ?_
    have hup : ∀ o, Sub g5 (up (up g5 q2 (tupO [Value.ref ln, Value.ref sc])) r2 o) := fun o => (Sub.refl.up gq2).up gr2
    refine ⟨_, _, _, Src.range (N := cs.length) up_same (by omega) (by omega) (by omega) (by omega) (by omega), fun e he => he.elim, fun k g' l' => ∃ (x : Nat) (rs : List Rec) (tA tB : Tok), x ≤ cs.length ∧ LK [(Str.ofString "row", .ref row), (Str.ofString "table", .ref tb), (Str.ofString "pairs", .ref pd), (Str.ofString "is_passing", .bool pas), (Str.ofString "is_second", .bool sec), (Str.ofString "infos", .ref a), (Str.ofString "line", .ref ln), (Str.ofString "scene", .ref sc), (Str.ofString "at", .int x tA), (Str.ofString "here", .int x tB)] l' ∧ Sub S' g' ∧ Infos W g' a ads rs ∧ Line W g' ln as rs ∧ (∀ r ∈ rs, RecOk r) ∧ rs.length = cs.length, ?_, fun i g' l' _ e o he _ => he.elim, ?_, ?_⟩
    · exact ⟨0, rs0, _, _, by omega, .cons rfl (.cons rfl (.cons rfl (.cons rfl (.cons rfl (.cons rfl (.cons rfl (.cons rfl (.cons rfl (.cons rfl .nil))))))))), sS.trans (hup _), hI5.sub (hup _), hL5.sub (hup _), hrecs, hrsl⟩
    · rintro i v g6 l6 hi ⟨tv, rfl⟩ ⟨x, rs, tA, tB, hx, hl6, hs6, hI6, hL6, hok6, hlen6⟩
      refine R_known hl6 ?_
      repeat walk_at "s"
      refine R_lenL (hrl.sub (hgS.trans hs6)) hrz fun tl2 => ?_
      rw [List.length_map, hr.len]
      repeat walk_at "s"
      by_cases hxl : x < cs.length
      · refine ⟨fun _ => ?_, fun q => absurd q (by simp; omega)⟩
        obtain ⟨o, hN⟩ := next_ex pas rs x
        obtain ⟨M, hM⟩ := min_all hN
        have hst := stepOf_ok (mp := mp) (sec := sec) (i := x) (M := M) (o := o) hok6
        have hix := stepOf_ix (mp := mp) (sec := sec) (M := M) hN
        repeat walk_at "s"
        refine R_ofRC (apply_pair (S := S') hs6 (hT.sub hgS) hS hI6 hSd (fun r hr => (hok6 r hr).1) (fun r hr => (hok6 r hr).2) (by omega) (by omega) hN hM fun g7 t7 hk7 hI7 => ?_)
        have hL7 := hL6.keep hI6 hk7
        have hs7 : Sub S' g7 := hk7.sub hs6 (fun d hd => by obtain ⟨q, hq, rfl⟩ := List.mem_map.mp hd; exact hSd q hq)
        repeat walk_at "s"
        refine R_max fun t8 => ?_
        repeat walk_at "s"
        refine R_lenL (hrl.sub (hgS.trans hs7)) hrz fun tl3 => ?_
        rw [List.length_map, hr.len]
        repeat walk_at "s"
        refine ⟨fun _ => ?_, fun q => absurd q (by simp; omega)⟩
        repeat walk_at "s"
        refine R_ofRC (law_step (S := S') hs7 (hD.sub hgS) hL7 hSa (by omega) (by omega) hN hM fun g9 t9 hk9 hL9 => ?_)
        have hI9 := hI7.keepL hL7 hk9 haas
        repeat walk_at "s"
        refine R_max fun t10 => ?_
        repeat walk_at "s"
        obtain ⟨x', hx', hxl'⟩ : ∃ x' : Nat, (if (stepOf mp sec rs x M o).1 > (x : Int) + 1 then (stepOf mp sec rs x M o).1 else (x : Int) + 1) = (x' : Int) ∧ x' ≤ cs.length := by
          refine ⟨(if (stepOf mp sec rs x M o).1 > (x : Int) + 1 then (stepOf mp sec rs x M o).1 else (x : Int) + 1).toNat, ?_, ?_⟩ <;> split <;> omega
        rw [hx']
        exact ⟨x', _, _, _, hxl', .cons rfl (.cons rfl (.cons rfl (.cons rfl (.cons rfl (.cons rfl (.cons rfl (.cons rfl (.cons rfl (.cons rfl .nil))))))))), hk9.sub hs7 hSa, hI9, hL9, hst.1, hst.2.trans hlen6⟩
      · refine ⟨fun q => absurd q (by simp; omega), fun _ => ?_⟩
        repeat walk_at "s"
        refine R_lenL (hrl.sub (hgS.trans hs6)) hrz fun tl3 => ?_
        rw [List.length_map, hr.len]
        repeat walk_at "s"
        refine ⟨fun q => absurd q (by simp; omega), fun _ => ?_⟩
        repeat walk_at "s"
        exact ⟨x, _, _, _, hx, .cons rfl (.cons rfl (.cons rfl (.cons rfl (.cons rfl (.cons rfl (.cons rfl (.cons rfl (.cons rfl (.cons rfl .nil))))))))), hs6, hI6, hL6, hok6, hlen6⟩
    · rintro g6 l6 ⟨x, rs, tA, tB, hx, hl6, hs6, hI6, hL6, hok6, hlen6⟩
      refine R_known hl6 ?_
      repeat walk_at "s"
      refine R_and2 ?_
      repeat walk_at "s"
      refine R_eqI ?_
      repeat walk_at "s"
      refine ⟨fun q => absurd q (by simp), fun _ => ?_⟩
      repeat walk_at "s"
      refine R_ofRC (law_shown hI6 (by omega) fun g7 ln2 as2 s7 hL7 _ => ?_)
      repeat walk_at "s"
      refine R_eqD (line_reads hL7) (line_reads (hL6.sub s7)) (line_shape fun r hr => (hok6 r hr).1) (line_shape fun r hr => (hok6 r hr).1) ?_
      repeat walk_at "s"
      rw [show PyData.eqv (.list (rs.map recData)) (.list (rs.map recData)) = true by simp [PyData.eqv, line_eqv]]
      exact h _ ((hgS.trans hs6).trans s7)

theorem pick63 (vs : List Value) : kms_pick vs none (some 63) = vs.take 63 := by
  unfold kms_pick kms_lo kms_hi
  simp only [List.drop_zero]
  rw [if_neg (by decide)]
  show vs.take (min 63 vs.length - 0) = _
  rw [Nat.sub_zero]
  rcases Nat.le_total 63 vs.length with h | h
  · rw [Nat.min_eq_left h]
  · rw [Nat.min_eq_right h, List.take_length, List.take_of_length_le h]
theorem ints_take : ∀ {vs : List Value} {ns : List Int}, IntsAre vs ns → ∀ k, IntsAre (vs.take k) (ns.take k)
  | _, _, .nil, k => by simp; exact .nil
  | _, _, .cons n t h, 0 => by simp; exact .nil
  | _, _, .cons n t h, k + 1 => by simp only [List.take_succ_cons]; exact .cons n t (ints_take h k)

theorem law_pen {W : Wd KF} {n : Nat} {L : Addr} {l : Lm} {g : Gh} {a : Addr} {vs : List Value} {ns : List Int} {Q : Value → Gh → Prop} (hl : LW g a vs) (hi : IntsAre vs ns) (hz : vs.length ≤ 1000000)
    (h : ∀ S' g' p cl, PG W p cl 0 S' g' → Q (.ref p) g') : RC W (n+2) L l g (.call (.ref 495) ⟨[.ref a], []⟩) Q := by
  refine RC_def (binds := [(Str.ofString "script", .ref a)]) (by k_is) (by k_is) (fun _ _ => BindsTo.of_eq rfl) rfl rfl rfl rfl rfl fun L' => ?_
  have hi63 := ints_take hi 63
  have hz63 : (vs.take 63).length ≤ 1000000 := by rw [List.length_take]; omega
  repeat walk_at "s"
  refine ⟨_, _, _, _, rfl, hl, hz, .none, .int _ _, fun D gD BD => ?_⟩
  rw [pick63]
  repeat walk_at "s"
  refine R_listOf ⟨_, up_same⟩ hz63 fun cl c gcl Bcl => ?_
  repeat walk_at "s"
  refine ⟨_, _, _, _, rfl, ?_, hz, .none, .int _ _, fun D2 gD2 BD2 => ?_⟩
  · obtain ⟨o, h1, h2⟩ := hl
    exact ⟨o, up_old gcl (up_old gD h1), h2⟩
  rw [pick63]
  repeat walk_at "s"
  refine R_sum ⟨_, up_same⟩ hi63 fun t1 => ?_
  repeat walk_at "s"
  refine R_mod (by decide) fun t2 => ?_
  repeat walk_at "s"
  rename_i p gp Bp
  refine h _ _ p cl ⟨⟨_, 0, 0, _, up_same, ⟨⟨_, _, _, _, rfl⟩, ⟨_, _, ⟨_, up_old gp (up_old gD2 up_same)⟩, hi63, by rw [List.length_take]; omega⟩, ?_, Bp, by omega, by omega, by omega, ?_, ?_⟩⟩, rfl⟩
  · exact ne_get (up_old gD2 up_same) gp
  · exact Int.fmod_nonneg_of_pos _ (by decide)
  · exact Int.fmod_lt_of_pos _ (by decide)

theorem R_it4 {W : Wd KF} {n : Nat} {env : Env} {l : Lm} {g : Gh} {value slice : Expr} {t : Addr} {a b c d k : Int} {ta tb tc td u : Tok} {Q : Value → Gh → Lm → Prop} (hl : TU g t [.int a ta, .int b tb, .int c tc, .int d td]) (h0 : 0 ≤ k) (h1 : k < 4)
    (hs : subscripted slice false (.ref t) (.int k u) = operate [.ref t, .int k u] (getItem (.ref t) (.int k u))) (h : ∀ m tm, Q (.int m tm) g l) : R W n env g l (subscriptTail value slice (.ref t) (.int k u)) Q := by
  rcases (show k = 0 ∨ k = 1 ∨ k = 2 ∨ k = 3 by omega) with rfl | rfl | rfl | rfl
  all_goals exact R_itemT hl (by decide) (by decide) rfl hs (h _ _)
theorem R_it7 {W : Wd KF} {n : Nat} {env : Env} {l : Lm} {g : Gh} {value slice : Expr} {t : Addr} {k : Int} {x1 x2 x3 x4 x5 x6 x7 u : Tok} {Q : Value → Gh → Lm → Prop} (hl : TU g t [.str (Str.ofString "") x1, .str (Str.ofString "") x2, .str (Str.ofString "") x3, .str (Str.ofString "") x4, .str (Str.ofString "zwj") x5, .str (Str.ofString "zwnj") x6, .str (Str.ofString "hidden") x7]) (h0 : 0 ≤ k) (h1 : k < 7)
    (hs : subscripted slice false (.ref t) (.int k u) = operate [.ref t, .int k u] (getItem (.ref t) (.int k u))) (h : ∀ m tm, (m = Str.ofString "" ∨ m = Str.ofString "zwj" ∨ m = Str.ofString "zwnj" ∨ m = Str.ofString "hidden") → Q (.str m tm) g l) : R W n env g l (subscriptTail value slice (.ref t) (.int k u)) Q := by
  rcases (show k = 0 ∨ k = 1 ∨ k = 2 ∨ k = 3 ∨ k = 4 ∨ k = 5 ∨ k = 6 by omega) with rfl | rfl | rfl | rfl | rfl | rfl | rfl
  all_goals exact R_itemT hl (by decide) (by decide) rfl hs (h _ _ (by first | exact .inl rfl | exact .inr (.inl rfl) | exact .inr (.inr (.inl rfl)) | exact .inr (.inr (.inr rfl))))

theorem law_row {W : Wd KF} {n : Nat} {L : Addr} {l : Lm} {S g : Gh} {p cl : Addr} {b : Int} {Q : Value → Gh → Prop} (hp : PG W p cl b S g) (hb : b ≤ 500)
    (h : ∀ S' g' t row ts cs bw, PG W p cl (b + 40) S' g' → Sub S S' → TU g' t [.ref row, .bool bw] → RowT S' row ts cs → cs.length ≤ 9 → (∀ c ∈ cs, (c.kind = Str.ofString "" ∨ c.kind = Str.ofString "zwj" ∨ c.kind = Str.ofString "zwnj" ∨ c.kind = Str.ofString "hidden") ∧ 1 ≤ c.glyph ∧ c.glyph ≤ 5) → Q (.ref t) g') : RC W (n+3) L l g (.call (.ref 509) ⟨[.ref p], []⟩) Q := by
  refine RC_def (binds := [(Str.ofString "pen", .ref p)]) (by k_is) (by k_is) (fun _ _ => BindsTo.of_eq rfl) rfl rfl rfl rfl rfl fun L' => ?_
  repeat walk_at "s"
  refine R_ofRC (drawP hp (by decide) (by decide) (by omega) fun k1 t1 g1 h10 h11 hp1 => ?_)
  repeat walk_at "s"
  refine R_eqI ?_
  repeat walk_at "s"
  refine ⟨_, _, _, _, rfl, ⟨_, up_same⟩, ?_⟩
  rename_i f gf Bf t20 q gq Bq
  obtain ⟨Sf, hp2⟩ := hp1.alloc (o := lstO [] 0) gf
  obtain ⟨Sq, hp3⟩ := hp2.alloc (o := tupO [Value.bool (k1 == 1), Value.ref f, Value.int 20 t20]) gq
  repeat walk_at "s"
  refine R_for (fun _ => rfl) ?_
  repeat walk_at "s"
  refine R_ofRC (drawP hp3 (by decide) (by decide) (by omega) fun k2 t2 g2 h20 h21 hp4 => ?_)
  repeat walk_at "s"
  refine R_range1 fun r u1 u2 u3 gr Br => ?_
  obtain ⟨Sr, hp5⟩ := hp4.alloc (o := rngO 0 k2 u1 u2 u3) gr
  refine ⟨_, _, _, Src.range (N := k2.toNat) up_same (by decide) (by decide) (by omega) (by omega) (by omega), fun b hb => hb.elim, fun i g' l' => ∃ (x : Int) (tx : Tok) (S' : Gh) (ts : List Addr) (cs : List Cel), LK [(Str.ofString "pen", .ref p), (Str.ofString "is_backward", .bool (k1 == 1)), (Str.ofString "found", .ref f), (Str.ofString "cluster", .int x tx)] l' ∧ PG W p cl (b + 2 + 3 * i) S' g' ∧ Sub S S' ∧ RowT S' f ts cs ∧ cs.length = i ∧ ∀ c ∈ cs, (c.kind = Str.ofString "" ∨ c.kind = Str.ofString "zwj" ∨ c.kind = Str.ofString "zwnj" ∨ c.kind = Str.ofString "hidden") ∧ 1 ≤ c.glyph ∧ c.glyph ≤ 5, ?_, fun i g' l' _ b o hb _ => hb.elim, ?_, ?_⟩
  · exact ⟨20, t20, _, [], [], .cons rfl (.cons rfl (.cons rfl (.cons rfl .nil))), hp5.wait (by omega), ((Sub.refl.up Sf).up Sq).up Sr, ⟨⟨_, up_old Sr (up_old Sq up_same)⟩, rfl, fun i t e => by simp at e⟩, rfl, fun c hc => by cases hc⟩
  · rintro i v g' l' hi ⟨tv, rfl⟩ ⟨x, tx, S', ts, cs, hl, hp6, hs6, hR, hn, hk⟩
    refine R_known hl ?_
    obtain ⟨kf, ef⟩ := hR.list
    have hz6 : (ts.map Value.ref).length ≤ 1000000 := by rw [List.length_map, hR.len]; omega
    repeat walk_at "s"
    rename_i qa gqa Bqa _
    have Sqa := (hp6.alloc (o := emptyD) gqa).1
    refine R_ofRC (drawP (hp6.alloc gqa).2 (by decide) (by decide) (by omega) fun k3 t3 g7 h30 h31 hp7 => ?_)
    have ef7 : g7 f = some _ := hp7.sub _ _ (up_old Sqa ef)
    repeat walk_at "s"
    refine R_it4 ⟨_, hp7.sub _ _ up_same⟩ h30 h31 rfl fun m tm => ?_
    repeat walk_at "s"
    refine R_mono (Q := fun v g' l' => ∃ s ts, v = .int s ts ∧ (s = 1 ∨ s = -1) ∧ g' = g7 ∧ LK [(Str.ofString "pen", .ref p), (Str.ofString "is_backward", .bool (k1 == 1)), (Str.ofString "found", .ref f), (Str.ofString "cluster", .int x tx)] l') ?_ ?_
    · walk_at "ife"
      repeat walk_at "s"
      refine ⟨fun q => ?_, fun q => ?_⟩
      · repeat walk_at "s"
        exact ⟨_, _, rfl, .inr rfl, rfl, .cons rfl (.cons rfl (.cons rfl (.cons rfl .nil)))⟩
      · repeat walk_at "s"
        exact ⟨_, _, rfl, .inl rfl, rfl, .cons rfl (.cons rfl (.cons rfl (.cons rfl .nil)))⟩
    · rintro _ _ l8 ⟨sg, tsg, rfl, hsg, rfl, hl8⟩
      refine R_known hl8 ?_
      refine R_mul (.of_right (by rcases hsg with rfl | rfl <;> decide)) fun t8 => ?_
      repeat walk_at "s"
      refine R_ofRC (drawP hp7 (by decide) (by decide) (by omega) fun k4 t4 g9 h40 h41 hp9 => ?_)
      repeat walk_at "s"
      rename_i qb gqb Bqb _
      have Sqb := (hp9.alloc (o := emptyD) gqb).1
      refine R_ofRC (drawP (hp9.alloc gqb).2 (by decide) (by decide) (by omega) fun k5 t5 g11 h50 h51 hp11 => ?_)
      have ef11 : g11 f = some (lstO (ts.map Value.ref) kf) := hp11.sub _ _ (up_old Sqb (up_old Sqa ef))
      repeat walk_at "s"
      refine R_it7 ⟨_, hp11.sub _ _ up_same⟩ h50 h51 rfl fun kd tk hkd => ?_
      repeat walk_at "s"
      rename_i qc gqc Bqc kc
      have Sqc := (hp11.alloc (o := emptyD) gqc).1
      have hqcf : qc ≠ f := Ne.symm (ne_get (up_old Sqb (up_old Sqa ef)) Sqc)
      refine ⟨x + m * sg, _, _, ts ++ [qc], cs ++ [⟨1 + k4, kd, x + m * sg⟩], .cons rfl (.cons rfl (.cons rfl (.cons rfl .nil))), ((hp11.alloc gqc).2.change (up_old Sqc (up_old Sqb (up_old Sqa ef)))).wait (by omega), ?_, ⟨⟨kc, ?_⟩, ?_, ?_⟩, ?_, ?_⟩
      · intro b o e
        rw [up_ne (ne_get e Sf)]
        exact up_old Sqc (up_old Sqb (up_old Sqa (hs6 b o e)))
      · rw [List.map_append]; exact up_same
      · rw [List.length_append, List.length_append, hR.len]; rfl
      · intro j t e
        by_cases hj : j < ts.length
        · rw [List.getElem?_append_left hj] at e
          obtain ⟨c, hc, u, w, z, hk⟩ := hR.at_ j t e
          refine ⟨c, by rw [List.getElem?_append_left (by rw [← hR.len]; exact hj)]; exact hc, u, w, z, ?_⟩
          have hne := tup_ne hk ef list_ne_tuple
          obtain ⟨kk, ek⟩ := hk
          exact ⟨kk, by rw [up_ne hne]; exact up_old Sqc (up_old Sqb (up_old Sqa ek))⟩
        · rw [List.getElem?_append_right (by omega)] at e
          have hjz : j - ts.length = 0 := by
            have := (List.getElem?_eq_some_iff.mp e).1
            simp at this
            omega
          rw [hjz] at e
          cases e
          exact ⟨⟨1 + k4, kd, x + m * sg⟩, by rw [List.getElem?_append_right (by rw [← hR.len]; omega), ← hR.len, hjz]; rfl, _, _, _, _, (up_ne hqcf).trans up_same⟩
      · rw [List.length_append, hn]; rfl
      · intro c hc
        rcases List.mem_append.mp hc with hc | hc
        · exact hk c hc
        · rw [List.mem_singleton.mp hc]
          exact ⟨hkd, by show 1 ≤ 1 + k4; omega, by show 1 + k4 ≤ 5; omega⟩
  · rintro g' l' ⟨x, tx, S', ts, cs, hl, hp6, hs6, hR, hn, hk⟩
    refine R_known hl ?_
    repeat walk_at "s"
    rename_i qz gqz Bqz
    exact h _ _ qz f ts cs _ ((hp6.alloc gqz).2.wait (by omega)) (hs6.up (hp6.alloc (o := emptyD) gqz).1) ⟨_, up_same⟩ (hR.sub (Sub.refl.up (hp6.alloc (o := emptyD) gqz).1)) (by omega) hk

theorem ints_len : ∀ {vs : List Value} {ns : List Int}, IntsAre vs ns → vs.length = ns.length
  | _, _, .nil => rfl
  | _, _, .cons n t h => congrArg (· + 1) (ints_len h)

theorem in0 {W : Wd KF} {h₁ : Heap} {m : Str → Option Value} {l : Lm} (F : Fr W.B W.B.objs.size h₁ m) (hm : ∀ x v, l.lookup x = some v → m x = some v) : In W (fun _ => none) (fun a => W.B.get? a) W.B.objs.size l h₁ where
  sub := F.keep
  fsub _ _ e := by cases e
  apart _ _ e := by cases e
  base _ _ e := e
  off := by
    cases e : W.B.get? W.B.objs.size with
    | none => rfl
    | some o => exact absurd (Heap.lt_size e) (Nat.lt_irrefl _)
  foff := rfl
  above := Nat.le_refl _
  ns := ⟨m, F.ns, hm⟩

theorem enterLaw {s : Shared} {w : World} {mg mb : Str → Option Value} {B : Heap} {p : Program} {loose : List Str} {mean : ExcName → Option Value} {name : Str} {scope : Scope} {fa : Addr} {cd : Value} {body : List Stmt} {ad : Addr} {vs : List Value} {ns : List Int}
    {m : Str → Option Value} {E : Value → Shared → Prop} {prog : Program} {P : Flow → Shared → Prop} (KX : (KF w.params).In B) (T : Top p loose mean mg mb B) (F : Fr B B.objs.size s.heap m) (hm : m (Str.ofString "script") = some (.ref ad))
    (hL : B.IsList ad vs.toArray) (hI : IntsAre vs ns) (hc : ¬ (63 : Int) < ns.length)
    (k : ∀ s' m', Fr B B.objs.size s'.heap m' → Same s s' → P (.ret (.bool true)) s')
    (h : ∀ (W : Wd KF) (g : Gh) (L : Addr), LW g ad vs → IntsAre vs ns → vs.length ≤ 1000000 → R W 15 (envOf name scope L fa cd) g [(Str.ofString "script", .ref ad)] (execs body (envOf name scope L fa cd)) (fun fl _ _ => fl = .ret (.bool true))) :
    wpAny (model prog w) (callerA.deeper (envOf name scope B.objs.size fa cd)) (execs body (envOf name scope B.objs.size fa cd)) P E s := by
  have hz : vs.length ≤ 1000000 := by rw [ints_len hI]; omega
  refine R.next (h { prog := prog, w := w, B := B, mg := mg, mb := mb, X := KX, Tg := T.g, Tb := T.b, nolimit := T.nolimit, bi := T.builtins } _ _ hL hI hz) ⟨rfl, Nat.le_of_ble_eq_true rfl, Nat.le_of_ble_eq_true rfl⟩ (in0 F fun x v e => ?_) fun fl s' g' l' i e q => ?_
  · rw [List.lookup_cons] at e
    split at e
    · rename_i q
      cases e
      rw [eq_of_beq q]
      exact hm
    · cases e
  · subst q
    obtain ⟨m', F', _⟩ := i.fr'
    exact k s' m' F' e

def b0 (i : Nat) : Int := if i = 0 then 42 else if i = 1 then 90 else 140
theorem lawHolds : PySem.Challenge.rw_nu0181_01.Holds := by
  refine holds_law lawSaid fun said => ?_
  refine holds_open (q := lawView) (loose := []) (Xt := topXt) (XP := XL lawView []) (Yf := kHk.obs) (Ya := kHk.val) (YP := kHk.says) (N := 8218) leftO kHk.of kHk.keeps (fun s e => xl_of s (Bool.and_eq_true_iff.mp e).1) XL.keeps (by rfl) (by rfl) (by rfl) (fun s e => recFacts_of (Bool.and_eq_true_iff.mp e).2) (by rfl) (by assumption) (by decide +kernel) ⟨rfl, rfl, rfl, rfl, rfl, by decide +kernel⟩ ?hw ?hc
  case hw => w_witness2
  k_go0
  (all_goals try k_fold)
  rename_i hg KX _ _ _ T _ _ _ _ _ _ _ _ _ ns _ _ _ _ _ _ _ ad vs _ hL _ _ _ hI _ hc _ _ _ h₁ F _
  refine enterLaw KX T F rfl hL hI hc (fun s' m' F' e => ?_) fun W g L hl hi hz => ?_
  · have hg' : s'.gens = #[] := by rw [e]; exact hg
    have ho' : s'.os = _ := congrArg Shared.os e
    exact goodW_bool F' hg' (raisesW_false (by wrow_none_raised)) (by wrow_post) ho'
  · repeat walk_at "s"
    refine R_ofRC (law_pen hl hi hz fun S0 g0 p cl hp0 => ?_)
    repeat walk_at "s"
    refine R_ofRC (drawP hp0 (by decide) (by decide) (by omega) fun k1 t1 g1 h10 h11 hp1 => ?_)
    repeat walk_at "s"
    refine R_eqI ?_
    repeat walk_at "s"
    refine R_ofRC (drawP hp1 (by decide) (by decide) (by omega) fun k2 t2 g2 h20 h21 hp2 => ?_)
    repeat walk_at "s"
    refine R_eqI ?_
    repeat walk_at "s"
    refine ⟨_, _, _, rfl, ⟨_, up_same⟩, ?_⟩
    rename_i q gq Bq
    obtain ⟨Sq, hp3⟩ := hp2.alloc (o := tupO [Value.bool (k1 == 1), Value.bool (k2 == 1)]) gq
    repeat walk_at "s"
    refine R_ofRC (law_row hp3 (by omega) fun S4 g4 t row ts cs bw hp4 hs4 ht hR hn hk => ?_)
    repeat walk_at "s"
    refine R_for (fun _ => rfl) ?_
    repeat walk_at "s"
    rename_i q2 gq2 Bq2
    obtain ⟨Sq2, hp5⟩ := hp4.alloc (o := tupO [Value.ref 521, Value.ref 526]) gq2
    refine ⟨_, _, _, Src.tuple ⟨_, up_same⟩, fun b hb => ⟨tupO [Value.ref 521, Value.ref 526], by rw [hb]; exact up_same⟩, fun i g' l' => ∃ S', LK [(Str.ofString "pen", .ref p), (Str.ofString "is_second", .bool (k1 == 1)), (Str.ofString "is_passing", .bool (k2 == 1)), (Str.ofString "row", .ref row), (Str.ofString "is_backward", .bool bw)] l' ∧ PG W p cl (b0 i) S' g' ∧ RowT S' row ts cs ∧ ∃ o, S' q2 = some o ∧ up g4 q2 (tupO [Value.ref 521, Value.ref 526]) q2 = some o, ?_, ?_, ?_, ?_⟩
    · exact ⟨_, .cons rfl (.cons rfl (.cons rfl (.cons rfl (.cons rfl .nil)))), hp5.wait (by decide), hR.sub (Sub.refl.up Sq2), _, up_same, up_same⟩
    · rintro i g' l' ⟨S', hl', hp', hR', o', e1, e2⟩ b o hb e
      rw [hb] at e ⊢
      rw [e2] at e
      cases e
      exact hp'.sub _ _ e1
    · rintro i v g' l' hi hv ⟨S', hl', hp', hR', o', e1, e2⟩
      refine R_known hl' ?_
      have hvv : (v = .ref 521 ∧ i = 0) ∨ (v = .ref 526 ∧ i = 1) := by
        rcases (show i = 0 ∨ i = 1 by simp at hi; omega) with rfl | rfl
        · exact .inl ⟨by simpa using hv.symm, rfl⟩
        · exact .inr ⟨by simpa using hv.symm, rfl⟩
      rcases hvv with ⟨rfl, rfl⟩ | ⟨rfl, rfl⟩
      · repeat walk_at "s"
        refine R_ofRC (law_glyph_table hp' (by decide) fun S6 g6 t6 tb pd mp hp6 hs6 ht6 hT hD => ?_)
        repeat walk_at "s"
        refine R_ofRC (law_right (hR'.sub (hs6.trans hp6.sub)) (by omega) hT hD hk fun g7 hs7 => ?_)
        repeat walk_at "s"
        refine ⟨fun q => absurd q (by decide), fun _ => ?_⟩
        repeat walk_at "s"
        obtain ⟨hp8, hs8⟩ := hp6.grow hs7
        exact ⟨_, .cons rfl (.cons rfl (.cons rfl (.cons rfl (.cons rfl .nil)))), hp8.wait (by decide), (hR'.sub hs6).sub hs8, o', hs8 _ _ (hs6 _ _ e1), e2⟩
      · repeat walk_at "s"
        refine R_ofRC (law_class_table hp' (by decide) fun S6 g6 t6 tb pd mp hp6 hs6 ht6 hT hD => ?_)
        repeat walk_at "s"
        refine R_ofRC (law_right (hR'.sub (hs6.trans hp6.sub)) (by omega) hT hD hk fun g7 hs7 => ?_)
        repeat walk_at "s"
        refine ⟨fun q => absurd q (by decide), fun _ => ?_⟩
        repeat walk_at "s"
        obtain ⟨hp8, hs8⟩ := hp6.grow hs7
        exact ⟨_, .cons rfl (.cons rfl (.cons rfl (.cons rfl (.cons rfl .nil)))), hp8.wait (by decide), (hR'.sub hs6).sub hs8, o', hs8 _ _ (hs6 _ _ e1), e2⟩
    · rintro g' l' ⟨S', hl', hp', hR', o', e1, e2⟩
      refine R_known hl' ?_
      repeat walk_at "s"
      exact rfl

end Mine

theorem PySem.Challenge.cw_nu0181_01_holds : PySem.Challenge.rw_nu0181_01.Holds := by
  exact Mine.lawHolds
