import PyProof.Rows.All
import Wide.All
import OpenK.AllK
import Wide.FinOn
import PyProof.Rows.CellsFrame
import PySem.Challenge.RW_pf0046_01
open PySem PySem.W PySem.Calls PyProof.Rows
set_option Elab.async false
set_option linter.unusedVariables false
noncomputable section
namespace Mine

/-! text ML1 -/
/-! values as trees -/
inductive Val where
  | int (i : Int)
  | bool (b : Bool)
  | none
  | list (l : List Val)
  | tup (l : List Val)

mutual
def Rep (h : Heap) (M : Addr → Prop) : Val → Value → Prop
  | .int i, w => ∃ t, w = Value.int i t
  | .bool b, w => w = Value.bool b
  | .none, w => w = Value.none
  | .list l, w => ∃ a ws, w = Value.ref a ∧ ¬ M a ∧ h.PlainList a (List.toArray ws) ∧ RepL h M l ws
  | .tup l, w => ∃ a ws, w = Value.ref a ∧ ¬ M a ∧ h.IsTuple a (List.toArray ws) ∧ RepL h M l ws
def RepL (h : Heap) (M : Addr → Prop) : List Val → List Value → Prop
  | [], ws => ws = []
  | v :: l, ws => ∃ w r, ws = w :: r ∧ Rep h M v w ∧ RepL h M l r
end

def Agree (M : Addr → Prop) (h h' : Heap) : Prop := ∀ a o, ¬ M a → h.get? a = some o → h'.get? a = some o

theorem isList_agree {h h' : Heap} {a : Addr} {its : Array Value} (x : h.PlainList a its) (e : ∀ o, h.get? a = some o → h'.get? a = some o) : h'.PlainList a its := by
  obtain ⟨n, ho⟩ := x
  exact ⟨n, e _ ho⟩
theorem isTuple_agree {h h' : Heap} {a : Addr} {its : Array Value} (x : h.IsTuple a its) (e : ∀ o, h.get? a = some o → h'.get? a = some o) : h'.IsTuple a its := by
  obtain ⟨o, ho, r⟩ := x
  exact ⟨o, e o ho, r⟩

mutual
theorem Rep.mono {h h' : Heap} {M M' : Addr → Prop} (ag : Agree M h h') (sub : ∀ a o, ¬ M a → h.get? a = some o → ¬ M' a) : ∀ {v : Val} {w : Value}, Rep h M v w → Rep h' M' v w
  | .int _, _, x => by simpa only [Rep] using x
  | .bool _, _, x => by simpa only [Rep] using x
  | .none, _, x => by simpa only [Rep] using x
  | .list l, _, x => by
    simp only [Rep] at x ⊢
    obtain ⟨a, ws, rfl, hm, hl, hr⟩ := x
    obtain ⟨n, ho⟩ := id hl
    exact ⟨a, ws, rfl, sub a _ hm ho, isList_agree hl fun o e => ag a o hm e, RepL.mono ag sub hr⟩
  | .tup l, _, x => by
    simp only [Rep] at x ⊢
    obtain ⟨a, ws, rfl, hm, hl, hr⟩ := x
    obtain ⟨o, ho, _⟩ := id hl
    exact ⟨a, ws, rfl, sub a o hm ho, isTuple_agree hl fun o e => ag a o hm e, RepL.mono ag sub hr⟩
theorem RepL.mono {h h' : Heap} {M M' : Addr → Prop} (ag : Agree M h h') (sub : ∀ a o, ¬ M a → h.get? a = some o → ¬ M' a) : ∀ {l : List Val} {ws : List Value}, RepL h M l ws → RepL h' M' l ws
  | [], _, x => by simpa only [RepL] using x
  | v :: l, _, x => by
    simp only [RepL] at x ⊢
    obtain ⟨w, r, rfl, h1, h2⟩ := x
    exact ⟨w, r, rfl, Rep.mono ag sub h1, RepL.mono ag sub h2⟩
end

theorem Rep.keep {h h' : Heap} {M : Addr → Prop} {v : Val} {w : Value} (k : ∀ b o, h.get? b = some o → h'.get? b = some o) (x : Rep h M v w) : Rep h' M v w :=
  x.mono (fun a o _ e => k a o e) fun _ _ m _ => m
theorem RepL.keep {h h' : Heap} {M : Addr → Prop} {l : List Val} {ws : List Value} (k : ∀ b o, h.get? b = some o → h'.get? b = some o) (x : RepL h M l ws) : RepL h' M l ws :=
  x.mono (fun a o _ e => k a o e) fun _ _ m _ => m

theorem RepL.length {h : Heap} {M : Addr → Prop} : ∀ {l : List Val} {ws : List Value}, RepL h M l ws → ws.length = l.length
  | [], _, x => by simp only [RepL] at x; subst x; rfl
  | v :: l, _, x => by
    simp only [RepL] at x
    obtain ⟨w, r, rfl, _, h2⟩ := x
    simp [RepL.length h2]
theorem RepL.nil {h : Heap} {M : Addr → Prop} : RepL h M [] [] := by simp only [RepL]
theorem RepL.cons {h : Heap} {M : Addr → Prop} {v : Val} {w : Value} {l : List Val} {ws : List Value} (a : Rep h M v w) (b : RepL h M l ws) : RepL h M (v :: l) (w :: ws) := by
  simp only [RepL]; exact ⟨w, ws, rfl, a, b⟩
theorem RepL.get {h : Heap} {M : Addr → Prop} : ∀ {l : List Val} {ws : List Value} {i : Nat} {v : Val}, RepL h M l ws → l[i]? = some v → ∃ w, ws[i]? = some w ∧ Rep h M v w
  | [], _, _, _, _, e => by simp at e
  | u :: l, _, 0, v, x, e => by
    simp only [RepL] at x
    obtain ⟨w, r, rfl, h1, _⟩ := x
    simp at e; subst e
    exact ⟨w, rfl, h1⟩
  | u :: l, _, i + 1, v, x, e => by
    simp only [RepL] at x
    obtain ⟨w, r, rfl, _, h2⟩ := x
    simp at e
    obtain ⟨w', a, b⟩ := RepL.get h2 e
    exact ⟨w', by simpa using a, b⟩
theorem RepL.getr {h : Heap} {M : Addr → Prop} {l : List Val} {ws : List Value} {i : Nat} {w : Value} (x : RepL h M l ws) (e : ws[i]? = some w) : ∃ v, l[i]? = some v ∧ Rep h M v w := by
  have hl := x.length
  have hi : i < l.length := by
    rw [← hl]
    exact (List.getElem?_eq_some_iff.mp e).1
  obtain ⟨w', a, b⟩ := x.get (List.getElem?_eq_getElem hi)
  rw [e] at a; cases a
  exact ⟨_, List.getElem?_eq_getElem hi, b⟩
theorem RepL.append {h : Heap} {M : Addr → Prop} : ∀ {l l' : List Val} {ws ws' : List Value}, RepL h M l ws → RepL h M l' ws' → RepL h M (l ++ l') (ws ++ ws')
  | [], _, _, _, x, y => by simp only [RepL] at x; subst x; exact y
  | v :: l, _, _, _, x, y => by
    simp only [RepL] at x
    obtain ⟨w, r, rfl, h1, h2⟩ := x
    exact RepL.cons h1 (RepL.append h2 y)
theorem RepL.take {h : Heap} {M : Addr → Prop} : ∀ {l : List Val} {ws : List Value} (n : Nat), RepL h M l ws → RepL h M (l.take n) (ws.take n)
  | _, _, 0, _ => by simp [RepL]
  | [], _, n + 1, x => by simp only [RepL] at x; subst x; simp [RepL]
  | v :: l, _, n + 1, x => by
    simp only [RepL] at x
    obtain ⟨w, r, rfl, h1, h2⟩ := x
    exact RepL.cons h1 (RepL.take n h2)
theorem RepL.set {h : Heap} {M : Addr → Prop} {v : Val} {w : Value} (q : Rep h M v w) : ∀ {l : List Val} {ws : List Value} (n : Nat), RepL h M l ws → RepL h M (l.set n v) (ws.set n w)
  | [], _, n, x => by simp only [RepL] at x; subst x; simp [RepL]
  | u :: l, _, 0, x => by
    simp only [RepL] at x
    obtain ⟨w', r, rfl, h1, h2⟩ := x
    exact RepL.cons q h2
  | u :: l, _, n + 1, x => by
    simp only [RepL] at x
    obtain ⟨w', r, rfl, h1, h2⟩ := x
    exact RepL.cons h1 (RepL.set q n h2)

/-! the world a call runs in -/
structure Cx where
  prog : Program
  w : World
  mg : Str → Option Value
  mb : Str → Option Value
  defs : Str → Option DefRec

def builtinNames : List (Str × Value) := [("len", .builtin "len"), ("max", .builtin "max"), ("abs", .builtin "abs"), ("sorted", .builtin "sorted"),
  ("list", .type "list"), ("range", .type "range"), ("enumerate", .type "enumerate"), ("zip", .type "zip"), ("int", .type "int")]

structure FnAt (C : Cx) (h : Heap) (d : DefRec) (a : Addr) : Prop where
  name : C.mg d.name = some (.ref a)
  obj : ∃ o pm cd doc, h.get? a = some o ∧ o.data = .func (docDef d.name d.params d.body d.scope pm cd doc) ∧ h.CodeRec cd d.name

structure TopOK (C : Cx) (h : Heap) : Prop where
  g : h.Ns mainGlobals C.mg
  b : h.Ns builtinsNs C.mb
  lim : h.NoLimit
  fn : ∀ x d, C.defs x = some d → d.name = x ∧ ∃ a, FnAt C h d a
  bi : ∀ p ∈ builtinNames, C.mg p.1 = none ∧ C.mb p.1 = some p.2

theorem FnAt.keeps {C : Cx} {h h' : Heap} {d : DefRec} {a : Addr} (x : FnAt C h d a) (k : ∀ b o, h.get? b = some o → h'.get? b = some o) : FnAt C h' d a :=
  ⟨x.name, by obtain ⟨o, pm, cd, doc, h1, h2, h3⟩ := x.obj; exact ⟨o, pm, cd, doc, k _ _ h1, h2, h3.keeps k⟩⟩
theorem TopOK.keeps {C : Cx} {h h' : Heap} (x : TopOK C h) (k : ∀ b o, h.get? b = some o → h'.get? b = some o) : TopOK C h' where
  g := x.g.keeps k
  b := x.b.keeps k
  lim := x.lim.keeps k
  fn := fun n d e => ⟨(x.fn n d e).1, by obtain ⟨a, q⟩ := (x.fn n d e).2; exact ⟨a, q.keeps k⟩⟩
  bi := x.bi

structure Room (A : Around) (n : Nat) : Prop where
  hd : A.handled = none
  dep : A.depth + n < recursionLimit
  un : A.units + 8 * n + 100 < cLine

theorem Room.deeper {A : Around} {n : Nat} (r : Room A (n + 1)) (env : Env) : Room (A.deeper env) n :=
  ⟨r.hd, by have := r.dep; show A.depth + 1 + n < _; omega, by have := r.un; show A.units + 3 + _ + _ < _; omega⟩

/-! locals -/
inductive Slot where
  | sh (v : Val)
  | own (l : List Val)
  | raw (w : Value)

abbrev Lc := List (Str × Slot)

def Holds (h : Heap) (env : Env) (x : Str) (w : Value) : Prop :=
  (env.kindOf x = some .local ∧ ∃ m, h.Ns env.locals m ∧ m x = some w) ∨
  ((env.kindOf x = some .cell ∨ env.kindOf x = some .free) ∧ (x == ("__classdict__" : Str)) = false ∧ ∃ c, env.cells.lookup x = some c ∧ h.IsCell c (some w))

def SlotOK (h : Heap) (M : Addr → Prop) (a : Addr) : Slot → Value → Prop
  | .sh v, w => Rep h M v w
  | .own l, w => w = .ref a ∧ M a ∧ ∃ ws, h.PlainList a (List.toArray ws) ∧ RepL h M l ws
  | .raw w', w => w = w'

structure Sat (C : Cx) (M : Addr → Prop) (ad : Str → Addr) (env : Env) (ρ : Lc) (h : Heap) : Prop where
  top : TopOK C h
  gl : env.globals = mainGlobals
  bi : env.builtins = builtinsNs
  kd : env.scope.kind = .function
  live : ∀ a, M a → ∃ o, h.get? a = some o
  vars : ∀ x sl, ρ.lookup x = some sl → ∃ w, Holds h env x w ∧ SlotOK h M (ad x) sl w

theorem Holds.keeps {h h' : Heap} {env : Env} {x : Str} {w : Value} (k : ∀ b o, h.get? b = some o → h'.get? b = some o) (q : Holds h env x w) : Holds h' env x w := by
  rcases q with ⟨a, m, b, c⟩ | ⟨a, a', c, b, d⟩
  · exact .inl ⟨a, m, b.keeps k, c⟩
  · exact .inr ⟨a, a', c, b, d.keeps k⟩
theorem SlotOK.keeps {h h' : Heap} {M : Addr → Prop} {a : Addr} {sl : Slot} {w : Value} (k : ∀ b o, h.get? b = some o → h'.get? b = some o) (q : SlotOK h M a sl w) : SlotOK h' M a sl w := by
  cases sl with
  | sh v => exact Rep.keep (v := v) k q
  | own l =>
    obtain ⟨a, b, ws, c, d⟩ := q
    exact ⟨a, b, ws, isList_agree c (k _), d.keep k⟩
  | raw w' => exact q
theorem Sat.keeps {C : Cx} {M : Addr → Prop} {ad : Str → Addr} {env : Env} {ρ : Lc} {h h' : Heap} (S : Sat C M ad env ρ h) (k : ∀ b o, h.get? b = some o → h'.get? b = some o) : Sat C M ad env ρ h' where
  top := S.top.keeps k
  gl := S.gl
  bi := S.bi
  kd := S.kd
  live := fun a m => by obtain ⟨o, e⟩ := S.live a m; exact ⟨o, k a o e⟩
  vars := fun x sl e => by
    obtain ⟨w, a, b⟩ := S.vars x sl e
    exact ⟨w, a.keeps k, b.keeps k⟩

/-! expressions -/
def Ev (C : Cx) (n : Nat) (sc : Scope) (ρ : Lc) (e : Expr) (o : Option Val) : Prop :=
  ∀ v, o = some v → ∀ (A : Around) (env : Env) (ad : Str → Addr) (M : Addr → Prop) (s : Shared) (Q E : Value → Shared → Prop),
    Room A n → env.scope = sc → Sat C M ad env ρ s.heap →
    (∀ w s', Keeps s s' → Rep s'.heap M v w → Q w s') → wpAny (model C.prog C.w) A (eval e env) Q E s

def EvL (C : Cx) (n : Nat) (sc : Scope) (ρ : Lc) (es : List Expr) (o : Option (List Val)) : Prop :=
  ∀ vs, o = some vs → ∀ (A : Around) (env : Env) (ad : Str → Addr) (M : Addr → Prop) (s : Shared) (pos : Pos) (Q : List Value → Shared → Prop) (E : Value → Shared → Prop),
    Room A n → env.scope = sc → Sat C M ad env ρ s.heap →
    (∀ ws s', Keeps s s' → RepL s'.heap M vs ws → Q ws s') → wpAny (model C.prog C.w) A (spliced (backTo pos (starEach es env))) Q E s

def Tst (C : Cx) (n : Nat) (sc : Scope) (ρ : Lc) (e : Expr) (o : Option Bool) : Prop :=
  ∀ b, o = some b → ∀ (A : Around) (env : Env) (ad : Str → Addr) (M : Addr → Prop) (s : Shared) (Q : Bool → Shared → Prop) (E : Value → Shared → Prop),
    Room A n → env.scope = sc → Sat C M ad env ρ s.heap →
    (∀ s', Keeps s s' → Q b s') → wpAny (model C.prog C.w) A (isTrue e env (eval e env)) Q E s

theorem keeps_refl (s : Shared) : Keeps s s := ⟨s.heap, s.toks, rfl, fun _ _ e => e⟩
theorem keeps_tok (s : Shared) (t : Nat) : Keeps s { s with toks := t } := ⟨s.heap, t, rfl, fun _ _ e => e⟩
theorem kh {s s' : Shared} (k : Keeps s s') : ∀ b o, s.heap.get? b = some o → s'.heap.get? b = some o := by
  obtain ⟨h, t, rfl, x⟩ := k; exact x
theorem kt {s s' s'' : Shared} (k : Keeps s s') (l : Keeps s' s'') : Keeps s s'' := by
  obtain ⟨h, t, rfl, x⟩ := k
  obtain ⟨h', t', rfl, y⟩ := l
  exact ⟨h', t', rfl, fun b o e => y b o (x b o e)⟩
theorem keeps_push (s : Shared) (o : Obj) (t : Nat) : Keeps s { s with heap := s.heap.push o, toks := t } := ⟨_, t, rfl, fun _ _ e => Heap.get?_push_of_some _ e⟩

theorem wpAny_holds {M : Model} {A : Around} {E : Value → Shared → Prop} {s : Shared} {env : Env} {x : Str} {w : Value} {Q : Value → Shared → Prop} (kd : env.scope.kind = .function) (q : Holds s.heap env x w) (h : Q w s) : wpAny M A (loadName env x) Q E s := by
  rcases q with ⟨a, m, b, c⟩ | ⟨a, a', c, b, d⟩
  · exact wpAny_loadName_local kd a b c h
  · rcases a with a | a
    · exact wpAny_loadName_cell kd a b d h
    · exact wpAny_loadName_free kd a b d h a'

theorem Ev.var {C : Cx} {n : Nat} {sc : Scope} {ρ : Lc} {x : Str} {pos : Pos} {v : Val} (h : ρ.lookup x = some (.sh v)) (hd : (x == ("__debug__" : Str)) = false := by decide) : Ev C n sc ρ (.Name x pos) (some v) := by
  intro v' e A env ad M s Q E r hs S hQ
  cases e
  obtain ⟨w, a, b⟩ := S.vars x _ h
  exact wpAny_Name (wpAny_holds S.kd a (hQ w s (keeps_refl s) b)) hd

theorem Ev.intC {C : Cx} {n : Nat} {sc : Scope} {ρ : Lc} {i : Int} {k : Nat} {pos : Pos} : Ev C n sc ρ (.Constant (.int i) k pos) (some (.int i)) := by
  intro v' e A env ad M s Q E r hs S hQ
  cases e
  exact wpAny_Constant_int (hQ _ _ (keeps_tok s _) (by simp only [Rep]; exact ⟨_, rfl⟩))
theorem Ev.noneC {C : Cx} {n : Nat} {sc : Scope} {ρ : Lc} {k : Nat} {pos : Pos} : Ev C n sc ρ (.Constant .none k pos) (some .none) := by
  intro v' e A env ad M s Q E r hs S hQ
  cases e
  exact wpAny_pure (hQ _ _ (keeps_refl s) (by simp only [Rep]))
theorem Ev.boolc {C : Cx} {n : Nat} {sc : Scope} {ρ : Lc} {b : Bool} {k : Nat} {pos : Pos} : Ev C n sc ρ (.Constant (.bool b) k pos) (some (.bool b)) := by
  intro v' e A env ad M s Q E r hs S hQ
  cases e
  exact wpAny_pure (hQ _ _ (keeps_refl s) (by simp only [Rep]))

/-! text ML2 -/
theorem obind {α β : Type} {o : Option α} {f : α → Option β} {b : β} (h : o.bind f = some b) : ∃ a, o = some a ∧ f a = some b := by
  cases o with
  | none => cases h
  | some a => exact ⟨a, rfl, h⟩

/-! operators -/
def BinOK (op : Operator) (f : Val → Val → Option Val) : Prop :=
  ∀ x y v, f x y = some v → ∀ (prog : Program) (w : World) (A : Around) (n : Nat) (M : Addr → Prop) (s : Shared) (wx wy : Value) (Q E : Value → Shared → Prop),
    Room A n → (∀ a, M a → ∃ o, s.heap.get? a = some o) → Rep s.heap M x wx → Rep s.heap M y wy →
    (∀ w' s', Keeps s s' → Rep s'.heap M v w' → Q w' s') → wpAny (model prog w) A (binaryOp op wx wy) Q E s

theorem rep_int {h : Heap} {M : Addr → Prop} {i : Int} {t : Tok} : Rep h M (.int i) (.int i t) := by simp only [Rep]; exact ⟨t, rfl⟩
theorem rep_bool {h : Heap} {M : Addr → Prop} {b : Bool} : Rep h M (.bool b) (.bool b) := by simp only [Rep]
theorem rep_none {h : Heap} {M : Addr → Prop} : Rep h M .none .none := by simp only [Rep]

theorem Ev.bin {C : Cx} {n : Nat} {sc : Scope} {ρ : Lc} {op : Operator} {f : Val → Val → Option Val} {a b : Expr} {pos : Pos} {oa ob : Option Val}
    (hf : BinOK op f) (ha : Ev C n sc ρ a oa) (hb : Ev C n sc ρ b ob) : Ev C n sc ρ (.BinOp a op b pos) (oa.bind fun x => ob.bind fun y => f x y) := by
  intro v e A env ad M s Q E r hs S hQ
  obtain ⟨x, hx, e⟩ := obind e
  obtain ⟨y, hy, e⟩ := obind e
  refine wpAny_BinOp (ha x hx A env ad M s _ E r hs S fun wx s1 k1 rx => ?_)
  refine hb y hy A env ad M s1 _ E r hs (S.keeps (kh k1)) fun wy s2 k2 ry => ?_
  have S2 := (S.keeps (kh k1)).keeps (kh k2)
  exact hf x y v e _ _ A n M s2 wx wy Q E r S2.live (rx.keep (kh k2)) ry fun w' s3 k3 q => hQ w' s3 (kt (kt k1 k2) k3) q

def addO : Val → Val → Option Val
  | .int a, .int b => some (.int (a + b))
  | .list a, .list b => if Nat.ble (a.length + b.length) 16777216 then some (.list (a ++ b)) else none
  | _, _ => none
def subO : Val → Val → Option Val
  | .int a, .int b => some (.int (a - b))
  | _, _ => none
def mulO : Val → Val → Option Val
  | .int a, .int b => if Nat.blt a.natAbs 18446744073709551616 then some (.int (a * b)) else none
  | _, _ => none
def divO : Val → Val → Option Val
  | .int a, .int b => if b = 0 then none else if Nat.blt b.natAbs 1073741824 then some (.int (a.fdiv b)) else none
  | _, _ => none
def modO : Val → Val → Option Val
  | .int a, .int b => if b = 0 then none else some (.int (a.fmod b))
  | _, _ => none
def powO : Val → Val → Option Val
  | .int a, .int b => match b with
    | .ofNat k => if Nat.blt a.natAbs 18446744073709551616 && Nat.ble k 1000000 then some (.int (a ^ k)) else none
    | _ => none
  | _, _ => none

theorem blt_lt {a b : Nat} (h : Nat.blt a b = true) : a < b := Nat.le_of_ble_eq_true h

theorem fresh_not {M : Addr → Prop} {h : Heap} (live : ∀ a, M a → ∃ o, h.get? a = some o) {a : Addr} (e : h.objs.size ≤ a) : ¬ M a := fun m => by
  obtain ⟨o, q⟩ := live a m
  exact absurd (Heap.lt_size q) (Nat.not_lt.mpr e)

theorem isList_push (h : Heap) (its : Array Value) : (h.push { cls := .type "list", data := .seq its }).PlainList h.objs.size its := ⟨0, Heap.get?_push_size _ rfl⟩
theorem isTuple_push (h : Heap) (its : Array Value) : (h.push { cls := .type "tuple", data := .seq its }).IsTuple h.objs.size its := ⟨_, Heap.get?_push_size _ rfl, rfl, 0, rfl⟩

theorem bin_add : BinOK .Add addO := by
  intro x y v e prog w A n M s wx wy Q E r live rx ry hQ
  unfold addO at e
  split at e
  · cases e
    simp only [Rep] at rx ry
    obtain ⟨t, rfl⟩ := rx
    obtain ⟨u, rfl⟩ := ry
    exact PyProof.Rows.add_int (hQ _ _ (keeps_tok s _) rep_int)
  · rename_i la lb
    split at e
    · rename_i hsz
      cases e
      simp only [Rep] at rx ry
      obtain ⟨a, ws, rfl, hma, hla, hra⟩ := rx
      obtain ⟨b, us, rfl, hmb, hlb, hrb⟩ := ry
      have hz := Nat.le_of_ble_eq_true hsz
      have l1 := hra.length
      have l2 := hrb.length
      obtain ⟨na, ha⟩ := id hla
      obtain ⟨nb, hb⟩ := id hlb
      refine concat_meets ⟨_, ha, rfl⟩ ⟨_, hb, rfl⟩ noFill_list_add seq_list_add PySem.F.slot_list_add PySem.F.entry_list_add (PySem.F.args_list_add_2 _ _)
        (list_addW a b ws.toArray us.toArray na nb none none #[] #[] (by rw [sizeLine_eq, List.size_toArray, List.size_toArray]; omega)) ⟨ha, hb, ?_⟩
      refine hQ _ _ (keeps_push s _ _) ?_
      simp only [Rep]
      refine ⟨_, ws ++ us, rfl, fresh_not live (Nat.le_refl _), ?_, (hra.keep fun _ _ e => Heap.get?_push_of_some _ e).append (hrb.keep fun _ _ e => Heap.get?_push_of_some _ e)⟩
      have := isList_push s.heap (ws.toArray ++ us.toArray)
      simpa using this
    · cases e
  · cases e

theorem bin_sub : BinOK .Sub subO := by
  intro x y v e prog w A n M s wx wy Q E r live rx ry hQ
  unfold subO at e
  split at e
  · cases e
    simp only [Rep] at rx ry
    obtain ⟨t, rfl⟩ := rx
    obtain ⟨u, rfl⟩ := ry
    exact PyProof.Rows.sub_int (hQ _ _ (keeps_tok s _) rep_int)
  · cases e

theorem bits_small {a : Int} (h : a.natAbs < 18446744073709551616) : Builtin.Int.intBits a ≤ 64 := intBits_le (by simpa using h)

theorem bin_mul : BinOK .Mult mulO := by
  intro x y v e prog w A n M s wx wy Q E r live rx ry hQ
  unfold mulO at e
  split at e
  · split at e
    · rename_i hz
      cases e
      simp only [Rep] at rx ry
      obtain ⟨t, rfl⟩ := rx
      obtain ⟨u, rfl⟩ := ry
      exact PyProof.Rows.mul_int (hQ _ _ (keeps_tok s _) rep_int) (IntMulOk.of_left (bits_small (blt_lt hz)))
    · cases e
  · cases e

theorem bin_div : BinOK .FloorDiv divO := by
  intro x y v e prog w A n M s wx wy Q E r live rx ry hQ
  unfold divO at e
  split at e
  · split at e
    · cases e
    · rename_i hb
      split at e
      · rename_i hz
        cases e
        simp only [Rep] at rx ry
        obtain ⟨t, rfl⟩ := rx
        obtain ⟨u, rfl⟩ := ry
        exact PyProof.Rows.floordiv_int hb (hQ _ _ (keeps_tok s _) rep_int) (.inl (PyProof.noPylong_small (blt_lt hz)))
      · cases e
  · cases e

theorem bin_mod : BinOK .Mod modO := by
  intro x y v e prog w A n M s wx wy Q E r live rx ry hQ
  unfold modO at e
  split at e
  · split at e
    · cases e
    · rename_i hb
      cases e
      simp only [Rep] at rx ry
      obtain ⟨t, rfl⟩ := rx
      obtain ⟨u, rfl⟩ := ry
      exact PyProof.Rows.mod_int' hb (hQ _ _ (keeps_tok s _) rep_int)
  · cases e

theorem bin_pow : BinOK .Pow powO := by
  intro x y v e prog w A n M s wx wy Q E r live rx ry hQ
  unfold powO at e
  split at e
  · split at e
    · rename_i k
      split at e
      · rename_i hz
        cases e
        simp only [Bool.and_eq_true] at hz
        have h1 := blt_lt hz.1
        have h2 := Nat.le_of_ble_eq_true hz.2
        simp only [Rep] at rx ry
        obtain ⟨t, rfl⟩ := rx
        obtain ⟨u, rfl⟩ := ry
        exact PyProof.Rows.pow_int_small (by exact Int.natCast_nonneg k) (by show (k : Int) ≤ 1000000; omega) (by simpa using h1) (hQ _ _ (keeps_tok s _) rep_int)
      · cases e
    · cases e
  · cases e

/-! unary minus -/
def negO : Val → Option Val
  | .int a => some (.int (-a))
  | _ => none
theorem Ev.neg {C : Cx} {n : Nat} {sc : Scope} {ρ : Lc} {a : Expr} {pos : Pos} {oa : Option Val} (ha : Ev C n sc ρ a oa) : Ev C n sc ρ (.UnaryOp .USub a pos) (oa.bind negO) := by
  intro v e A env ad M s Q E r hs S hQ
  obtain ⟨x, hx, e⟩ := obind e
  refine UnaryOp_ (ha x hx A env ad M s _ E r hs S fun wx s1 k1 rx => ?_)
  unfold negO at e
  split at e
  · cases e
    simp only [Rep] at rx
    obtain ⟨t, rfl⟩ := rx
    exact PyProof.Rows.neg_int (hQ _ _ (kt k1 (keeps_tok s1 _)) rep_int)
  · cases e

/-! comparisons -/
mutual
def toPy : Val → PyData
  | .int i => .int i
  | .bool b => .bool b
  | .none => .none
  | .list l => .list (toPys l)
  | .tup l => .tuple (toPys l)
def toPys : List Val → List PyData
  | [] => []
  | v :: l => toPy v :: toPys l
end
mutual
theorem Rep.reads {h : Heap} {M : Addr → Prop} : ∀ {v : Val} {w : Value}, Rep h M v w → ∃ as, Reads h w (toPy v) as
  | .int i, _, x => by simp only [Rep] at x; obtain ⟨t, rfl⟩ := x; exact ⟨_, Reads.int i t⟩
  | .bool b, _, x => by simp only [Rep] at x; subst x; exact ⟨_, Reads.bool b⟩
  | .none, _, x => by simp only [Rep] at x; subst x; exact ⟨_, Reads.none⟩
  | .list l, _, x => by
    simp only [Rep] at x
    obtain ⟨a, ws, rfl, _, ⟨k, ho⟩, hr⟩ := x
    obtain ⟨as, q⟩ := RepL.reads hr
    rw [toPy]
    exact ⟨_, Reads.list ho rfl rfl (by simpa using q)⟩
  | .tup l, _, x => by
    simp only [Rep] at x
    obtain ⟨a, ws, rfl, _, ⟨o, ho, hc, k, hd⟩, hr⟩ := x
    obtain ⟨as, q⟩ := RepL.reads hr
    rw [toPy]
    exact ⟨_, Reads.tuple ho hc hd (by simpa using q)⟩
theorem RepL.reads {h : Heap} {M : Addr → Prop} : ∀ {l : List Val} {ws : List Value}, RepL h M l ws → ∃ as, ReadsAll h ws (toPys l) as
  | [], _, x => by simp only [RepL] at x; subst x; exact ⟨_, ReadsAll.nil⟩
  | v :: l, _, x => by
    simp only [RepL] at x
    obtain ⟨w, r, rfl, h1, h2⟩ := x
    obtain ⟨as, q1⟩ := Rep.reads h1
    obtain ⟨bs, q2⟩ := RepL.reads h2
    rw [toPys]
    exact ⟨_, ReadsAll.cons q1 q2⟩
end

mutual
def eqV : Val → Val → Bool
  | .int a, .int b => decide (a = b)
  | .none, .none => true
  | .list a, .list b => eqVs a b
  | .tup a, .tup b => eqVs a b
  | _, _ => false
def eqVs : List Val → List Val → Bool
  | [], [] => true
  | x :: a, y :: b => eqV x y && eqVs a b
  | _, _ => false
end
mutual
def okD : Nat → Val → Bool
  | _, .int _ => true
  | _, .none => true
  | _, .bool _ => false
  | 0, _ => false
  | n + 1, .list l => okDs n l
  | n + 1, .tup l => okDs n l
def okDs : Nat → List Val → Bool
  | _, [] => true
  | n, v :: l => okD n v && okDs n l
end

mutual
theorem okD_lay : ∀ (n : Nat) (v : Val), okD n v = true → (toPy v).canLay0 = true ∧ (toPy v).depth ≤ n
  | _, .int _, _ => by simp [toPy, PyData.canLay0, PyData.depth]
  | _, .none, _ => by simp [toPy, PyData.canLay0, PyData.depth]
  | _, .bool _, h => by simp [okD] at h
  | 0, .list _, h => by simp [okD] at h
  | 0, .tup _, h => by simp [okD] at h
  | n + 1, .list l, h => by
    have q := okDs_lay n l (by simpa [okD] using h)
    have q2 := q.2
    simp only [toPy, PyData.canLay0, PyData.depth, q.1, true_and]
    omega
  | n + 1, .tup l, h => by
    have q := okDs_lay n l (by simpa [okD] using h)
    have q2 := q.2
    simp only [toPy, PyData.canLay0, PyData.depth, q.1, true_and]
    omega
theorem okDs_lay : ∀ (n : Nat) (l : List Val), okDs n l = true → PyData.canLayAll0 (toPys l) = true ∧ PyData.depthAll (toPys l) ≤ n
  | _, [], _ => by simp [toPys, PyData.canLayAll0, PyData.depthAll]
  | n, v :: l, h => by
    simp only [okDs, Bool.and_eq_true] at h
    have q1 := okD_lay n v h.1
    have q2 := okDs_lay n l h.2
    have a1 := q1.2
    have a2 := q2.2
    simp only [toPys, PyData.canLayAll0, PyData.depthAll, q1.1, q2.1, Bool.and_self, true_and]
    omega
end
theorem okD_shaped {n : Nat} {v : Val} (h : okD n v = true) (hn : n ≤ 64) : SeqAt.shaped (toPy v) = true := by
  have q := okD_lay n v h
  unfold SeqAt.shaped
  rw [q.1, Bool.true_and]
  exact decide_eq_true (Nat.le_trans q.2 hn)

mutual
theorem eqV_py : ∀ (n k : Nat) (x y : Val), okD n x = true → okD k y = true → PyData.eqv (toPy x) (toPy y) = eqV x y
  | n, k, x, y, hx, hy => by
    cases x with
    | bool b => cases n <;> simp [okD] at hx
    | int i =>
      cases y with
      | bool b => cases k <;> simp [okD] at hy
      | int j => simp only [toPy, PyData.eqv, eqV]; by_cases h : i = j <;> simp [h]
      | none => simp [toPy, PyData.eqv, eqV]
      | list l => simp [toPy, PyData.eqv, eqV]
      | tup l => simp [toPy, PyData.eqv, eqV]
    | none =>
      cases y with
      | bool b => cases k <;> simp [okD] at hy
      | int j => simp [toPy, PyData.eqv, eqV]
      | none => simp [toPy, PyData.eqv, eqV]
      | list l => simp [toPy, PyData.eqv, eqV]
      | tup l => simp [toPy, PyData.eqv, eqV]
    | list a =>
      cases n with
      | zero => simp [okD] at hx
      | succ n =>
        cases y with
        | bool b => cases k <;> simp [okD] at hy
        | int j => simp [toPy, PyData.eqv, eqV]
        | none => simp [toPy, PyData.eqv, eqV]
        | list b =>
          cases k with
          | zero => simp [okD] at hy
          | succ k => simp only [toPy, PyData.eqv, eqV]; exact eqVs_py n k a b (by simpa [okD] using hx) (by simpa [okD] using hy)
        | tup b => simp [toPy, PyData.eqv, eqV]
    | tup a =>
      cases n with
      | zero => simp [okD] at hx
      | succ n =>
        cases y with
        | bool b => cases k <;> simp [okD] at hy
        | int j => simp [toPy, PyData.eqv, eqV]
        | none => simp [toPy, PyData.eqv, eqV]
        | list b => simp [toPy, PyData.eqv, eqV]
        | tup b =>
          cases k with
          | zero => simp [okD] at hy
          | succ k => simp only [toPy, PyData.eqv, eqV]; exact eqVs_py n k a b (by simpa [okD] using hx) (by simpa [okD] using hy)
theorem eqVs_py : ∀ (n k : Nat) (a b : List Val), okDs n a = true → okDs k b = true → PyData.eqvAll (toPys a) (toPys b) = eqVs a b
  | _, _, [], [], _, _ => by simp [toPys, PyData.eqvAll, eqVs]
  | _, _, [], _ :: _, _, _ => by simp [toPys, PyData.eqvAll, eqVs]
  | _, _, _ :: _, [], _, _ => by simp [toPys, PyData.eqvAll, eqVs]
  | n, k, x :: a, y :: b, hx, hy => by
    simp only [okDs, Bool.and_eq_true] at hx hy
    simp only [toPys, PyData.eqvAll, eqVs]
    rw [eqV_py n k x y hx.1 hy.1, eqVs_py n k a b hx.2 hy.2]
end

def CmpOK (op : CmpOp) (f : Val → Val → Option Bool) : Prop :=
  ∀ x y b, f x y = some b → ∀ (prog : Program) (w : World) (A : Around) (n : Nat) (M : Addr → Prop) (s : Shared) (wx wy : Value) (Q E : Value → Shared → Prop),
    Room A n → Rep s.heap M x wx → Rep s.heap M y wy → Q (.bool b) s → wpAny (model prog w) A (compareOp op wx wy) Q E s

def eqO : Val → Val → Option Bool
  | .int a, .int b => some (decide (a = b))
  | .bool a, .bool b => some (a == b)
  | x, y => if okD 8 x && okD 8 y then some (eqV x y) else none
def neO : Val → Val → Option Bool
  | .int a, .int b => some (!decide (a = b))
  | .bool a, .bool b => some (a != b)
  | x, y => if okD 8 x && okD 8 y then some (!eqV x y) else none
def ltO : Val → Val → Option Bool
  | .int a, .int b => some (decide (a < b))
  | _, _ => none
def leO : Val → Val → Option Bool
  | .int a, .int b => some (decide (a ≤ b))
  | _, _ => none
def gtO : Val → Val → Option Bool
  | .int a, .int b => some (decide (b < a))
  | _, _ => none
def geO : Val → Val → Option Bool
  | .int a, .int b => some (decide (b ≤ a))
  | _, _ => none
def anyEq (x : Val) : List Val → Bool
  | [] => false
  | y :: l => if eqV y x then true else anyEq x l
def inO : Val → Val → Option Bool
  | x, .list l => if okD 8 x && okDs 8 l then some (anyEq x l) else none
  | _, _ => none

theorem Room.un64 {A : Around} {n : Nat} (r : Room A n) : A.units + 65 < cLine := by have := r.un; omega

theorem cmp_eq : CmpOK .Eq eqO := by
  intro x y b e prog w A n M s wx wy Q E r rx ry hQ
  unfold eqO at e
  split at e
  · cases e
    simp only [Rep] at rx ry
    obtain ⟨t, rfl⟩ := rx
    obtain ⟨u, rfl⟩ := ry
    rename_i a b
    refine PyProof.Rows.eq_int ?_
    have : (a == b) = decide (a = b) := rfl
    rw [this]; exact hQ
  · cases e
    simp only [Rep] at rx ry
    subst rx ry
    exact PyProof.Rows.eq_bool hQ
  · split at e
    · rename_i h
      cases e
      simp only [Bool.and_eq_true] at h
      obtain ⟨as, ra⟩ := rx.reads
      obtain ⟨bs, rb⟩ := ry.reads
      refine eq_dataH ra rb (okD_shaped h.1 (by decide)) (okD_shaped h.2 (by decide)) (by have := r.un64; omega) ?_
      rw [eqV_py 8 8 _ _ h.1 h.2]; exact hQ
    · cases e
theorem cmp_ne : CmpOK .NotEq neO := by
  intro x y b e prog w A n M s wx wy Q E r rx ry hQ
  unfold neO at e
  split at e
  · cases e
    simp only [Rep] at rx ry
    obtain ⟨t, rfl⟩ := rx
    obtain ⟨u, rfl⟩ := ry
    rename_i a b
    refine PyProof.Rows.ne_int ?_
    have : (a != b) = !decide (a = b) := rfl
    rw [this]; exact hQ
  · cases e
    simp only [Rep] at rx ry
    subst rx ry
    exact PyProof.Rows.ne_bool hQ
  · split at e
    · rename_i h
      cases e
      simp only [Bool.and_eq_true] at h
      obtain ⟨as, ra⟩ := rx.reads
      obtain ⟨bs, rb⟩ := ry.reads
      refine ne_dataH ra rb (okD_shaped h.1 (by decide)) (okD_shaped h.2 (by decide)) (by have := r.un64; omega) ?_
      rw [eqV_py 8 8 _ _ h.1 h.2]; exact hQ
    · cases e
theorem cmp_lt : CmpOK .Lt ltO := by
  intro x y b e prog w A n M s wx wy Q E r rx ry hQ
  unfold ltO at e
  split at e
  · cases e
    simp only [Rep] at rx ry
    obtain ⟨t, rfl⟩ := rx
    obtain ⟨u, rfl⟩ := ry
    exact PyProof.Rows.lt_int hQ
  · cases e
theorem cmp_le : CmpOK .LtE leO := by
  intro x y b e prog w A n M s wx wy Q E r rx ry hQ
  unfold leO at e
  split at e
  · cases e
    simp only [Rep] at rx ry
    obtain ⟨t, rfl⟩ := rx
    obtain ⟨u, rfl⟩ := ry
    exact PyProof.Rows.le_int hQ
  · cases e
theorem cmp_gt : CmpOK .Gt gtO := by
  intro x y b e prog w A n M s wx wy Q E r rx ry hQ
  unfold gtO at e
  split at e
  · cases e
    simp only [Rep] at rx ry
    obtain ⟨t, rfl⟩ := rx
    obtain ⟨u, rfl⟩ := ry
    exact PyProof.Rows.gt_int hQ
  · cases e
theorem cmp_ge : CmpOK .GtE geO := by
  intro x y b e prog w A n M s wx wy Q E r rx ry hQ
  unfold geO at e
  split at e
  · cases e
    simp only [Rep] at rx ry
    obtain ⟨t, rfl⟩ := rx
    obtain ⟨u, rfl⟩ := ry
    exact PyProof.Rows.ge_int hQ
  · cases e

theorem anyEq_py (x : Val) (hx : okD 8 x = true) : ∀ l : List Val, okDs 8 l = true → ((toPys l).any fun y => PyData.eqv y (toPy x)) = anyEq x l
  | [], _ => by simp [toPys, anyEq]
  | y :: l, h => by
    simp only [okDs, Bool.and_eq_true] at h
    simp only [toPys, List.any_cons, anyEq]
    rw [eqV_py 8 8 y x h.1 hx, anyEq_py x hx l h.2]
    cases eqV y x <;> rfl
theorem cmp_in : CmpOK .In inO := by
  intro x y b e prog w A n M s wx wy Q E r rx ry hQ
  unfold inO at e
  split at e
  · rename_i l
    split at e
    · rename_i h
      cases e
      simp only [Bool.and_eq_true] at h
      obtain ⟨bs, rb⟩ := rx.reads
      obtain ⟨as, ra⟩ := ry.reads
      rw [toPy] at ra
      have h1 := okD_lay 8 x h.1
      have h2 := okDs_lay 8 l h.2
      refine SeqAt.in_list_reads ra rb h2.1 h1.1 ?_ (by rw [anyEq_py x h.1 l h.2]; exact hQ)
      have := Nat.min_le_right (PyData.depthAll (toPys l)) (toPy x).depth
      have := r.un
      have := h1.2
      omega
    · cases e
  · cases e

theorem Ev.cmp {C : Cx} {n : Nat} {sc : Scope} {ρ : Lc} {op : CmpOp} {f : Val → Val → Option Bool} {a b : Expr} {pos : Pos} {oa ob : Option Val}
    (hf : CmpOK op f) (ha : Ev C n sc ρ a oa) (hb : Ev C n sc ρ b ob) (hm : behindInMarks op b = false := by rfl) : Ev C n sc ρ (.Compare a [op] [b] pos) (oa.bind fun x => ob.bind fun y => (f x y).bind fun c => some (.bool c)) := by
  intro v e A env ad M s Q E r hs S hQ
  obtain ⟨x, hx, e⟩ := obind e
  obtain ⟨y, hy, e⟩ := obind e
  obtain ⟨c, hc, e⟩ := obind e
  cases e
  refine wpAny_Compare1 (ha x hx A env ad M s _ E r hs S fun wx s1 k1 rx => ?_) hm
  refine hb y hy A env ad M s1 _ E r hs (S.keeps (kh k1)) fun wy s2 k2 ry => ?_
  exact hf x y c hc _ _ A n M s2 wx wy Q E r (rx.keep (kh k2)) ry (hQ _ s2 (kt k1 k2) rep_bool)

theorem Tst.cmp {C : Cx} {n : Nat} {sc : Scope} {ρ : Lc} {op : CmpOp} {f : Val → Val → Option Bool} {a b : Expr} {pos : Pos} {oa ob : Option Val}
    (hf : CmpOK op f) (ha : Ev C n sc ρ a oa) (hb : Ev C n sc ρ b ob) (hm : behindInMarks op b = false := by rfl) : Tst C n sc ρ (.Compare a [op] [b] pos) (oa.bind fun x => ob.bind fun y => f x y) := by
  intro c e A env ad M s Q E r hs S hQ
  obtain ⟨x, hx, e⟩ := obind e
  obtain ⟨y, hy, e⟩ := obind e
  refine wpAny_isTrue_Compare1 (ha x hx A env ad M s _ E r hs S fun wx s1 k1 rx => ?_) hm
  refine hb y hy A env ad M s1 _ E r hs (S.keeps (kh k1)) fun wy s2 k2 ry => ?_
  exact hf x y c e _ _ A n M s2 wx wy _ E r (rx.keep (kh k2)) ry (wpAny_truthy_bool (hQ s2 (kt k1 k2)))

theorem Tst.and {C : Cx} {n : Nat} {sc : Scope} {ρ : Lc} {a b : Expr} {pos : Pos} {oa ob : Option Bool} (ha : Tst C n sc ρ a oa) (hb : Tst C n sc ρ b ob) :
    Tst C n sc ρ (.BoolOp .And [a, b] pos) (oa.bind fun x => if x then ob else some false) := by
  intro c e A env ad M s Q E r hs S hQ
  obtain ⟨x, hx, e⟩ := obind e
  refine PyProof.Rows.isTrue_and (ha x hx A env ad M s _ E r hs S fun s1 k1 => ?_)
  cases x with
  | false => cases e; exact hQ s1 k1
  | true =>
    refine PyProof.Rows.isTrue_and (hb c e A env ad M s1 _ E r hs (S.keeps (kh k1)) fun s2 k2 => ?_)
    cases c with
    | false => exact hQ s2 (kt k1 k2)
    | true => exact PyProof.Rows.isTrue_and_nil (hQ s2 (kt k1 k2))
theorem Tst.or {C : Cx} {n : Nat} {sc : Scope} {ρ : Lc} {a b : Expr} {pos : Pos} {oa ob : Option Bool} (ha : Tst C n sc ρ a oa) (hb : Tst C n sc ρ b ob) :
    Tst C n sc ρ (.BoolOp .Or [a, b] pos) (oa.bind fun x => if x then some true else ob) := by
  intro c e A env ad M s Q E r hs S hQ
  obtain ⟨x, hx, e⟩ := obind e
  refine PyProof.Rows.isTrue_or (ha x hx A env ad M s _ E r hs S fun s1 k1 => ?_)
  cases x with
  | true => cases e; exact hQ s1 k1
  | false =>
    refine PyProof.Rows.isTrue_or (hb c e A env ad M s1 _ E r hs (S.keeps (kh k1)) fun s2 k2 => ?_)
    cases c with
    | true => exact hQ s2 (kt k1 k2)
    | false => exact PyProof.Rows.isTrue_or_nil (hQ s2 (kt k1 k2))
theorem Tst.not {C : Cx} {n : Nat} {sc : Scope} {ρ : Lc} {a : Expr} {pos : Pos} {oa : Option Bool} (ha : Tst C n sc ρ a oa) :
    Tst C n sc ρ (.UnaryOp .Not a pos) (oa.bind fun x => some (!x)) := by
  intro c e A env ad M s Q E r hs S hQ
  obtain ⟨x, hx, e⟩ := obind e
  cases e
  exact PyProof.Rows.isTrue_not (ha x hx A env ad M s _ E r hs S fun s1 k1 => hQ s1 k1)
def boolO : Val → Option Bool
  | .bool b => some b
  | _ => none
theorem isTrue_Call (f : Expr) (as : List Expr) (ks : List Keyword) (pos : Pos) (env : Env) (whole : Sem Value) :
    PySem.isTrue (.Call f as ks pos) env whole = (do let v ← whole; standAt (Expr.Call f as ks pos).pos; holding [v] (truthy v)) := by
  rfl
theorem Tst.call {C : Cx} {n : Nat} {sc : Scope} {ρ : Lc} {f : Expr} {as : List Expr} {ks : List Keyword} {pos : Pos} {oa : Option Val} (ha : Ev C n sc ρ (.Call f as ks pos) oa) :
    Tst C n sc ρ (.Call f as ks pos) (oa.bind boolO) := by
  intro c e A env ad M s Q E r hs S hQ
  obtain ⟨x, hx, e⟩ := obind e
  unfold boolO at e
  split at e
  · cases e
    rw [isTrue_Call]
    refine wpAny_bind (ha _ hx A env ad M s _ E r hs S fun w s1 k1 q => ?_)
    simp only [Rep] at q
    subst q
    exact wpAny_bind (wpAny_standAt (wpAny_holding (wpAny_truthy_bool (hQ s1 k1))))
  · cases e

theorem Ev.ifx {C : Cx} {n : Nat} {sc : Scope} {ρ : Lc} {c a b : Expr} {pos : Pos} {oc : Option Bool} {oa ob : Option Val} (hc : Tst C n sc ρ c oc) (ha : Ev C n sc ρ a oa) (hb : Ev C n sc ρ b ob) :
    Ev C n sc ρ (.IfExp c a b pos) (oc.bind fun x => if x then oa else ob) := by
  intro v e A env ad M s Q E r hs S hQ
  obtain ⟨x, hx, e⟩ := obind e
  refine PyProof.Rows.IfExp_ (hc x hx A env ad M s _ E r hs S fun s1 k1 => ?_)
  cases x with
  | true => exact ha v e A env ad M s1 _ E r hs (S.keeps (kh k1)) fun w s2 k2 q => hQ w s2 (kt k1 k2) q
  | false => exact hb v e A env ad M s1 _ E r hs (S.keeps (kh k1)) fun w s2 k2 q => hQ w s2 (kt k1 k2) q

/-! text ML3 -/
/-! fresh lists -/
def EvN (C : Cx) (n : Nat) (sc : Scope) (ρ : Lc) (e : Expr) (o : Option (List Val)) : Prop :=
  ∀ l, o = some l → ∀ (A : Around) (env : Env) (ad : Str → Addr) (M : Addr → Prop) (s : Shared) (Q E : Value → Shared → Prop),
    Room A n → env.scope = sc → Sat C M ad env ρ s.heap →
    (∀ a ws s', Keeps s s' → s.heap.get? a = none → s'.heap.PlainList a (List.toArray ws) → RepL s'.heap M l ws → Q (.ref a) s') → wpAny (model C.prog C.w) A (eval e env) Q E s

theorem EvN.sh {C : Cx} {n : Nat} {sc : Scope} {ρ : Lc} {e : Expr} {o : Option (List Val)} (h : EvN C n sc ρ e o) : Ev C n sc ρ e (o.bind fun l => some (.list l)) := by
  intro v e A env ad M s Q E r hs S hQ
  obtain ⟨l, hl, e⟩ := obind e
  cases e
  refine h l hl A env ad M s Q E r hs S fun a ws s' k ha hl hr => hQ _ s' k ?_
  simp only [Rep]
  refine ⟨a, ws, rfl, fun m => ?_, hl, hr⟩
  obtain ⟨o, q⟩ := S.live a m
  rw [ha] at q; cases q

/-! items -/
def nthV : List Val → Nat → Option Val
  | [], _ => none
  | x :: _, 0 => some x
  | _ :: l, n + 1 => nthV l n
theorem nthV_eq : ∀ (l : List Val) (n : Nat), nthV l n = l[n]?
  | [], _ => by simp [nthV]
  | x :: l, 0 => by simp [nthV]
  | x :: l, n + 1 => by simp [nthV, nthV_eq l n]
def idxO (l : List Val) (i : Int) : Option Val := match i with
  | .ofNat n => if Nat.blt n 9223372036854775808 then nthV l n else none
  | .negSucc n => if Nat.blt n l.length && Nat.blt n 9223372036854775808 then nthV l (l.length - (n + 1)) else none
def itemO : Val → Val → Option Val
  | .list l, .int i => idxO l i
  | .tup l, .int i => idxO l i
  | _, _ => none

theorem getItem_idx {prog : Program} {w : World} {A : Around} {E : Value → Shared → Prop} {s : Shared} {M : Addr → Prop} {a : Addr} {ws : List Value} {l : List Val} {i : Int} {t : Tok} {v : Val} {Q : Value → Shared → Prop}
    (hl : s.heap.PlainList a (List.toArray ws)) (hr : RepL s.heap M l ws) (hi : idxO l i = some v) (hQ : ∀ w, Rep s.heap M v w → Q w s) : wpAny (model prog w) A (getItem (.ref a) (.int i t)) Q E s := by
  have hlen := hr.length
  unfold idxO at hi
  split at hi
  · rename_i n
    split at hi
    · rename_i hz
      rw [nthV_eq] at hi
      obtain ⟨w', hw, q⟩ := hr.get hi
      have := blt_lt hz
      exact wpAny_getItem_list hl.isList (Int.natCast_nonneg n) (by show (n : Int) < 2 ^ 63; omega) (by simpa using hw) (hQ w' q)
    · cases hi
  · rename_i n
    split at hi
    · rename_i hz
      simp only [Bool.and_eq_true] at hz
      have h1 := blt_lt hz.1
      have h2 := blt_lt hz.2
      rw [nthV_eq] at hi
      obtain ⟨w', hw, q⟩ := hr.get hi
      have e1 : (Int.negSucc n + ((List.toArray ws).size : Int)).toNat = l.length - (n + 1) := by
        rw [List.size_toArray, hlen, Int.negSucc_eq]; omega
      refine wpAny_getItem_list_neg hl.isList (Int.negSucc_lt_zero n) ?_ (by rw [Int.negSucc_eq]; omega) (x := w') ?_ (hQ w' q)
      · rw [List.size_toArray, hlen, Int.negSucc_eq]; omega
      · rw [e1]; simpa using hw
    · cases hi
theorem getItem_idxT {prog : Program} {w : World} {A : Around} {E : Value → Shared → Prop} {s : Shared} {M : Addr → Prop} {a : Addr} {ws : List Value} {l : List Val} {i : Int} {t : Tok} {v : Val} {Q : Value → Shared → Prop}
    (hl : s.heap.IsTuple a (List.toArray ws)) (hr : RepL s.heap M l ws) (hi : idxO l i = some v) (hQ : ∀ w, Rep s.heap M v w → Q w s) : wpAny (model prog w) A (getItem (.ref a) (.int i t)) Q E s := by
  have hlen := hr.length
  unfold idxO at hi
  split at hi
  · rename_i n
    split at hi
    · rename_i hz
      rw [nthV_eq] at hi
      obtain ⟨w', hw, q⟩ := hr.get hi
      have := blt_lt hz
      have hn : n < ws.length := (List.getElem?_eq_some_iff.mp hw).1
      refine PyProof.Rows.getItem_tuple (j := n) hl ?_ ?_ ?_ (by simpa using hw) (hQ w' q)
      · show -(2 ^ 63) ≤ (n : Int); omega
      · show (n : Int) < 2 ^ 63; omega
      · unfold seqIndex?
        have h0 : ¬ ((n : Int) < 0) := by omega
        simp only [Int.ofNat_eq_natCast, h0, if_false, List.size_toArray]
        rw [if_pos (by simp; exact hn)]
        simp
    · cases hi
  · rename_i n
    split at hi
    · rename_i hz
      simp only [Bool.and_eq_true] at hz
      have h1 := blt_lt hz.1
      have h2 := blt_lt hz.2
      rw [nthV_eq] at hi
      obtain ⟨w', hw, q⟩ := hr.get hi
      refine PyProof.Rows.getItem_tuple (j := l.length - (n + 1)) hl (by rw [Int.negSucc_eq]; omega) (by rw [Int.negSucc_eq]; omega) ?_ (by simpa using hw) (hQ w' q)
      rw [List.size_toArray, hlen, seqIndex_neg (Int.negSucc_lt_zero n) (by rw [Int.negSucc_eq]; omega)]
      congr 1
      rw [Int.negSucc_eq]; omega
    · cases hi

theorem Ev.item {C : Cx} {n : Nat} {sc : Scope} {ρ : Lc} {a b : Expr} {pos : Pos} {oa ob : Option Val} (ha : Ev C n sc ρ a oa) (hb : Ev C n sc ρ b ob)
    (hs : ∀ o i, subscripted b false o i = operate [o, i] (getItem o i) := by intro _ _; rfl) : Ev C n sc ρ (.Subscript a b pos) (oa.bind fun x => ob.bind fun y => itemO x y) := by
  intro v e A env ad M s Q E r hsc S hQ
  obtain ⟨x, hx, e⟩ := obind e
  obtain ⟨y, hy, e⟩ := obind e
  refine Subscript_ (ha x hx A env ad M s _ E r hsc S fun wx s1 k1 rx => ?_)
  refine hb y hy A env ad M s1 _ E r hsc (S.keeps (kh k1)) fun wy s2 k2 ry => ?_
  have rx := rx.keep (kh k2)
  unfold itemO at e
  split at e
  · simp only [Rep] at rx ry
    obtain ⟨a', ws, rfl, _, hl, hr⟩ := rx
    obtain ⟨t, rfl⟩ := ry
    exact tail_any hl.isList.typeIs slot_list_getitem.lookup (getItem_idx hl hr e fun w' q => hQ w' s2 (kt k1 k2) q) (hs _ _)
  · simp only [Rep] at rx ry
    obtain ⟨a', ws, rfl, _, hl, hr⟩ := rx
    obtain ⟨t, rfl⟩ := ry
    exact tail_any hl.typeIs slot_tuple_getitem.lookup (getItem_idxT hl hr e fun w' q => hQ w' s2 (kt k1 k2) q) (hs _ _)
  · cases e

/-- an item of a list that the frame owns -/
theorem Ev.itemOwn {C : Cx} {n : Nat} {sc : Scope} {ρ : Lc} {x : Str} {p : Pos} {b : Expr} {pos : Pos} {l : List Val} {ob : Option Val} (h : ρ.lookup x = some (.own l)) (hb : Ev C n sc ρ b ob)
    (hs : ∀ o i, subscripted b false o i = operate [o, i] (getItem o i) := by intro _ _; rfl) (hd : (x == ("__debug__" : Str)) = false := by decide) :
    Ev C n sc ρ (.Subscript (.Name x p) b pos) (ob.bind fun y => itemO (.list l) y) := by
  intro v e A env ad M s Q E r hsc S hQ
  obtain ⟨y, hy, e⟩ := obind e
  obtain ⟨w, hw, rfl, hm, ws, hl, hr⟩ := S.vars x _ h
  refine Subscript_ (wpAny_Name (wpAny_holds S.kd hw ?_) hd)
  refine hb y hy A env ad M s _ E r hsc S fun wy s2 k2 ry => ?_
  cases y with
  | int i =>
    simp only [Rep] at ry
    obtain ⟨t, rfl⟩ := ry
    have hl2 := isList_agree hl (kh k2 _)
    exact tail_any hl2.isList.typeIs slot_list_getitem.lookup (getItem_idx hl2 (hr.keep (kh k2)) e fun w' q => hQ w' s2 k2 q) (hs _ _)
  | _ => cases e

/-! slices up to a place -/
def sliceTo (l : List Val) (i : Int) : List Val := match i with
  | .ofNat n => l.take n
  | .negSucc n => l.take (l.length - (n + 1))
theorem pick_sliceTo {h : Heap} {M : Addr → Prop} {l : List Val} {ws : List Value} (hr : RepL h M l ws) (i : Int) : RepL h M (sliceTo l i) (slicePick (List.toArray ws) none (some i) none).toList := by
  have hlen := hr.length
  cases i with
  | ofNat n =>
    show RepL h M (l.take n) (slicePick _ none (some (n : Int)) none).toList
    rw [slicePick_upto']; simpa using hr.take n
  | negSucc n =>
    show RepL h M (l.take (l.length - (n + 1))) _
    have e : (Int.negSucc n) = -((n + 1 : Nat) : Int) := rfl
    rw [e, slicePick_butLast _ _ (by omega)]
    simpa [hlen] using hr.take (l.length - (n + 1))

def sliceO : Val → Val → Option (List Val)
  | .list l, .int i => if Nat.ble l.length 16777216 then some (sliceTo l i) else none
  | _, _ => none
theorem EvN.slice {C : Cx} {n : Nat} {sc : Scope} {ρ : Lc} {a b : Expr} {p pos : Pos} {oa ob : Option Val} (ha : Ev C n sc ρ a oa) (hb : Ev C n sc ρ b ob) (ht : ∀ o r, letTemporaryGo a o r = pure () := by intro _ _; rfl) :
    EvN C n sc ρ (.Subscript a (.Slice none (some b) none p) pos) (oa.bind fun x => ob.bind fun y => sliceO x y) := by
  intro l' e A env ad M s Q E r hsc S hQ
  obtain ⟨x, hx, e⟩ := obind e
  obtain ⟨y, hy, e⟩ := obind e
  refine wpAny_Subscript_list_slice (ha x hx A env ad M s _ E r hsc S fun wx s1 k1 rx => ?_) ht
  rw [evalPart_none, evalPart_some]
  refine wpAny_pure (hb y hy A env ad M s1 _ E r hsc (S.keeps (kh k1)) fun wy s2 k2 ry => ?_)
  have rx := rx.keep (kh k2)
  cases x with
  | list l =>
    cases y with
    | int i =>
      unfold sliceO at e
      dsimp only at e
      split at e
      · rename_i hz
        cases e
        have hz := Nat.le_of_ble_eq_true hz
        simp only [Rep] at rx ry
        obtain ⟨a', ws, rfl, _, hl, hr⟩ := rx
        obtain ⟨t, rfl⟩ := ry
        have hlen := hr.length
        refine ⟨a', List.toArray ws, none, some i, rfl, hl.isList, by rw [List.size_toArray, hlen, sizeLine_eq]; omega, .none, .int i t, ?_⟩
        have k3 : Keeps s2 { s2 with heap := (s2.heap.push { cls := .type "slice", data := .fields #[.none, .int i t, .none] }).push { cls := .type "list", data := .seq (slicePick (List.toArray ws) none (some i) none) } } :=
          ⟨_, s2.toks, rfl, fun _ _ e => Heap.get?_push_of_some _ (Heap.get?_push_of_some _ e)⟩
        have hfresh : s.heap.get? (s2.heap.objs.size + 1) = none := by
          cases q : s.heap.get? (s2.heap.objs.size + 1) with
          | none => rfl
          | some o =>
            exact absurd (Heap.lt_size (kh (kt k1 k2) _ _ q)) (Nat.not_lt.mpr (Nat.le_succ _))
        refine hQ (s2.heap.objs.size + 1) (slicePick (List.toArray ws) none (some i) none).toList _ (kt (kt k1 k2) k3) hfresh ?_ ((pick_sliceTo hr i).keep (kh k3))
        have := isList_push (s2.heap.push { cls := .type "slice", data := .fields #[.none, .int i t, .none] }) (slicePick (List.toArray ws) none (some i) none)
        rw [Heap.size_push] at this
        simpa using this
      · cases e
    | _ => cases e
  | _ => cases e

/-! displays -/
theorem EvL.nil {C : Cx} {n : Nat} {sc : Scope} {ρ : Lc} : EvL C n sc ρ [] (some []) := by
  intro vs e A env ad M s pos Q E r hs S hQ
  cases e
  exact args_nil (hQ [] s (keeps_refl s) .nil)
theorem EvL.cons {C : Cx} {n : Nat} {sc : Scope} {ρ : Lc} {e : Expr} {es : List Expr} {o : Option Val} {os : Option (List Val)} (h : Ev C n sc ρ e o) (hs : EvL C n sc ρ es os)
    (he : ∀ env, starEach (e :: es) env = (false, eval e env) :: starEach es env := by intro _; rfl) : EvL C n sc ρ (e :: es) (o.bind fun v => os.bind fun l => some (v :: l)) := by
  intro vs q A env ad M s pos Q E r hsc S hQ
  obtain ⟨x, hx, q⟩ := obind q
  obtain ⟨l, hl, q⟩ := obind q
  cases q
  refine args_cons (h x hx A env ad M s _ E r hsc S fun w s1 k1 q1 => ?_) (he env)
  exact hs l hl A env ad M s1 pos _ E r hsc (S.keeps (kh k1)) fun ws s2 k2 q2 => hQ (w :: ws) s2 (kt k1 k2) (.cons (q1.keep (kh k2)) q2)

theorem EvN.list {C : Cx} {n : Nat} {sc : Scope} {ρ : Lc} {es : List Expr} {pos : Pos} {os : Option (List Val)} (hs : EvL C n sc ρ es os) :
    EvN C n sc ρ (.List es pos) (os.bind fun l => if Nat.ble l.length 16777216 then some l else none) := by
  intro l e A env ad M s Q E r hsc S hQ
  obtain ⟨l', hl, e⟩ := obind e
  split at e
  · rename_i hz
    cases e
    have hz := Nat.le_of_ble_eq_true hz
    refine wpAny_List_spliced (hs l hl A env ad M s pos _ E r hsc S fun ws s1 k1 q1 => ?_)
    refine ⟨by rw [q1.length, sizeLine_eq]; omega, ?_⟩
    have k3 := keeps_push s1 { cls := .type "list", data := .seq (List.toArray ws) } s1.toks
    refine hQ _ ws _ (kt k1 k3) ?_ (isList_push _ _) (q1.keep (kh k3))
    cases q : s.heap.get? s1.heap.objs.size with
    | none => rfl
    | some o => exact absurd (Heap.lt_size (kh k1 _ _ q)) (Nat.lt_irrefl _)
  · cases e
theorem Ev.tup {C : Cx} {n : Nat} {sc : Scope} {ρ : Lc} {es : List Expr} {k : Nat} {pos : Pos} {os : Option (List Val)} (hs : EvL C n sc ρ es os) :
    Ev C n sc ρ (.Tuple es k pos) (os.bind fun l => if Nat.ble l.length 16777216 then some (.tup l) else none) := by
  intro v e A env ad M s Q E r hsc S hQ
  obtain ⟨l, hl, e⟩ := obind e
  split at e
  · rename_i hz
    cases e
    have hz := Nat.le_of_ble_eq_true hz
    refine wpAny_Tuple_spliced (hs l hl A env ad M s pos _ E r hsc S fun ws s1 k1 q1 => ?_)
    refine ⟨by rw [q1.length, sizeLine_eq]; omega, ?_⟩
    have k3 := keeps_push s1 { cls := .type "tuple", data := .seq (List.toArray ws) } s1.toks
    refine hQ _ _ (kt k1 k3) ?_
    simp only [Rep]
    exact ⟨_, ws, rfl, fresh_not (S.keeps (kh k1)).live (Nat.le_refl _), isTuple_push _ _, q1.keep (kh k3)⟩
  · cases e

/-- `[c] * e` -/
def repV (v : Val) : Nat → List Val
  | 0 => []
  | n + 1 => v :: repV v n
theorem repV_eq (v : Val) : ∀ n, repV v n = List.replicate n v
  | 0 => rfl
  | n + 1 => by rw [repV, repV_eq v n, List.replicate_succ]
theorem fold_one (w : Value) : ∀ (n : Nat) (acc : Array Value), List.foldl (fun x y => x ++ y) acc (List.replicate n #[w]) = acc ++ List.toArray (List.replicate n w)
  | 0, acc => by simp
  | n + 1, acc => by
    rw [List.replicate_succ, List.foldl_cons, fold_one w n, List.replicate_succ, Array.append_assoc]
    congr 1
    simp
theorem RepL.rep {h : Heap} {M : Addr → Prop} {v : Val} {w : Value} (q : Rep h M v w) : ∀ n, RepL h M (repV v n) (List.replicate n w)
  | 0 => .nil
  | n + 1 => by rw [List.replicate_succ]; exact .cons q (RepL.rep q n)

theorem EvN.rep {C : Cx} {n : Nat} {sc : Scope} {ρ : Lc} {i : Int} {kd : Nat} {p0 p1 pos : Pos} {b : Expr} {ob : Option Val} (hb : Ev C n sc ρ b ob) :
    EvN C n sc ρ (.BinOp (.List [.Constant (.int i) kd p0] p1) .Mult b pos) (ob.bind fun y => match y with
      | .int k => if Nat.blt k.natAbs 16777217 then some (repV (.int i) k.toNat) else none
      | _ => none) := by
  intro l e A env ad M s Q E r hsc S hQ
  obtain ⟨y, hy, e⟩ := obind e
  split at e
  · rename_i k
    split at e
    · rename_i hz
      cases e
      have hz := blt_lt hz
      refine wpAny_BinOp (wpAny_List_spliced (args_cons (wpAny_Constant_int (args_nil ⟨by rw [sizeLine_eq]; simp, ?_⟩)) rfl))
      generalize hs1 : ({ heap := s.heap.push { cls := .type "list", data := .seq (List.toArray [Value.int i s.toks]) }, gens := s.gens, drawn := s.drawn, toks := s.toks + 1, os := s.os } : Shared) = s1
      have k1 : Keeps s s1 := by subst hs1; exact keeps_push s _ _
      have hg : s1.heap.get? s.heap.objs.size = some { cls := .type "list", dict := none, data := .seq (List.toArray [Value.int i s.toks]) 0, slots := #[] } := by subst hs1; exact Heap.get?_push_size _ rfl
      refine hb _ hy A env ad M s1 _ E r hsc (S.keeps (kh k1)) fun wy s2 k2 ry => ?_
      simp only [Rep] at ry
      obtain ⟨t, rfl⟩ := ry
      have hg2 := kh k2 _ _ hg
      refine wpAny_binaryOp_repeat_ref (T := "list") (U := "int") (by decide) ⟨_, hg2, rfl⟩ (fun s' => typeIs_int s' k t) noFill_list_mul F.fills_int_mul F.slot_int_rmul repeat_list F.slot_int_index.lookup
        (call_meets F.slot_int_rmul (typeIs_int s2 k t) F.entry_int_rmul (F.args_int_rmul_2 _ _) (int___rmul___int_list k t s.heap.objs.size (List.toArray [Value.int i s.toks]) 0)
          ⟨hg2, rfl, ⟨_, hg2, rfl⟩, call_meets F.slot_list_mul ⟨_, hg2, rfl⟩ F.entry_list_mul (F.args_list_mul_2 _ _)
            (AutoListH.list___mul___list_int_3 s.heap.objs.size (List.toArray [Value.int i s.toks]) 0 k t (by simp [Builtin.List.listFitsIndex]; omega) (by simp; omega) (by simp [Builtin.List.listTooLong, sizeLine]; omega))
            ⟨hg2, ?_⟩⟩)
      have k3 := keeps_push s2 { cls := .type "list", data := .seq (List.foldl (fun x1 x2 => x1 ++ x2) #[] (List.replicate (if (List.toArray [Value.int i s.toks]).isEmpty = true then 0 else k.toNat) (List.toArray [Value.int i s.toks]))) } s2.toks
      have e0 : (List.foldl (fun x1 x2 => x1 ++ x2) #[] (List.replicate (if (List.toArray [Value.int i s.toks]).isEmpty = true then 0 else k.toNat) (List.toArray [Value.int i s.toks]))) = List.toArray (List.replicate k.toNat (Value.int i s.toks)) := by
        have : (if (List.toArray [Value.int i s.toks]).isEmpty = true then 0 else k.toNat) = k.toNat := by simp
        rw [this]
        have := fold_one (Value.int i s.toks) k.toNat #[]
        simpa using this
      refine hQ _ (List.replicate k.toNat (Value.int i s.toks)) _ (kt (kt k1 k2) k3) ?_ ?_ (RepL.rep rep_int _)
      · cases q : s.heap.get? s2.heap.objs.size with
        | none => rfl
        | some o => exact absurd (Heap.lt_size (kh (kt k1 k2) _ _ q)) (Nat.lt_irrefl _)
      · rw [e0]; exact isList_push _ _
    · cases e
  · cases e

/-! text ML4 -/
/-! calls -/
def CallV (C : Cx) (n : Nat) (fv : Value) (f : List Val → Option Val) : Prop :=
  ∀ vs v, f vs = some v → ∀ (A : Around) (M : Addr → Prop) (s : Shared) (ws : List Value) (Q E : Value → Shared → Prop),
    Room A n → TopOK C s.heap → (∀ a, M a → ∃ o, s.heap.get? a = some o) → RepL s.heap M vs ws →
    (∀ w s', Keeps s s' → Rep s'.heap M v w → Q w s') → wpAny (model C.prog C.w) A (call fv ws) Q E s
def CallN (C : Cx) (n : Nat) (fv : Value) (f : List Val → Option (List Val)) : Prop :=
  ∀ vs l, f vs = some l → ∀ (A : Around) (M : Addr → Prop) (s : Shared) (ws : List Value) (Q E : Value → Shared → Prop),
    Room A n → TopOK C s.heap → (∀ a, M a → ∃ o, s.heap.get? a = some o) → RepL s.heap M vs ws →
    (∀ a us s', Keeps s s' → s.heap.get? a = none → s'.heap.PlainList a (List.toArray us) → RepL s'.heap M l us → Q (.ref a) s') → wpAny (model C.prog C.w) A (call fv ws) Q E s
def CallD (C : Cx) (n : Nat) (d : DefRec) (f : List Val → Option Val) : Prop :=
  ∀ vs v, f vs = some v → ∀ (A : Around) (M : Addr → Prop) (s : Shared) (ws : List Value) (a : Addr) (Q E : Value → Shared → Prop),
    Room A n → TopOK C s.heap → (∀ a, M a → ∃ o, s.heap.get? a = some o) → FnAt C s.heap d a → RepL s.heap M vs ws →
    (∀ w s', Keeps s s' → Rep s'.heap M v w → Q w s') → wpAny (model C.prog C.w) A (call (.ref a) ws) Q E s

theorem Room.less {A : Around} {n k : Nat} (r : Room A n) (h : k ≤ n) : Room A k := ⟨r.hd, by have := r.dep; omega, by have := r.un; omega⟩
theorem CallD.more {C : Cx} {n k : Nat} {d : DefRec} {f : List Val → Option Val} (h : CallD C k d f) (hk : k ≤ n) : CallD C n d f :=
  fun vs v e A M s ws a Q E r => h vs v e A M s ws a Q E (r.less hk)

theorem load_builtin {C : Cx} {A : Around} {env : Env} {ad : Str → Addr} {M : Addr → Prop} {ρ : Lc} {s : Shared} {x : Str} {p : Pos} {fv : Value} {Q E : Value → Shared → Prop} (S : Sat C M ad env ρ s.heap)
    (hx : env.kindOf x = some .globalImplicit) (hb : (x, fv) ∈ builtinNames) (hd : (x == ("__debug__" : Str)) = false) (h : Q fv s) : wpAny (model C.prog C.w) A (eval (.Name x p) env) Q E s := by
  obtain ⟨h1, h2⟩ := S.top.bi _ hb
  refine Name_function_global S.kd hx (loadGlobal_builtin (mg := C.mg) (mb := C.mb) ?_ h1 ?_ h2 h) hd
  · rw [S.gl]; exact S.top.g
  · rw [S.bi]; exact S.top.b

def PlainArgs (e : Expr) (es : List Expr) : Prop := (∀ env, starEach (e :: es) env = (false, eval e env) :: starEach es env) ∧ ∀ (env : Env) (pos : Pos), (backTo pos (starEach es env)).any (·.1) = false

theorem Ev.callB {C : Cx} {n : Nat} {sc : Scope} {ρ : Lc} {x : Str} {id : String} {f : List Val → Option Val} {e : Expr} {es : List Expr} {p pos : Pos} {oa : Option (List Val)}
    (hf : CallV C n (.builtin id) f) (ha : EvL C n sc ρ (e :: es) oa) (hb : (x, Value.builtin id) ∈ builtinNames := by simp [builtinNames]) (hx : sc.names.lookup x = some .globalImplicit := by rfl)
    (hp : PlainArgs e es := by exact ⟨fun _ => rfl, fun _ _ => rfl⟩) (hd : (x == ("__debug__" : Str)) = false := by decide) : Ev C n sc ρ (.Call (.Name x p) (e :: es) [] pos) (oa.bind f) := by
  intro v q A env ad M s Q E r hs S hQ
  obtain ⟨vs, hv, q⟩ := obind q
  refine wpAny_Call_NameR (load_builtin S (by show env.scope.names.lookup x = _; rw [hs]; exact hx) hb hd ?_)
  refine PyProof.Rows.callWith_builtin1 (ha vs hv A env ad M s pos _ E r hs S fun ws s1 k1 q1 => ?_) (hp.1 env) (hp.2 env pos)
  have S1 := S.keeps (kh k1)
  exact hf vs v q A M s1 ws Q E r S1.top S1.live q1 fun w s2 k2 q2 => hQ w s2 (kt k1 k2) q2

theorem callWith_typeM {M : Model} {A : Around} {env : Env} {s : Shared} {pos : Pos} {T : String} {e : Expr} {rest : List Expr} {Q E : Value → Shared → Prop} (hp : PlainArgs e rest)
    (h : wpAny M A (spliced (backTo pos (starEach (e :: rest) env))) (fun vs s₁ => wpAny M A (call (.type T) vs) Q E s₁) E s) :
    wpAny M A (callWith pos (.type T) [] (backTo pos (starEach (e :: rest) env)) []) Q E s := by
  have he := hp.1 env
  have hpl := hp.2 env pos
  rw [he] at h ⊢
  exact PySem.callWith_type (by show (false || (backTo pos (starEach rest env)).any (·.1)) = false; rw [hpl]; rfl) (evalArgs_plain h)

theorem Ev.callT {C : Cx} {n : Nat} {sc : Scope} {ρ : Lc} {x : Str} {T : String} {f : List Val → Option Val} {e : Expr} {es : List Expr} {p pos : Pos} {oa : Option (List Val)}
    (hf : CallV C n (.type T) f) (ha : EvL C n sc ρ (e :: es) oa) (hb : (x, Value.type T) ∈ builtinNames := by simp [builtinNames]) (hx : sc.names.lookup x = some .globalImplicit := by rfl)
    (hp : PlainArgs e es := by exact ⟨fun _ => rfl, fun _ _ => rfl⟩) (hd : (x == ("__debug__" : Str)) = false := by decide) : Ev C n sc ρ (.Call (.Name x p) (e :: es) [] pos) (oa.bind f) := by
  intro v q A env ad M s Q E r hs S hQ
  obtain ⟨vs, hv, q⟩ := obind q
  refine wpAny_Call_NameR (load_builtin S (by show env.scope.names.lookup x = _; rw [hs]; exact hx) hb hd ?_)
  refine callWith_typeM hp (ha vs hv A env ad M s pos _ E r hs S fun ws s1 k1 q1 => ?_)
  have S1 := S.keeps (kh k1)
  exact hf vs v q A M s1 ws Q E r S1.top S1.live q1 fun w s2 k2 q2 => hQ w s2 (kt k1 k2) q2
theorem EvN.callT {C : Cx} {n : Nat} {sc : Scope} {ρ : Lc} {x : Str} {T : String} {f : List Val → Option (List Val)} {e : Expr} {es : List Expr} {p pos : Pos} {oa : Option (List Val)}
    (hf : CallN C n (.type T) f) (ha : EvL C n sc ρ (e :: es) oa) (hb : (x, Value.type T) ∈ builtinNames := by simp [builtinNames]) (hx : sc.names.lookup x = some .globalImplicit := by rfl)
    (hp : PlainArgs e es := by exact ⟨fun _ => rfl, fun _ _ => rfl⟩) (hd : (x == ("__debug__" : Str)) = false := by decide) : EvN C n sc ρ (.Call (.Name x p) (e :: es) [] pos) (oa.bind f) := by
  intro v q A env ad M s Q E r hs S hQ
  obtain ⟨vs, hv, q⟩ := obind q
  refine wpAny_Call_NameR (load_builtin S (by show env.scope.names.lookup x = _; rw [hs]; exact hx) hb hd ?_)
  refine callWith_typeM hp (ha vs hv A env ad M s pos _ E r hs S fun ws s1 k1 q1 => ?_)
  have S1 := S.keeps (kh k1)
  refine hf vs v q A M s1 ws Q E r S1.top S1.live q1 fun a us s2 k2 ha hl hr => hQ a us s2 (kt k1 k2) ?_ hl hr
  cases q : s.heap.get? a with
  | none => rfl
  | some o => rw [kh k1 _ _ q] at ha; cases ha

theorem Ev.callD {C : Cx} {n : Nat} {sc : Scope} {ρ : Lc} {x : Str} {d : DefRec} {f : List Val → Option Val} {e : Expr} {es : List Expr} {p pos : Pos} {oa : Option (List Val)}
    (hf : CallD C n d f) (hdf : C.defs x = some d) (ha : EvL C n sc ρ (e :: es) oa) (hx : sc.names.lookup x = some .globalImplicit := by rfl)
    (hp : PlainArgs e es := by exact ⟨fun _ => rfl, fun _ _ => rfl⟩) (hd : (x == ("__debug__" : Str)) = false := by decide) : Ev C n sc ρ (.Call (.Name x p) (e :: es) [] pos) (oa.bind f) := by
  intro v q A env ad M s Q E r hs S hQ
  obtain ⟨vs, hv, q⟩ := obind q
  obtain ⟨hn, a, hfn⟩ := S.top.fn x d hdf
  obtain ⟨o, pm, cd, doc, ho, hod, hcr⟩ := hfn.obj
  refine wpAny_Call_NameR (Name_function_global S.kd (by show env.scope.names.lookup x = _; rw [hs]; exact hx) (loadGlobal_global (mg := C.mg) (by rw [S.gl]; exact S.top.g) (by rw [← hn]; exact hfn.name) ?_) hd)
  refine PyProof.Rows.callWith_def hod (ha vs hv A env ad M s pos _ E r hs S fun ws s1 k1 q1 => ⟨kh k1 _ _ ho, ?_⟩) (hp.1 env)
  have S1 := S.keeps (kh k1)
  exact hf vs v q A M s1 ws a Q E r S1.top S1.live (hfn.keeps (kh k1)) q1 fun w s2 k2 q2 => hQ w s2 (kt k1 k2) q2

/-! the built-ins that the text calls -/
def lenF : List Val → Option Val
  | [.list l] => if Nat.ble l.length 16777216 then some (.int (Int.ofNat l.length)) else none
  | _ => none
theorem repL1 {h : Heap} {M : Addr → Prop} {v : Val} {ws : List Value} (x : RepL h M [v] ws) : ∃ w, ws = [w] ∧ Rep h M v w := by
  simp only [RepL] at x
  obtain ⟨w, r, rfl, h1, rfl⟩ := x
  exact ⟨w, rfl, h1⟩
theorem repL2 {h : Heap} {M : Addr → Prop} {v u : Val} {ws : List Value} (x : RepL h M [v, u] ws) : ∃ w z, ws = [w, z] ∧ Rep h M v w ∧ Rep h M u z := by
  simp only [RepL] at x
  obtain ⟨w, r, rfl, h1, z, r', rfl, h2, rfl⟩ := x
  exact ⟨w, z, rfl, h1, h2⟩
theorem call_len {C : Cx} {n : Nat} : CallV C n (.builtin "len") lenF := by
  intro vs v e A M s ws Q E r T live hr hQ
  unfold lenF at e
  split at e
  · split at e
    · rename_i hz
      cases e
      have hz := Nat.le_of_ble_eq_true hz
      obtain ⟨w, rfl, q⟩ := repL1 hr
      simp only [Rep] at q
      obtain ⟨a, us, rfl, _, hl, hu⟩ := q
      have hlen := hu.length
      refine call_len_list hl.isList (by rw [List.size_toArray, hlen]; omega) (hQ _ _ (keeps_tok s _) ?_)
      rw [List.size_toArray, hlen]; exact rep_int
    · cases e
  · cases e
def maxF : List Val → Option Val
  | [.int a, .int b] => some (.int (if a < b then b else a))
  | _ => none
theorem call_max {C : Cx} {n : Nat} : CallV C n (.builtin "max") maxF := by
  intro vs v e A M s ws Q E r T live hr hQ
  unfold maxF at e
  split at e
  · cases e
    rename_i a b
    obtain ⟨w, z, rfl, q1, q2⟩ := repL2 hr
    simp only [Rep] at q1 q2
    obtain ⟨t, rfl⟩ := q1
    obtain ⟨u, rfl⟩ := q2
    refine max_two_ints r.hd fun h' tk hk => hQ _ _ ⟨h', tk, rfl, hk⟩ ?_
    by_cases c : a < b
    · have c' : b > a := c
      rw [if_pos c, if_pos c']; exact rep_int
    · have c' : ¬ b > a := c
      rw [if_neg c, if_neg c']; exact rep_int
  · cases e
def absF : List Val → Option Val
  | [.int a] => some (.int (if a < 0 then -a else a))
  | _ => none
theorem call_abs {C : Cx} {n : Nat} : CallV C n (.builtin "abs") absF := by
  intro vs v e A M s ws Q E r T live hr hQ
  unfold absF at e
  split at e
  · cases e
    rename_i a
    obtain ⟨w, rfl, q⟩ := repL1 hr
    simp only [Rep] at q
    obtain ⟨t, rfl⟩ := q
    exact PyProof.Rows.call_abs_int fun u tk => hQ _ _ (keeps_tok s _) rep_int
  · cases e
def intF : List Val → Option Val
  | [.int a] => some (.int a)
  | _ => none
theorem call_int {C : Cx} {n : Nat} : CallV C n (.type "int") intF := by
  intro vs v e A M s ws Q E r T live hr hQ
  unfold intF at e
  split at e
  · cases e
    rename_i a
    obtain ⟨w, rfl, q⟩ := repL1 hr
    simp only [Rep] at q
    obtain ⟨t, rfl⟩ := q
    exact call_int_int (hQ _ _ (keeps_refl s) rep_int)
  · cases e
def listF : List Val → Option (List Val)
  | [.list l] => if Nat.ble l.length 16777216 then some l else none
  | _ => none
theorem call_list {C : Cx} {n : Nat} : CallN C n (.type "list") listF := by
  intro vs v e A M s ws Q E r T live hr hQ
  unfold listF at e
  split at e
  · split at e
    · rename_i hz
      cases e
      have hz := Nat.le_of_ble_eq_true hz
      obtain ⟨w, rfl, q⟩ := repL1 hr
      simp only [Rep] at q
      obtain ⟨a, us, rfl, _, ⟨k, ho⟩, hu⟩ := q
      have hlen := hu.length
      refine call_list_seq a (T := "list") (.inl rfl) ho rfl rfl (fun h' c' hk hg => ?_) (by rw [List.size_toArray, hlen, sizeLine_eq]; omega)
      have k1 : Keeps s { s with heap := h' } := ⟨h', s.toks, rfl, hk⟩
      refine hQ _ us _ k1 ?_ ⟨c', hg⟩ (hu.keep hk)
      cases q : s.heap.get? s.heap.objs.size with
      | none => rfl
      | some o => exact absurd (Heap.lt_size q) (Nat.lt_irrefl _)
    · cases e
  · cases e

/-! text ML5 -/
structure SatF (C : Cx) (M : Addr → Prop) (ad : Str → Addr) (env : Env) (s₀ : Shared) (M₀ rs : Addr → Prop) (ρ : Lc) (s : Shared) : Prop where
  sat : Sat C M ad env ρ s.heap
  top0 : TopOK C s₀.heap
  same : ∃ h tk, s = { s₀ with heap := h, toks := tk }
  keep : ∀ b o, s₀.heap.get? b = some o → s.heap.get? b = some o
  base : ∀ a, M₀ a → M a ∧ ∃ o, s₀.heap.get? a = some o
  loc : M env.locals ∧ s₀.heap.get? env.locals = none ∧ ∃ m, s.heap.Ns env.locals m
  cel : ∀ x c, env.cells.lookup x = some c → M c ∧ s₀.heap.get? c = none ∧ ∃ v, s.heap.IsCell c v
  cels : ∀ x, env.kindOf x = some .cell → ∃ c, env.cells.lookup x = some c
  apart : ∀ x y c, env.cells.lookup x = some c → env.cells.lookup y = some c → x = y
  own : ∀ x l, ρ.lookup x = some (.own l) → s₀.heap.get? (ad x) = none
  ownA : ∀ x y l l', ρ.lookup x = some (.own l) → ρ.lookup y = some (.own l') → x ≠ y → ad x ≠ ad y
  res : ∀ a, rs a → M a ∧ s₀.heap.get? a = none ∧ a ≠ env.locals ∧ (∀ x, env.cells.lookup x ≠ some a) ∧ ∀ x l, ρ.lookup x = some (.own l) → ad x ≠ a

def Step (M rs : Addr → Prop) (s : Shared) (M' : Addr → Prop) (s' : Shared) : Prop :=
  (∀ a, M' a → M a ∨ s.heap.get? a = none) ∧ (∀ a o, (¬ M a ∨ rs a) → s.heap.get? a = some o → s'.heap.get? a = some o)

theorem Step.refl (M rs : Addr → Prop) (s : Shared) : Step M rs s M s := ⟨fun _ m => .inl m, fun _ _ _ e => e⟩
theorem Step.trans {M M' M'' rs : Addr → Prop} {s s' s'' : Shared} (a : Step M rs s M' s') (b : Step M' rs s' M'' s'') : Step M rs s M'' s'' := by
  have key : ∀ x, ¬ M x → ∀ o, s.heap.get? x = some o → ¬ M' x := fun x hm o e hm' => by
    rcases a.1 x hm' with h | h
    · exact hm h
    · rw [e] at h; cases h
  refine ⟨fun x m => ?_, fun x o hx e => ?_⟩
  · by_cases hm : M x
    · exact .inl hm
    · cases q : s.heap.get? x with
      | none => exact .inr rfl
      | some o =>
        rcases b.1 x m with h | h
        · exact absurd h (key x hm o q)
        · rw [a.2 x o (.inl hm) q] at h; cases h
  · rcases hx with hm | hr
    · exact b.2 x o (.inl (key x hm o e)) (a.2 x o (.inl hm) e)
    · exact b.2 x o (.inr hr) (a.2 x o (.inr hr) e)
theorem Step.keeps {M rs : Addr → Prop} {s s' : Shared} (k : Keeps s s') : Step M rs s M s' := ⟨fun _ m => .inl m, fun a o _ e => kh k a o e⟩
theorem Step.fewer {M M' rs rs' : Addr → Prop} {s s' : Shared} (a : Step M rs s M' s') (h : ∀ x, rs' x → rs x) : Step M rs' s M' s' :=
  ⟨a.1, fun x o hx e => a.2 x o (hx.imp id (h x)) e⟩
theorem Step.rep {M M' rs : Addr → Prop} {s s' : Shared} {v : Val} {w : Value} (a : Step M rs s M' s') (x : Rep s.heap M v w) : Rep s'.heap M' v w :=
  x.mono (fun b o hm e => a.2 b o (.inl hm) e) fun b o hm e hm' => by
    rcases a.1 b hm' with h | h
    · exact hm h
    · rw [e] at h; cases h

theorem SatF.keeps {C : Cx} {M : Addr → Prop} {ad : Str → Addr} {env : Env} {s₀ : Shared} {M₀ rs : Addr → Prop} {ρ : Lc} {s s' : Shared} (S : SatF C M ad env s₀ M₀ rs ρ s) (k : Keeps s s') : SatF C M ad env s₀ M₀ rs ρ s' where
  sat := S.sat.keeps (kh k)
  top0 := S.top0
  same := by
    obtain ⟨h, tk, rfl⟩ := S.same
    obtain ⟨h', tk', rfl, _⟩ := k
    exact ⟨h', tk', rfl⟩
  keep := fun b o e => kh k b o (S.keep b o e)
  base := S.base
  loc := ⟨S.loc.1, S.loc.2.1, by obtain ⟨m, q⟩ := S.loc.2.2; exact ⟨m, q.keeps (kh k)⟩⟩
  cel := fun x c e => by obtain ⟨a, b, v, q⟩ := S.cel x c e; exact ⟨a, b, v, q.keeps (kh k)⟩
  cels := S.cels
  apart := S.apart
  own := S.own
  ownA := S.ownA
  res := S.res

theorem SatF.weaken {C : Cx} {M : Addr → Prop} {ad : Str → Addr} {env : Env} {s₀ : Shared} {M₀ rs : Addr → Prop} {ρ ρ' : Lc} {s : Shared} (S : SatF C M ad env s₀ M₀ rs ρ s)
    (h : ∀ x sl, ρ'.lookup x = some sl → ρ.lookup x = some sl) : SatF C M ad env s₀ M₀ rs ρ' s where
  sat := ⟨S.sat.top, S.sat.gl, S.sat.bi, S.sat.kd, S.sat.live, fun x sl e => S.sat.vars x sl (h x sl e)⟩
  top0 := S.top0
  same := S.same
  keep := S.keep
  base := S.base
  loc := S.loc
  cel := S.cel
  cels := S.cels
  apart := S.apart
  own := fun x l e => S.own x l (h _ _ e)
  ownA := fun x y l l' e e' => S.ownA x y l l' (h _ _ e) (h _ _ e')
  res := fun a q => by obtain ⟨a1, a2, a3, a4, a5⟩ := S.res a q; exact ⟨a1, a2, a3, a4, fun x l e => a5 x l (h _ _ e)⟩

theorem ns_ne_cell {h : Heap} {a c : Addr} {m : Str → Option Value} {v : Option Value} (x : h.Ns a m) (y : h.IsCell c v) : a ≠ c := by
  rintro rfl
  obtain ⟨o, es, ep, ho, hd, _⟩ := x
  obtain ⟨o', ho', hd'⟩ := y
  rw [ho] at ho'; cases ho'
  rw [hd] at hd'; cases hd'
theorem ns_ne_list {h : Heap} {a c : Addr} {m : Str → Option Value} {its : Array Value} (x : h.Ns a m) (y : h.PlainList c its) : a ≠ c := by
  rintro rfl
  obtain ⟨o, es, ep, ho, hd, _⟩ := x
  obtain ⟨n, ho'⟩ := y
  rw [ho] at ho'; cases ho'
  cases hd
theorem cell_ne_list {h : Heap} {a c : Addr} {v : Option Value} {its : Array Value} (x : h.IsCell a v) (y : h.PlainList c its) : a ≠ c := by
  rintro rfl
  obtain ⟨o, ho, hd⟩ := x
  obtain ⟨n, ho'⟩ := y
  rw [ho] at ho'; cases ho'
  cases hd

theorem isCell_same {h h' : Heap} {a c : Addr} {v : Option Value} (x : h.IsCell c v) (hs : Heap.SameBut a h h') (hne : c ≠ a) : h'.IsCell c v := by
  obtain ⟨o, ho, hd⟩ := x
  exact ⟨o, (hs.2 c hne).trans ho, hd⟩
theorem isList_same {h h' : Heap} {a c : Addr} {its : Array Value} (x : h.PlainList c its) (hs : Heap.SameBut a h h') (hne : c ≠ a) : h'.PlainList c its := by
  obtain ⟨n, ho⟩ := x
  exact ⟨n, (hs.2 c hne).trans ho⟩

/-- a change of one object that the frame holds as its own (its dict, a cell): all slots but the stored one stand -/
theorem slot_same {h h' : Heap} {M : Addr → Prop} {ad : Addr} {a : Addr} {sl : Slot} {w : Value} (q : SlotOK h M ad sl w) (hs : Heap.SameBut a h h') (hm : M a) (hne : ∀ l, sl = .own l → ad ≠ a) : SlotOK h' M ad sl w := by
  cases sl with
  | sh v => exact Rep.mono (v := v) (fun b o hb e => (hs.2 b (by rintro rfl; exact hb hm)).trans e) (fun _ _ hb _ => hb) q
  | own l =>
    obtain ⟨rfl, hM, ws, hl, hr⟩ := q
    exact ⟨rfl, hM, ws, isList_same hl hs (hne l rfl), hr.mono (fun b o hb e => (hs.2 b (by rintro rfl; exact hb hm)).trans e) (fun _ _ hb _ => hb)⟩
  | raw w' => exact q

def Bindable (sc : Scope) (x : Str) : Prop := sc.names.lookup x = some .local ∨ (sc.names.lookup x = some .cell ∧ (x == ("__classdict__" : Str)) = false)

theorem lookup_cons_self {x : Str} {sl : Slot} {ρ : Lc} : List.lookup x ((x, sl) :: ρ) = some sl := by simp [List.lookup]
theorem lookup_cons_ne {x y : Str} {sl : Slot} {ρ : Lc} (h : y ≠ x) : List.lookup y ((x, sl) :: ρ) = List.lookup y ρ := by
  have : (y == x) = false := by simpa using h
  simp [List.lookup, this]

theorem SatF.store {C : Cx} {M : Addr → Prop} {ad : Str → Addr} {env : Env} {s₀ : Shared} {M₀ rs : Addr → Prop} {ρ : Lc} {s : Shared} {x : Str} {sl : Slot} {w : Value} {A : Around} {Q : Unit → Shared → Prop} {E : Value → Shared → Prop}
    (S : SatF C M ad env s₀ M₀ rs ρ s) (hb : Bindable env.scope x) (q : SlotOK s.heap M (ad x) sl w)
    (ho : ∀ l, sl = .own l → s₀.heap.get? (ad x) = none ∧ (∀ y l', y ≠ x → ρ.lookup y = some (.own l') → ad x ≠ ad y) ∧ ∀ a, rs a → ad x ≠ a)
    (hQ : ∀ s', Step M rs s M s' → SatF C M ad env s₀ M₀ rs ((x, sl) :: ρ) s' → Q () s') : wpAny (model C.prog C.w) A (storeName env x w) Q E s := by
  obtain ⟨hLm, hL0, m, hLn⟩ := S.loc
  have kd := S.sat.kd
  -- what is left when one of the frame's own objects has been changed
  have fin : ∀ (a : Addr) (h' : Heap) (tk : Nat), Heap.SameBut a s.heap h' → M a → s₀.heap.get? a = none → (∀ its, ¬ s.heap.PlainList a its) → ¬ rs a →
      (∀ y w', y ≠ x → Holds s.heap env y w' → Holds h' env y w') → Holds h' env x w → (∃ m, h'.Ns env.locals m) → (∀ y c, env.cells.lookup y = some c → ∃ v, h'.IsCell c v) →
      (∃ o, h'.get? a = some o) → Q () { s with heap := h', toks := tk } := by
    intro a h' tk hs ha h0 hnl hra hold hx hns hcl hlive
    have up : ∀ b o, b ≠ a → s.heap.get? b = some o → h'.get? b = some o := fun b o hb e => (hs.2 b hb).trans e
    have keep' : ∀ b o, s₀.heap.get? b = some o → h'.get? b = some o := fun b o e => up b o (by rintro rfl; rw [h0] at e; cases e) (S.keep b o e)
    have hne : ∀ y l, ρ.lookup y = some (.own l) → ad y ≠ a := fun y l e h => by
      obtain ⟨w', _, _, _, ws, hl, _⟩ := S.sat.vars y _ e
      exact hnl _ (h ▸ hl)
    have hnex : ∀ l, sl = .own l → ad x ≠ a := fun l e h => by
      subst e
      obtain ⟨_, _, ws, hl, _⟩ := q
      exact hnl _ (h ▸ hl)
    refine hQ _ ⟨fun _ m => .inl m, fun b o hb e => up b o (fun h => by subst h; exact hb.elim (fun k => k ha) hra) e⟩ ?_
    have same' : ∃ h₁ tk₁, ({ s with heap := h', toks := tk } : Shared) = { s₀ with heap := h₁, toks := tk₁ } := by
      obtain ⟨h₀', tk', e⟩ := S.same
      exact ⟨h', tk, by rw [e]⟩
    refine ⟨⟨S.top0.keeps keep', S.sat.gl, S.sat.bi, kd, fun b hb => ?_, fun y sl' e => ?_⟩, S.top0, same', keep', S.base, ⟨hLm, hL0, hns⟩, fun y c e => ⟨(S.cel y c e).1, (S.cel y c e).2.1, hcl y c e⟩, S.cels, S.apart, fun y l e => ?_, fun y z l l' e e' hyz => ?_, fun b hrb => ?_⟩
    · by_cases h : b = a
      · subst h; exact hlive
      · obtain ⟨o, e⟩ := S.sat.live b hb; exact ⟨o, up b o h e⟩
    · by_cases h : y = x
      · subst h
        rw [lookup_cons_self] at e; cases e
        exact ⟨w, hx, slot_same q hs ha hnex⟩
      · rw [lookup_cons_ne h] at e
        obtain ⟨w', h1, h2⟩ := S.sat.vars y sl' e
        exact ⟨w', hold y w' h h1, slot_same h2 hs ha fun l e' => hne y l (e' ▸ e)⟩
    · by_cases h : y = x
      · subst h
        rw [lookup_cons_self] at e; cases e
        exact (ho l rfl).1
      · rw [lookup_cons_ne h] at e
        exact S.own y l e
    · by_cases h : y = x
      · subst h
        rw [lookup_cons_self] at e; cases e
        have h2 : z ≠ y := fun h => hyz h.symm
        rw [lookup_cons_ne h2] at e'
        exact (ho l rfl).2.1 z l' h2 e'
      · rw [lookup_cons_ne h] at e
        by_cases h2 : z = x
        · subst h2
          rw [lookup_cons_self] at e'; cases e'
          exact fun h3 => (ho l' rfl).2.1 y l h e h3.symm
        · rw [lookup_cons_ne h2] at e'
          exact S.ownA y z l l' e e' hyz
    · obtain ⟨a1, a2, a3, a4, a5⟩ := S.res b hrb
      refine ⟨a1, a2, a3, a4, fun y l e => ?_⟩
      by_cases h : y = x
      · subst h
        rw [lookup_cons_self] at e; cases e
        exact (ho l rfl).2.2 b hrb
      · rw [lookup_cons_ne h] at e
        exact a5 y l e
  rcases hb with hl | ⟨hc, hcd⟩
  · -- a local of the dict
    have hl' : env.kindOf x = some .local := hl
    refine wpAny_storeName_local hl' hLn (fun h' hn' hs' => ?_) (by rw [kd]; rfl)
    refine fin env.locals h' _ hs' hLm hL0 (fun its hL => ns_ne_list hLn hL rfl) (fun hr => (S.res _ hr).2.2.1 rfl) (fun y w' hne hy => ?_) ?_ ⟨_, hn'⟩ (fun y c e => ?_) (by obtain ⟨o, _, _, e, _⟩ := hn'; exact ⟨o, e⟩)
    · rcases hy with ⟨k1, m1, k2, k3⟩ | ⟨k1, k2, c, k3, k4⟩
      · refine .inl ⟨k1, _, hn', ?_⟩
        have : m1 y = m y := by
          obtain ⟨o, es, ep, ho1, hd1, _, hm1⟩ := k2
          obtain ⟨o', es', ep', ho2, hd2, _, hm2⟩ := hLn
          rw [ho1] at ho2; cases ho2
          rw [hd1] at hd2; cases hd2
          rw [← hm1, ← hm2]
        simp only [if_neg hne]
        rw [← this]; exact k3
      · exact .inr ⟨k1, k2, c, k3, isCell_same k4 hs' (Ne.symm (ns_ne_cell hLn k4))⟩
    · exact .inl ⟨hl', _, hn', by simp⟩
    · obtain ⟨_, _, v, hv⟩ := S.cel y c e
      exact ⟨v, isCell_same hv hs' (Ne.symm (ns_ne_cell hLn hv))⟩
  · -- a cell
    have hc' : env.kindOf x = some .cell := hc
    obtain ⟨c, hcx⟩ := S.cels x hc'
    obtain ⟨hcm, hc0, v, hv⟩ := S.cel x c hcx
    refine wpAny_storeName_cell kd hc' hcx hv fun h' hc1 hs' => ?_
    refine fin c h' _ hs' hcm hc0 (fun its hL => cell_ne_list hv hL rfl) (fun hr => (S.res _ hr).2.2.2.1 x hcx) (fun y w' hne hy => ?_) ?_ ⟨m, hLn.sameBut hs' (ns_ne_cell hLn hv)⟩ (fun y c' e => ?_) (by obtain ⟨o, e, _⟩ := hc1; exact ⟨o, e⟩)
    · rcases hy with ⟨k1, m1, k2, k3⟩ | ⟨k1, k2, c', k3, k4⟩
      · exact .inl ⟨k1, m1, k2.sameBut hs' (ns_ne_cell k2 hv), k3⟩
      · refine .inr ⟨k1, k2, c', k3, isCell_same k4 hs' ?_⟩
        rintro rfl
        exact hne (S.apart y x c' k3 hcx)
    · exact .inr ⟨.inl hc', hcd, c, hcx, hc1⟩
    · by_cases h : c' = c
      · subst h; exact ⟨_, hc1⟩
      · obtain ⟨_, _, v', hv'⟩ := S.cel y c' e
        exact ⟨v', isCell_same hv' hs' h⟩

/-- only addresses of X have been changed, and X is the frame's to lend: all stands -/
theorem SatF.lent {C : Cx} {M : Addr → Prop} {ad : Str → Addr} {env : Env} {s₀ : Shared} {M₀ rs X : Addr → Prop} {ρ : Lc} {s s' : Shared} (S : SatF C M ad env s₀ M₀ rs ρ s) (hX : ∀ a, X a → rs a)
    (same : ∃ h tk, s' = { s with heap := h, toks := tk }) (up : ∀ b o, ¬ X b → s.heap.get? b = some o → s'.heap.get? b = some o) (live : ∀ a, X a → ∃ o, s'.heap.get? a = some o) : SatF C M ad env s₀ M₀ rs ρ s' := by
  have keep' : ∀ b o, s₀.heap.get? b = some o → s'.heap.get? b = some o := fun b o e => up b o (fun h => by rw [(S.res b (hX b h)).2.1] at e; cases e) (S.keep b o e)
  have hL : ¬ X env.locals := fun h => (S.res _ (hX _ h)).2.2.1 rfl
  have hc : ∀ x c, env.cells.lookup x = some c → ¬ X c := fun x c e h => (S.res _ (hX _ h)).2.2.2.1 x e
  have holds : ∀ x w, Holds s.heap env x w → Holds s'.heap env x w := by
    rintro x w (⟨k1, m, k2, k3⟩ | ⟨k1, k2, c, k3, k4⟩)
    · exact .inl ⟨k1, m, k2.at' fun o e => up _ o hL e, k3⟩
    · exact .inr ⟨k1, k2, c, k3, by obtain ⟨o, ho, hd⟩ := k4; exact ⟨o, up _ o (hc x c k3) ho, hd⟩⟩
  refine ⟨⟨S.top0.keeps keep', S.sat.gl, S.sat.bi, S.sat.kd, fun a ha => ?_, fun x sl e => ?_⟩, S.top0, ?_, keep', S.base, ⟨S.loc.1, S.loc.2.1, ?_⟩, fun x c e => ⟨(S.cel x c e).1, (S.cel x c e).2.1, ?_⟩, S.cels, S.apart, S.own, S.ownA, S.res⟩
  · by_cases h : X a
    · exact live a h
    · obtain ⟨o, e⟩ := S.sat.live a ha; exact ⟨o, up a o h e⟩
  · obtain ⟨w, h1, h2⟩ := S.sat.vars x sl e
    refine ⟨w, holds x w h1, ?_⟩
    cases sl with
    | sh v => exact Rep.mono (v := v) (fun b o hb e => up b o (fun h => hb (S.res b (hX b h)).1) e) (fun _ _ hb _ => hb) h2
    | own l =>
      obtain ⟨rfl, hM, ws, hl, hr⟩ := h2
      exact ⟨rfl, hM, ws, isList_agree hl fun o e' => up _ o (fun h => (S.res _ (hX _ h)).2.2.2.2 x l e rfl) e', hr.mono (fun b o hb e => up b o (fun h => hb (S.res b (hX b h)).1) e) (fun _ _ hb _ => hb)⟩
    | raw w' => exact h2
  · obtain ⟨h, tk, e⟩ := S.same
    obtain ⟨h', tk', e'⟩ := same
    exact ⟨h', tk', by rw [e', e]⟩
  · obtain ⟨m, q⟩ := S.loc.2.2; exact ⟨m, q.at' fun o e => up _ o hL e⟩
  · obtain ⟨_, _, v, o, ho, hd⟩ := S.cel x c e; exact ⟨v, o, up _ o (hc x c e) ho, hd⟩

/-- fresh addresses are taken in (and lent) -/
theorem SatF.take {C : Cx} {M : Addr → Prop} {ad : Str → Addr} {env : Env} {s₀ : Shared} {M₀ rs X : Addr → Prop} {ρ : Lc} {s s' : Shared} (S : SatF C M ad env s₀ M₀ rs ρ s) (k : Keeps s s')
    (fresh : ∀ a, X a → s.heap.get? a = none) (live : ∀ a, X a → ∃ o, s'.heap.get? a = some o) : SatF C (fun a => M a ∨ X a) ad env s₀ M₀ (fun a => rs a ∨ X a) ρ s' := by
  have S' := S.keeps k
  have ne : ∀ a b o, s.heap.get? a = some o → X b → a ≠ b := fun a b o e hb h => by subst h; rw [fresh _ hb] at e; cases e
  refine ⟨⟨S'.sat.top, S.sat.gl, S.sat.bi, S.sat.kd, fun a ha => ?_, fun x sl e => ?_⟩, S.top0, S'.same, S'.keep, fun a m => ⟨.inl (S.base a m).1, (S.base a m).2⟩, ⟨.inl S.loc.1, S'.loc.2⟩, fun x c e => ⟨.inl (S.cel x c e).1, (S'.cel x c e).2⟩, S.cels, S.apart, S.own, S.ownA, fun a ha => ?_⟩
  · rcases ha with h | h
    · exact S'.sat.live a h
    · exact live a h
  · obtain ⟨w, h1, h2⟩ := S.sat.vars x sl e
    refine ⟨w, h1.keeps (kh k), ?_⟩
    have ag : Agree M s.heap s'.heap := fun b o _ e => kh k b o e
    have sub : ∀ b o, ¬ M b → s.heap.get? b = some o → ¬ (M b ∨ X b) := fun b o hb e h => h.elim hb fun h => ne b b o e h rfl
    cases sl with
    | sh v => exact Rep.mono (v := v) ag sub h2
    | own l =>
      obtain ⟨rfl, hM, ws, hl, hr⟩ := h2
      exact ⟨rfl, .inl hM, ws, isList_agree hl (kh k _), hr.mono ag sub⟩
    | raw w' => exact h2
  · rcases ha with h | h
    · obtain ⟨a1, a2, a3, a4, a5⟩ := S.res a h
      exact ⟨.inl a1, a2, a3, a4, a5⟩
    · refine ⟨.inr h, ?_, ?_, fun x e => ?_, fun x l e => ?_⟩
      · cases q : s₀.heap.get? a with
        | none => rfl
        | some o => have := S.keep a o q; rw [fresh a h] at this; cases this
      · obtain ⟨m, o, _, _, ho, _⟩ := S.loc.2.2
        exact fun e => ne _ _ o ho h e.symm
      · obtain ⟨_, _, v, o, ho, _⟩ := S.cel x a e
        exact ne _ _ o ho h rfl
      · obtain ⟨w, _, _, _, ws, ⟨_, ho⟩, _⟩ := S.sat.vars x _ e
        exact ne _ _ _ ho h

/-- what was lent is given up -/
theorem SatF.drop {C : Cx} {M : Addr → Prop} {ad : Str → Addr} {env : Env} {s₀ : Shared} {M₀ rs rs' X : Addr → Prop} {ρ : Lc} {s s' : Shared} (S : SatF C M ad env s₀ M₀ rs ρ s) (hX : ∀ a, X a → rs a)
    (hrs : ∀ a, rs' a → rs a ∧ ¬ X a) (hb : ∀ a, M₀ a → ¬ X a)
    (same : ∃ h tk, s' = { s with heap := h, toks := tk }) (up : ∀ b o, ¬ X b → s.heap.get? b = some o → s'.heap.get? b = some o) : SatF C (fun a => M a ∧ ¬ X a) ad env s₀ M₀ rs' ρ s' := by
  have keep' : ∀ b o, s₀.heap.get? b = some o → s'.heap.get? b = some o := fun b o e => up b o (fun h => by rw [(S.res b (hX b h)).2.1] at e; cases e) (S.keep b o e)
  have hL : ¬ X env.locals := fun h => (S.res _ (hX _ h)).2.2.1 rfl
  have hc : ∀ x c, env.cells.lookup x = some c → ¬ X c := fun x c e h => (S.res _ (hX _ h)).2.2.2.1 x e
  have holds : ∀ x w, Holds s.heap env x w → Holds s'.heap env x w := by
    rintro x w (⟨k1, m, k2, k3⟩ | ⟨k1, k2, c, k3, k4⟩)
    · exact .inl ⟨k1, m, k2.at' fun o e => up _ o hL e, k3⟩
    · exact .inr ⟨k1, k2, c, k3, by obtain ⟨o, ho, hd⟩ := k4; exact ⟨o, up _ o (hc x c k3) ho, hd⟩⟩
  have ag : Agree M s.heap s'.heap := fun b o hb e => up b o (fun h => hb (S.res b (hX b h)).1) e
  have sub : ∀ b o, ¬ M b → s.heap.get? b = some o → ¬ (M b ∧ ¬ X b) := fun b o hb _ h => hb h.1
  refine ⟨⟨S.top0.keeps keep', S.sat.gl, S.sat.bi, S.sat.kd, fun a ha => ?_, fun x sl e => ?_⟩, S.top0, ?_, keep', fun a m => ⟨⟨(S.base a m).1, hb a m⟩, (S.base a m).2⟩, ⟨⟨S.loc.1, hL⟩, S.loc.2.1, ?_⟩, fun x c e => ⟨⟨(S.cel x c e).1, hc x c e⟩, (S.cel x c e).2.1, ?_⟩, S.cels, S.apart, S.own, S.ownA, fun a ha => ?_⟩
  · obtain ⟨o, e⟩ := S.sat.live a ha.1; exact ⟨o, up a o ha.2 e⟩
  · obtain ⟨w, h1, h2⟩ := S.sat.vars x sl e
    refine ⟨w, holds x w h1, ?_⟩
    cases sl with
    | sh v => exact Rep.mono (v := v) ag sub h2
    | own l =>
      obtain ⟨rfl, hM, ws, hl, hr⟩ := h2
      have hn : ¬ X (ad x) := fun h => (S.res _ (hX _ h)).2.2.2.2 x l e rfl
      exact ⟨rfl, ⟨hM, hn⟩, ws, isList_agree hl fun o e' => up _ o hn e', hr.mono ag sub⟩
    | raw w' => exact h2
  · obtain ⟨h, tk, e⟩ := S.same
    obtain ⟨h', tk', e'⟩ := same
    exact ⟨h', tk', by rw [e', e]⟩
  · obtain ⟨m, q⟩ := S.loc.2.2; exact ⟨m, q.at' fun o e => up _ o hL e⟩
  · obtain ⟨_, _, v, o, ho, hd⟩ := S.cel x c e; exact ⟨v, o, up _ o (hc x c e) ho, hd⟩
  · obtain ⟨h1, h2⟩ := hrs a ha
    obtain ⟨a1, a2, a3, a4, a5⟩ := S.res a h1
    exact ⟨⟨a1, h2⟩, a2, a3, a4, a5⟩

/-! text ML6 -/
inductive Out (σ : Type) where
  | cont (x : σ)
  | ret (v : Val)

def FlOK {σ : Type} (h : Heap) (M : Addr → Prop) : Out σ → Flow → Prop
  | .cont _, f => f = .next
  | .ret v, f => ∃ w, f = .ret w ∧ Rep h M v w
def lcOf {σ : Type} (emb : σ → Lc) : Out σ → Lc
  | .cont x => emb x
  | .ret _ => []

def Bk {σ : Type} (C : Cx) (n : Nat) (sc : Scope) (ρ : Lc) (ss : List Stmt) (emb : σ → Lc) (o : Option (Out σ)) : Prop :=
  ∀ r, o = some r → ∀ (A : Around) (env : Env) (ad : Str → Addr) (M : Addr → Prop) (s₀ : Shared) (M₀ rs : Addr → Prop) (s : Shared) (Q : Flow → Shared → Prop) (E : Value → Shared → Prop),
    Room A n → env.scope = sc → SatF C M ad env s₀ M₀ rs ρ s →
    (∀ f M' ad' s', Step M rs s M' s' → SatF C M' ad' env s₀ M₀ rs (lcOf emb r) s' → FlOK s'.heap M' r f → Q f s') → wpAny (model C.prog C.w) A (execs ss env) Q E s

def Sub (ρ' ρ : Lc) : Prop := ∀ x sl, ρ'.lookup x = some sl → ρ.lookup x = some sl

theorem Bk.nil {σ : Type} {C : Cx} {n : Nat} {sc : Scope} {ρ : Lc} {emb : σ → Lc} {x : σ} (h : Sub (emb x) ρ) : Bk C n sc ρ [] emb (some (.cont x)) := by
  intro r e A env ad M s₀ M₀ rs s Q E ro hs S hQ
  cases e
  exact wpAny_execs_nil (hQ _ M ad s (Step.refl ..) (S.weaken h) rfl)

theorem Bk.ret {σ : Type} {C : Cx} {n : Nat} {sc : Scope} {ρ : Lc} {emb : σ → Lc} {e : Expr} {pos : Pos} {rest : List Stmt} {oe : Option Val} (he : Ev C n sc ρ e oe) :
    Bk C n sc ρ (.Return (some e) pos :: rest) emb (oe.bind fun v => some (.ret v)) := by
  intro r q A env ad M s₀ M₀ rs s Q E ro hs S hQ
  obtain ⟨v, hv, q⟩ := obind q
  cases q
  refine wpAny_execs_cons (wpAny_Return_some (he v hv A env ad M s _ E ro hs S.sat fun w s1 k1 q1 => ?_))
  exact hQ _ M ad s1 (Step.keeps k1) ((S.keeps k1).weaken fun _ _ h => by cases h) ⟨w, rfl, q1⟩

def seqO {σ τ : Type} (o : Option (Out τ)) (k : τ → Option (Out σ)) : Option (Out σ) := o.bind fun r => match r with
  | .cont x => k x
  | .ret v => some (.ret v)
theorem seqO_some {σ τ : Type} {o : Option (Out τ)} {k : τ → Option (Out σ)} {r : Out σ} (h : seqO o k = some r) : (∃ x, o = some (.cont x) ∧ k x = some r) ∨ (∃ v, o = some (.ret v) ∧ r = .ret v) := by
  unfold seqO at h
  obtain ⟨q, e, h⟩ := obind h
  cases q with
  | cont x => exact .inl ⟨x, e, h⟩
  | ret v => cases h; exact .inr ⟨v, e, rfl⟩

/-- one statement that ends as a block does, and what follows it -/
theorem Bk.seq {σ τ : Type} {C : Cx} {n : Nat} {sc : Scope} {ρ : Lc} {emb : σ → Lc} {embt : τ → Lc} {st : Stmt} {rest : List Stmt} {o : Option (Out τ)} {k : τ → Option (Out σ)}
    (h : ∀ r, o = some r → ∀ (A : Around) (env : Env) (ad : Str → Addr) (M : Addr → Prop) (s₀ : Shared) (M₀ rs : Addr → Prop) (s : Shared) (Q : Flow → Shared → Prop) (E : Value → Shared → Prop),
      Room A n → env.scope = sc → SatF C M ad env s₀ M₀ rs ρ s →
      (∀ f M' ad' s', Step M rs s M' s' → SatF C M' ad' env s₀ M₀ rs (lcOf embt r) s' → FlOK s'.heap M' r f → Q f s') → wpAny (model C.prog C.w) A (exec st env) Q E s)
    (hk : ∀ x, Bk C n sc (embt x) rest emb (k x)) : Bk C n sc ρ (st :: rest) emb (seqO o k) := by
  intro r q A env ad M s₀ M₀ rs s Q E ro hs S hQ
  rcases seqO_some q with ⟨x, e, q⟩ | ⟨v, e, rfl⟩
  · refine wpAny_execs_cons (h _ e A env ad M s₀ M₀ rs s _ E ro hs S fun f M' ad' s' st S' hf => ?_)
    cases hf
    exact hk x r q A env ad' M' s₀ M₀ rs s' Q E ro hs S' fun f M'' ad'' s'' st' S'' hf => hQ f M'' ad'' s'' (st.trans st') S'' hf
  · refine wpAny_execs_cons (h _ e A env ad M s₀ M₀ rs s _ E ro hs S fun f M' ad' s' st S' hf => ?_)
    obtain ⟨w, rfl, hw⟩ := hf
    exact hQ _ M' ad' s' st S' ⟨w, rfl, hw⟩

theorem Bk.ifte {σ τ : Type} {C : Cx} {n : Nat} {sc : Scope} {ρ : Lc} {emb : σ → Lc} (embt : τ → Lc) {c : Expr} {b1 b2 rest : List Stmt} {pos : Pos} {oc : Option Bool} {o1 o2 : Option (Out τ)} {k : τ → Option (Out σ)}
    (hc : Tst C n sc ρ c oc) (h1 : Bk C n sc ρ b1 embt o1) (h2 : Bk C n sc ρ b2 embt o2) (hk : ∀ x, Bk C n sc (embt x) rest emb (k x)) :
    Bk C n sc ρ (.If c b1 b2 pos :: rest) emb (seqO (oc.bind fun b => if b then o1 else o2) k) := by
  refine Bk.seq (embt := embt) (fun r q A env ad M s₀ M₀ rs s Q E ro hs S hQ => ?_) hk
  obtain ⟨b, hb, q⟩ := obind q
  refine wpAny_If (hc b hb A env ad M s _ E ro hs S.sat fun s1 k1 => ?_)
  cases b with
  | true => exact h1 r q A env ad M s₀ M₀ rs s1 Q E ro hs (S.keeps k1) fun f M' ad' s' st => hQ f M' ad' s' ((Step.keeps k1).trans st)
  | false => exact h2 r q A env ad M s₀ M₀ rs s1 Q E ro hs (S.keeps k1) fun f M' ad' s' st => hQ f M' ad' s' ((Step.keeps k1).trans st)

/-- an if that is not taken -/
theorem Bk.ifno {σ : Type} {C : Cx} {n : Nat} {sc : Scope} {ρ : Lc} {emb : σ → Lc} {c : Expr} {b1 rest : List Stmt} {pos : Pos} {oc : Option Bool} {o : Option (Out σ)}
    (hc : Tst C n sc ρ c oc) (hk : Bk C n sc ρ rest emb o) : Bk C n sc ρ (.If c b1 [] pos :: rest) emb (oc.bind fun b => if b then none else o) := by
  intro r q A env ad M s₀ M₀ rs s Q E ro hs S hQ
  obtain ⟨b, hb, q⟩ := obind q
  cases b with
  | true => cases q
  | false =>
    refine wpAny_execs_cons (wpAny_If (hc false hb A env ad M s _ E ro hs S.sat fun s1 k1 => ?_))
    refine wpAny_execs_nil ?_
    exact hk r q A env ad M s₀ M₀ rs s1 Q E ro hs (S.keeps k1) fun f M' ad' s' st => hQ f M' ad' s' ((Step.keeps k1).trans st)

/-! stores of names -/
def isOwn : Slot → Bool
  | .own _ => true
  | _ => false
def extM (M : Addr → Prop) (sl : Slot) (a : Addr) : Addr → Prop := fun b => M b ∨ (isOwn sl = true ∧ b = a)
def allInt : List Val → Bool
  | [] => true
  | .int _ :: l => allInt l
  | _ :: _ => false
theorem RepL.ints {h h' : Heap} {M M' : Addr → Prop} : ∀ {l : List Val} {ws : List Value}, allInt l = true → RepL h M l ws → RepL h' M' l ws
  | [], _, _, x => by simpa only [RepL] using x
  | .int i :: l, _, e, x => by
    simp only [RepL, Rep] at x ⊢
    obtain ⟨w, r, rfl, h1, h2⟩ := x
    exact ⟨w, r, rfl, h1, RepL.ints (by simpa [allInt] using e) h2⟩
  | .bool _ :: _, _, e, _ => by simp [allInt] at e
  | .none :: _, _, e, _ => by simp [allInt] at e
  | .list _ :: _, _, e, _ => by simp [allInt] at e
  | .tup _ :: _, _, e, _ => by simp [allInt] at e

def EvS (C : Cx) (n : Nat) (sc : Scope) (ρ : Lc) (e : Expr) (o : Option Slot) : Prop :=
  ∀ sl, o = some sl → ∀ (A : Around) (env : Env) (ad : Str → Addr) (M : Addr → Prop) (s₀ : Shared) (M₀ rs : Addr → Prop) (s : Shared) (Q E : Value → Shared → Prop),
    Room A n → env.scope = sc → SatF C M ad env s₀ M₀ rs ρ s →
    (∀ w a s', Keeps s s' → (isOwn sl = true → s.heap.get? a = none) → SatF C (extM M sl a) ad env s₀ M₀ (extM rs sl a) ρ s' → SlotOK s'.heap (extM M sl a) a sl w → Q w s') →
    wpAny (model C.prog C.w) A (eval e env) Q E s

theorem extM_sh (M : Addr → Prop) (v : Val) (a : Addr) : extM M (.sh v) a = M := by funext b; simp [extM, isOwn]
theorem extM_own (M : Addr → Prop) (l : List Val) (a : Addr) : extM M (.own l) a = fun b => M b ∨ b = a := by funext b; simp [extM, isOwn]

theorem EvS.sh {C : Cx} {n : Nat} {sc : Scope} {ρ : Lc} {e : Expr} {o : Option Val} (h : Ev C n sc ρ e o) : EvS C n sc ρ e (o.bind fun v => some (.sh v)) := by
  intro sl q A env ad M s₀ M₀ rs s Q E ro hs S hQ
  obtain ⟨v, hv, q⟩ := obind q
  cases q
  refine h v hv A env ad M s Q E ro hs S.sat fun w s1 k1 q1 => hQ w 0 s1 k1 (by simp [isOwn]) ?_ ?_
  · rw [extM_sh, extM_sh]; exact S.keeps k1
  · rw [extM_sh]; exact q1
theorem EvS.own {C : Cx} {n : Nat} {sc : Scope} {ρ : Lc} {e : Expr} {o : Option (List Val)} (h : EvN C n sc ρ e o) : EvS C n sc ρ e (o.bind fun l => if allInt l then some (.own l) else none) := by
  intro sl q A env ad M s₀ M₀ rs s Q E ro hs S hQ
  obtain ⟨l, hl, q⟩ := obind q
  split at q
  · rename_i hi
    cases q
    refine h l hl A env ad M s Q E ro hs S.sat fun a ws s1 k1 ha hls hr => hQ _ a s1 k1 (fun _ => ha) ?_ ?_
    · rw [extM_own, extM_own]
      exact S.take k1 (fun b e => by subst e; exact ha) (fun b e => by subst e; obtain ⟨_, ho⟩ := hls; exact ⟨_, ho⟩)
    · rw [extM_own]
      exact ⟨rfl, .inr rfl, ws, hls, RepL.ints hi hr⟩
  · cases q

theorem SatF.less {C : Cx} {M : Addr → Prop} {ad ad' : Str → Addr} {env : Env} {s₀ : Shared} {M₀ rs rs' : Addr → Prop} {ρ : Lc} {s : Shared} (S : SatF C M ad env s₀ M₀ rs ρ s) (h : ∀ a, rs' a → rs a)
    (ha : ∀ y l, ρ.lookup y = some (.own l) → ad' y = ad y) : SatF C M ad' env s₀ M₀ rs' ρ s where
  sat := ⟨S.sat.top, S.sat.gl, S.sat.bi, S.sat.kd, S.sat.live, fun x sl e => by
    obtain ⟨w, h1, h2⟩ := S.sat.vars x sl e
    refine ⟨w, h1, ?_⟩
    cases sl with
    | sh v => exact h2
    | own l => rw [ha x l e]; exact h2
    | raw w => exact h2⟩
  top0 := S.top0
  same := S.same
  keep := S.keep
  base := S.base
  loc := S.loc
  cel := S.cel
  cels := S.cels
  apart := S.apart
  own := fun x l e => by rw [ha x l e]; exact S.own x l e
  ownA := fun x y l l' e e' hne => by rw [ha x l e, ha y l' e']; exact S.ownA x y l l' e e' hne
  res := fun a q => by
    obtain ⟨a1, a2, a3, a4, a5⟩ := S.res a (h a q)
    exact ⟨a1, a2, a3, a4, fun x l e => by rw [ha x l e]; exact a5 x l e⟩

def notOwn (ρ : Lc) (x : Str) : Bool := match ρ.lookup x with
  | some (.own _) => false
  | _ => true

/-- a slot that waits (its list, if it is one of the frame's own, is lent) is bound to a name -/
theorem SatF.bind {C : Cx} {M : Addr → Prop} {ad : Str → Addr} {env : Env} {s₀ : Shared} {M₀ rs rs' : Addr → Prop} {ρ : Lc} {s : Shared} {x : Str} {sl : Slot} {w : Value} {a : Addr} {A : Around} {Q : Unit → Shared → Prop} {E : Value → Shared → Prop}
    (S : SatF C M ad env s₀ M₀ rs ρ s) (hb : Bindable env.scope x) (hno : notOwn ρ x = true) (q : SlotOK s.heap M a sl w) (hr : isOwn sl = true → rs a) (hrs : ∀ b, rs' b → rs b ∧ (isOwn sl = true → b ≠ a))
    (hQ : ∀ ad' s', Step M rs' s M s' → SatF C M ad' env s₀ M₀ rs' ((x, sl) :: ρ) s' → Q () s') : wpAny (model C.prog C.w) A (storeName env x w) Q E s := by
  have had : ∀ y l, ρ.lookup y = some (.own l) → (fun y => if y = x then a else ad y) y = ad y := fun y l e => by
    have : y ≠ x := by
      rintro rfl
      unfold notOwn at hno
      rw [e] at hno; cases hno
    simp [this]
  have S' := S.less (ad' := fun y => if y = x then a else ad y) (rs' := rs') (fun b h => (hrs b h).1) had
  refine S'.store hb (sl := sl) (by simpa using q) (fun l e => ?_) fun s' st S'' => hQ _ s' st S''
  subst e
  obtain ⟨a1, a2, a3, a4, a5⟩ := S.res a (hr rfl)
  refine ⟨by simpa using a2, fun y l' hne e' => ?_, fun b hb' => ?_⟩
  · simp only [if_pos, if_neg hne]
    exact fun h => a5 y l' e' h.symm
  · simp only [if_pos]
    exact fun h => (hrs b hb').2 rfl h.symm

theorem Bk.asg {σ : Type} {C : Cx} {n : Nat} {sc : Scope} {ρ : Lc} {emb : σ → Lc} {x : Str} {px pos : Pos} {e : Expr} {rest : List Stmt} {o : Option Slot} {k : Slot → Option (Out σ)}
    (he : EvS C n sc ρ e o) (hk : ∀ sl, Bk C n sc ((x, sl) :: ρ) rest emb (k sl)) (hx : Bindable sc x) (hno : notOwn ρ x = true)
    (hs : ∀ env : Env, swapsWith e (some (.Name x px)) pos.line env = pure false) : Bk C n sc ρ (.Assign [.Name x px] e pos :: rest) emb (o.bind k) := by
  intro r q A env ad M s₀ M₀ rs s Q E ro hsc S hQ
  obtain ⟨sl, hsl, q⟩ := obind q
  refine wpAny_execs_cons (wpAny_Assign_Name (he sl hsl A env ad M s₀ M₀ rs s _ E ro hsc S fun w a s1 k1 hfr S1 q1 => ?_) (hs env))
  refine S1.bind (rs' := rs) (by rw [hsc]; exact hx) hno q1 (fun h => .inr ⟨h, rfl⟩) (fun b hb => ⟨.inl hb, fun h => ?_⟩) fun ad' s' st S' => ?_
  · rintro rfl
    obtain ⟨o, e⟩ := S.sat.live _ (S.res _ hb).1
    rw [hfr h] at e; cases e
  · have st1 : Step M rs s (extM M sl a) s1 := ⟨fun b hb => hb.imp id fun h => by obtain ⟨h1, rfl⟩ := h; exact hfr h1, fun b o _ e => kh k1 b o e⟩
    exact hk sl r q A env ad' _ s₀ M₀ rs s' Q E ro hsc S' fun f M' ad'' s'' st'' => hQ f M' ad'' s'' ((st1.trans st).trans st'')

theorem Bk.assign {σ : Type} {C : Cx} {n : Nat} {sc : Scope} {ρ : Lc} {emb : σ → Lc} {x : Str} {px pos : Pos} {e : Expr} {rest : List Stmt} {oe : Option Val} {k : Val → Option (Out σ)}
    (he : Ev C n sc ρ e oe) (hk : ∀ v, Bk C n sc ((x, .sh v) :: ρ) rest emb (k v)) (hx : Bindable sc x := by exact .inl rfl) (hno : notOwn ρ x = true := by rfl)
    (hs : ∀ env : Env, swapsWith e (some (.Name x px)) pos.line env = pure false := by intro _; rfl) : Bk C n sc ρ (.Assign [.Name x px] e pos :: rest) emb (oe.bind k) := by
  have h := Bk.asg (k := fun sl => match sl with | .sh v => k v | _ => none) (emb := emb) (rest := rest) (EvS.sh he) (fun sl => by
    cases sl with
    | sh v => exact hk v
    | own l => exact fun r e => by cases e
    | raw w => exact fun r e => by cases e) hx hno hs
  have e2 : ((oe.bind fun v => some (Slot.sh v)).bind fun sl => match sl with | .sh v => k v | _ => none) = oe.bind k := by cases oe <;> rfl
  rwa [e2] at h
theorem Bk.assignOwn {σ : Type} {C : Cx} {n : Nat} {sc : Scope} {ρ : Lc} {emb : σ → Lc} {x : Str} {px pos : Pos} {e : Expr} {rest : List Stmt} {oe : Option (List Val)} {k : List Val → Option (Out σ)}
    (he : EvN C n sc ρ e oe) (hk : ∀ v, Bk C n sc ((x, .own v) :: ρ) rest emb (k v)) (hx : Bindable sc x := by exact .inl rfl) (hno : notOwn ρ x = true := by rfl)
    (hs : ∀ env : Env, swapsWith e (some (.Name x px)) pos.line env = pure false := by intro _; rfl) : Bk C n sc ρ (.Assign [.Name x px] e pos :: rest) emb (oe.bind fun l => if allInt l then k l else none) := by
  have h := Bk.asg (k := fun sl => match sl with | .own v => k v | _ => none) (emb := emb) (rest := rest) (EvS.own he) (fun sl => by
    cases sl with
    | own v => exact hk v
    | sh l => exact fun r e => by cases e
    | raw w => exact fun r e => by cases e) hx hno hs
  have e2 : ((oe.bind fun l => if allInt l then some (Slot.own l) else none).bind fun sl => match sl with | .own v => k v | _ => none) = oe.bind fun l => if allInt l then k l else none := by
    cases oe with
    | none => rfl
    | some l => show ((if allInt l then some (Slot.own l) else none).bind _) = _; by_cases h : allInt l = true <;> simp [h]
  rwa [e2] at h

/-- a list that the frame owns becomes a value as any other -/
theorem Bk.freeze {σ : Type} {C : Cx} {n : Nat} {sc : Scope} {ρ : Lc} {emb : σ → Lc} {ss : List Stmt} {o : Option (Out σ)} (x : Str) {l : List Val} (hx : ρ.lookup x = some (.own l)) (h : Bk C n sc ((x, .sh (.list l)) :: ρ) ss emb o) : Bk C n sc ρ ss emb o := by
  intro r q A env ad M s₀ M₀ rs s Q E ro hs S hQ
  have hne : ∀ y l', y ≠ x → ρ.lookup y = some (.own l') → ad y ≠ ad x := fun y l' hy e => S.ownA y x l' l e hx hy
  obtain ⟨w, hw, rfl, hMx, ws, hl, hr⟩ := S.sat.vars x _ hx
  have hnL : env.locals ≠ ad x := by obtain ⟨m, q⟩ := S.loc.2.2; exact ns_ne_list q hl
  have hnC : ∀ y c, env.cells.lookup y = some c → c ≠ ad x := fun y c e => by obtain ⟨_, _, v, hv⟩ := S.cel y c e; exact cell_ne_list hv hl
  have hnR : ∀ b, rs b → b ≠ ad x := fun b hb h => (S.res b hb).2.2.2.2 x l hx h.symm
  have hnB : ∀ b, M₀ b → b ≠ ad x := fun b hb h => by
    obtain ⟨o, e⟩ := (S.base b hb).2
    rw [h, S.own x l hx] at e; cases e
  have ag : Agree M s.heap s.heap := fun _ _ _ e => e
  have S' : SatF C (fun b => M b ∧ b ≠ ad x) ad env s₀ M₀ rs ((x, .sh (.list l)) :: ρ) s := by
    refine ⟨⟨S.sat.top, S.sat.gl, S.sat.bi, S.sat.kd, fun b hb => S.sat.live b hb.1, fun y sl e => ?_⟩, S.top0, S.same, S.keep, fun b hb => ⟨⟨(S.base b hb).1, hnB b hb⟩, (S.base b hb).2⟩, ⟨⟨S.loc.1, hnL⟩, S.loc.2⟩, fun y c e => ⟨⟨(S.cel y c e).1, hnC y c e⟩, (S.cel y c e).2⟩, S.cels, S.apart, fun y l' e => ?_, fun y z l1 l2 e e' hyz => ?_, fun b hb => ?_⟩
    · by_cases hy : y = x
      · subst hy
        rw [lookup_cons_self] at e; cases e
        refine ⟨_, hw, ?_⟩
        simp only [SlotOK, Rep]
        exact ⟨_, ws, rfl, fun h => h.2 rfl, hl, hr.mono ag fun b o hb _ h => hb h.1⟩
      · rw [lookup_cons_ne hy] at e
        obtain ⟨w, h1, h2⟩ := S.sat.vars y sl e
        refine ⟨w, h1, ?_⟩
        cases sl with
        | sh v => exact Rep.mono (v := v) ag (fun b o hb _ h => hb h.1) h2
        | own l' =>
          obtain ⟨rfl, hM, ws', hl', hr'⟩ := h2
          exact ⟨rfl, ⟨hM, hne y l' hy e⟩, ws', hl', hr'.mono ag fun b o hb _ h => hb h.1⟩
        | raw w' => exact h2
    · by_cases hy : y = x
      · subst hy; rw [lookup_cons_self] at e; cases e
      · rw [lookup_cons_ne hy] at e; exact S.own y l' e
    · by_cases hy : y = x
      · subst hy; rw [lookup_cons_self] at e; cases e
      · rw [lookup_cons_ne hy] at e
        by_cases hz : z = x
        · subst hz; rw [lookup_cons_self] at e'; cases e'
        · rw [lookup_cons_ne hz] at e'; exact S.ownA y z l1 l2 e e' hyz
    · obtain ⟨a1, a2, a3, a4, a5⟩ := S.res b hb
      refine ⟨⟨a1, hnR b hb⟩, a2, a3, a4, fun y l' e => ?_⟩
      by_cases hy : y = x
      · subst hy; rw [lookup_cons_self] at e; cases e
      · rw [lookup_cons_ne hy] at e; exact a5 y l' e
  exact h r q A env ad _ s₀ M₀ rs s Q E ro hs S' fun f M' ad' s' st S'' hf => hQ f M' ad' s' ⟨fun b hb => (st.1 b hb).imp (fun h => h.1) id, fun b o hb e => st.2 b o (hb.imp (fun h h' => h h'.1) id) e⟩ S'' hf

/-! text ML7 -/
theorem Step.repL {M M' rs : Addr → Prop} {s s' : Shared} {l : List Val} {ws : List Value} (a : Step M rs s M' s') (x : RepL s.heap M l ws) : RepL s'.heap M' l ws :=
  x.mono (fun b o hm e => a.2 b o (.inl hm) e) fun b o hm e hm' => by
    rcases a.1 b hm' with h | h
    · exact hm h
    · rw [e] at h; cases h

/-- two names at once from a display of two (the compiler swaps the stores) -/
theorem Bk.asg2 {σ : Type} {C : Cx} {n : Nat} {sc : Scope} {ρ : Lc} {emb : σ → Lc} {x y : Str} {px py tp p2 pos : Pos} {k1 k2 : Nat} {e1 e2 : Expr} {rest : List Stmt} {o1 o2 : Option Slot} {k : Slot → Slot → Option (Out σ)}
    (h1 : EvS C n sc ρ e1 o1) (h2 : EvS C n sc ρ e2 o2) (hk : ∀ a b, Bk C n sc ((x, a) :: (y, b) :: ρ) rest emb (k a b)) (hx : Bindable sc x) (hy : Bindable sc y) (hnx : notOwn ρ x = true) (hny : notOwn ρ y = true) (hne : x ≠ y)
    (hp : PlainArgs e1 [e2] ∧ ∀ env, starEach [e2] env = [(false, eval e2 env)])
    (hw : ∀ env : Env, env.scope = sc → swappedStores [.Tuple [.Name x px, .Name y py] k1 tp] (.Tuple [e1, e2] k2 p2) env = pure (some [x, y])) :
    Bk C n sc ρ (.Assign [.Tuple [.Name x px, .Name y py] k1 tp] (.Tuple [e1, e2] k2 p2) pos :: rest) emb (o1.bind fun a => o2.bind fun b => k a b) := by
  intro r q A env ad M s₀ M₀ rs s Q E ro hsc S hQ
  obtain ⟨sa, hsa, q⟩ := obind q
  obtain ⟨sb, hsb, q⟩ := obind q
  refine wpAny_execs_cons (Assign_Tuple_swapped ?_ rfl (hw env hsc))
  refine wpAny_Tuple_spliced (args_cons (h1 sa hsa A env ad M s₀ M₀ rs s _ E ro hsc S fun w1 a1 s1 kp1 hf1 S1 q1 => ?_) (hp.1.1 env))
  refine args_cons (h2 sb hsb A env ad _ s₀ M₀ _ s1 _ E ro hsc S1 fun w2 a2 s2 kp2 hf2 S2 q2 => ?_) (hp.2 env)
  refine args_nil ⟨by rw [sizeLine_eq]; simp, ?_⟩
  -- the display
  have kp3 := keeps_push s2 { cls := .type "tuple", data := .seq (List.toArray [w1, w2]) } s2.toks
  refine wpAny_unpackItems_tuple (items := List.toArray [w1, w2]) ro.hd (isTuple_push _ _) fun h4 hx4 => ?_
  have kp4 : Keeps s2 { s2 with heap := h4 } := ⟨h4, s2.toks, rfl, fun b o e => hx4 b o (Nat.ne_of_lt (Nat.lt_of_lt_of_le (Heap.lt_size e) (by simp [Heap.size_push]))) (Heap.get?_push_of_some _ e)⟩
  generalize hs4 : ({ heap := h4, gens := s2.gens, drawn := s2.drawn, toks := s2.toks, os := s2.os } : Shared) = s4 at kp4
  have S4 := S2.keeps kp4
  have q2' := q2.keeps (kh kp4)
  have q1' : SlotOK s4.heap (extM (extM M sa a1) sb a2) a1 sa w1 := by
    have ag : Agree (extM M sa a1) s1.heap s4.heap := fun b o _ e => kh (kt kp2 kp4) b o e
    have sub : ∀ b o, ¬ extM M sa a1 b → s1.heap.get? b = some o → ¬ extM (extM M sa a1) sb a2 b := fun b o hb e h => by
      rcases h with h | ⟨h, rfl⟩
      · exact hb h
      · rw [hf2 h] at e; cases e
    cases sa with
    | sh v => exact Rep.mono (v := v) ag sub q1
    | own l =>
      obtain ⟨rfl, hM, ws, hl, hr⟩ := q1
      exact ⟨rfl, .inl hM, ws, isList_agree hl fun o e => kh (kt kp2 kp4) _ o e, hr.mono ag sub⟩
    | raw w => exact q1
  have live1 : ∀ b, extM rs sa a1 b → ∃ o, s1.heap.get? b = some o := fun b hb => S1.sat.live b (S1.res b hb).1
  show wpAny _ A (do holding [w1] (bindName env y w2); do holding [] (bindName env x w1); pure ()) _ _ _
  refine wpAny_bind (wpAny_holding (wpAny_bindName ?_))
  refine S4.bind (x := y) (sl := sb) (a := a2) (rs' := extM rs sa a1) (by rw [hsc]; exact hy) hny q2' (fun h => .inr ⟨h, rfl⟩) (fun b hb => ⟨.inl hb, fun h => ?_⟩) fun ad5 s5 st5 S5 => ?_
  · rintro rfl
    obtain ⟨o, e⟩ := live1 _ hb
    rw [hf2 h] at e; cases e
  · refine wpAny_bind (wpAny_holding (wpAny_bindName ?_))
    have q1'' : SlotOK s5.heap (extM (extM M sa a1) sb a2) a1 sa w1 := by
      cases sa with
      | sh v => exact st5.rep (v := v) q1'
      | own l =>
        obtain ⟨rfl, hM, ws, hl, hr⟩ := q1'
        exact ⟨rfl, hM, ws, isList_agree hl fun o e => st5.2 _ o (.inr (.inr ⟨rfl, rfl⟩)) e, st5.repL hr⟩
      | raw w => exact q1'
    have hnx' : notOwn ((y, sb) :: ρ) x = true := by
      unfold notOwn; rw [lookup_cons_ne hne]; exact hnx
    refine S5.bind (x := x) (sl := sa) (a := a1) (rs' := rs) (by rw [hsc]; exact hx) hnx' q1'' (fun h => .inr ⟨h, rfl⟩) (fun b hb => ⟨.inl hb, fun h => ?_⟩) fun ad6 s6 st6 S6 => ?_
    · rintro rfl
      obtain ⟨o, e⟩ := S.sat.live _ (S.res _ hb).1
      rw [hf1 h] at e; cases e
    · refine wpAny_pure ?_
      have st1 : Step M rs s (extM (extM M sa a1) sb a2) s4 := by
        refine ⟨fun b hb => ?_, fun b o _ e => kh (kt (kt kp1 kp2) kp4) b o e⟩
        rcases hb with (h | ⟨h, rfl⟩) | ⟨h, rfl⟩
        · exact .inl h
        · exact .inr (hf1 h)
        · refine .inr ?_
          cases e : s.heap.get? b with
          | none => rfl
          | some o => have := hf2 h; rw [kh kp1 b o e] at this; cases this
      have st := (st1.trans (st5.fewer fun b h => .inl h)).trans st6
      exact hk sa sb r q A env ad6 _ s₀ M₀ rs s6 Q E ro hsc S6 fun f M' ad' s' st' => hQ f M' ad' s' (st.trans st')

section
variable {σ : Type} {C : Cx} {n : Nat} {sc : Scope} {ρ : Lc} {emb : σ → Lc} {x y : Str} {px py tp p2 pos : Pos} {k1 k2 : Nat} {e1 e2 : Expr} {rest : List Stmt}
theorem Bk.assign2 {o1 o2 : Option Val} {k : Val → Val → Option (Out σ)}
    (h1 : Ev C n sc ρ e1 o1) (h2 : Ev C n sc ρ e2 o2) (hk : ∀ a b, Bk C n sc ((x, .sh a) :: (y, .sh b) :: ρ) rest emb (k a b)) (hw : ∀ env : Env, env.scope = sc → swappedStores [.Tuple [.Name x px, .Name y py] k1 tp] (.Tuple [e1, e2] k2 p2) env = pure (some [x, y]))
    (hne : x ≠ y := by decide) (hx : Bindable sc x := by exact .inl rfl) (hy : Bindable sc y := by exact .inl rfl) (hnx : notOwn ρ x = true := by rfl) (hny : notOwn ρ y = true := by rfl)
    (hp : PlainArgs e1 [e2] ∧ ∀ env, starEach [e2] env = [(false, eval e2 env)] := by exact ⟨⟨fun _ => rfl, fun _ _ => rfl⟩, fun _ => rfl⟩) :
    Bk C n sc ρ (.Assign [.Tuple [.Name x px, .Name y py] k1 tp] (.Tuple [e1, e2] k2 p2) pos :: rest) emb (o1.bind fun a => o2.bind fun b => k a b) := by
  have h := Bk.asg2 (k := fun a b => match a, b with | .sh u, .sh v => k u v | _, _ => none) (emb := emb) (rest := rest) (pos := pos) (EvS.sh h1) (EvS.sh h2) (fun a b => by
    cases a <;> cases b <;> first | exact hk _ _ | exact fun r e => by cases e) hx hy hnx hny hne hp hw
  have e2 : ((o1.bind fun v => some (Slot.sh v)).bind fun a => (o2.bind fun v => some (Slot.sh v)).bind fun b => match a, b with | .sh u, .sh v => k u v | _, _ => none) = o1.bind fun a => o2.bind fun b => k a b := by cases o1 <;> cases o2 <;> rfl
  rwa [e2] at h
theorem Bk.assign2oo {o1 o2 : Option (List Val)} {k : List Val → List Val → Option (Out σ)}
    (h1 : EvN C n sc ρ e1 o1) (h2 : EvN C n sc ρ e2 o2) (hk : ∀ a b, Bk C n sc ((x, .own a) :: (y, .own b) :: ρ) rest emb (k a b)) (hw : ∀ env : Env, env.scope = sc → swappedStores [.Tuple [.Name x px, .Name y py] k1 tp] (.Tuple [e1, e2] k2 p2) env = pure (some [x, y]))
    (hne : x ≠ y := by decide) (hx : Bindable sc x := by exact .inl rfl) (hy : Bindable sc y := by exact .inl rfl) (hnx : notOwn ρ x = true := by rfl) (hny : notOwn ρ y = true := by rfl)
    (hp : PlainArgs e1 [e2] ∧ ∀ env, starEach [e2] env = [(false, eval e2 env)] := by exact ⟨⟨fun _ => rfl, fun _ _ => rfl⟩, fun _ => rfl⟩) :
    Bk C n sc ρ (.Assign [.Tuple [.Name x px, .Name y py] k1 tp] (.Tuple [e1, e2] k2 p2) pos :: rest) emb (o1.bind fun a => if allInt a then o2.bind fun b => if allInt b then k a b else none else none) := by
  have h := Bk.asg2 (k := fun a b => match a, b with | .own u, .own v => k u v | _, _ => none) (emb := emb) (rest := rest) (pos := pos) (EvS.own h1) (EvS.own h2) (fun a b => by
    cases a <;> cases b <;> first | exact hk _ _ | exact fun r e => by cases e) hx hy hnx hny hne hp hw
  have e2 : ((o1.bind fun l => if allInt l then some (Slot.own l) else none).bind fun a => (o2.bind fun l => if allInt l then some (Slot.own l) else none).bind fun b => match a, b with | .own u, .own v => k u v | _, _ => none) =
      o1.bind fun a => if allInt a then o2.bind fun b => if allInt b then k a b else none else none := by
    cases o1 with
    | none => rfl
    | some a =>
      cases o2 with
      | none =>
        show ((if allInt a then some (Slot.own a) else none).bind _) = if allInt a then none else none
        by_cases ha : allInt a = true <;> simp [ha]
      | some b =>
        show ((if allInt a then some (Slot.own a) else none).bind _) = if allInt a then (if allInt b then k a b else none) else none
        by_cases ha : allInt a = true <;> by_cases hb : allInt b = true <;> simp [ha, hb]
  rwa [e2] at h
theorem Bk.assign2os {o1 : Option (List Val)} {o2 : Option Val} {k : List Val → Val → Option (Out σ)}
    (h1 : EvN C n sc ρ e1 o1) (h2 : Ev C n sc ρ e2 o2) (hk : ∀ a b, Bk C n sc ((x, .own a) :: (y, .sh b) :: ρ) rest emb (k a b)) (hw : ∀ env : Env, env.scope = sc → swappedStores [.Tuple [.Name x px, .Name y py] k1 tp] (.Tuple [e1, e2] k2 p2) env = pure (some [x, y]))
    (hne : x ≠ y := by decide) (hx : Bindable sc x := by exact .inl rfl) (hy : Bindable sc y := by exact .inl rfl) (hnx : notOwn ρ x = true := by rfl) (hny : notOwn ρ y = true := by rfl)
    (hp : PlainArgs e1 [e2] ∧ ∀ env, starEach [e2] env = [(false, eval e2 env)] := by exact ⟨⟨fun _ => rfl, fun _ _ => rfl⟩, fun _ => rfl⟩) :
    Bk C n sc ρ (.Assign [.Tuple [.Name x px, .Name y py] k1 tp] (.Tuple [e1, e2] k2 p2) pos :: rest) emb (o1.bind fun a => if allInt a then o2.bind fun b => k a b else none) := by
  have h := Bk.asg2 (k := fun a b => match a, b with | .own u, .sh v => k u v | _, _ => none) (emb := emb) (rest := rest) (pos := pos) (EvS.own h1) (EvS.sh h2) (fun a b => by
    cases a <;> cases b <;> first | exact hk _ _ | exact fun r e => by cases e) hx hy hnx hny hne hp hw
  have e2 : ((o1.bind fun l => if allInt l then some (Slot.own l) else none).bind fun a => (o2.bind fun v => some (Slot.sh v)).bind fun b => match a, b with | .own u, .sh v => k u v | _, _ => none) =
      o1.bind fun a => if allInt a then o2.bind fun b => k a b else none := by
    cases o1 with
    | none => rfl
    | some a =>
      cases o2 with
      | none =>
        show ((if allInt a then some (Slot.own a) else none).bind _) = if allInt a then none else none
        by_cases ha : allInt a = true <;> simp [ha]
      | some b =>
        show ((if allInt a then some (Slot.own a) else none).bind _) = if allInt a then k a b else none
        by_cases ha : allInt a = true <;> simp [ha]
  rwa [e2] at h
end

/-- three names from a tuple -/
theorem repL3 {h : Heap} {M : Addr → Prop} {v u t : Val} {ws : List Value} (x : RepL h M [v, u, t] ws) : ∃ a b c, ws = [a, b, c] ∧ Rep h M v a ∧ Rep h M u b ∧ Rep h M t c := by
  simp only [RepL] at x
  obtain ⟨w, r, rfl, h1, z, r', rfl, h2, y, r'', rfl, h3, rfl⟩ := x
  exact ⟨w, z, y, rfl, h1, h2, h3⟩
def tup3O {α : Type} (v : Val) (k : Val → Val → Val → Option α) : Option α := match v with
  | .tup [a, b, c] => k a b c
  | _ => none
theorem Bk.unpack3 {σ : Type} {C : Cx} {n : Nat} {sc : Scope} {ρ : Lc} {emb : σ → Lc} {x y z : Str} {px py pz tp pos : Pos} {k1 : Nat} {e : Expr} {rest : List Stmt} {o : Option Val} {k : Val → Val → Val → Option (Out σ)}
    (h : Ev C n sc ρ e o) (hk : ∀ a b c, Bk C n sc ((z, .sh c) :: (y, .sh b) :: (x, .sh a) :: ρ) rest emb (k a b c)) (hx : Bindable sc x := by exact .inl rfl) (hy : Bindable sc y := by exact .inl rfl) (hz : Bindable sc z := by exact .inl rfl)
    (hnx : notOwn ρ x = true := by rfl) (hny : notOwn ρ y = true := by rfl) (hnz : notOwn ρ z = true := by rfl) (hyx : y ≠ x := by decide) (hzx : z ≠ x := by decide) (hzy : z ≠ y := by decide)
    (hs : ∀ env : Env, swapsWithSole [.Tuple [.Name x px, .Name y py, .Name z pz] k1 tp] e pos.line env = pure false := by intro _; rfl)
    (hw : ∀ env : Env, swappedStores [.Tuple [.Name x px, .Name y py, .Name z pz] k1 tp] e env = pure none := by intro _; rfl) :
    Bk C n sc ρ (.Assign [.Tuple [.Name x px, .Name y py, .Name z pz] k1 tp] e pos :: rest) emb (o.bind fun v => tup3O v k) := by
  intro r q A env ad M s₀ M₀ rs s Q E ro hsc S hQ
  obtain ⟨v, hv, q⟩ := obind q
  unfold tup3O at q
  split at q
  · rename_i a b c
    refine wpAny_execs_cons (Assign_Tuple (h _ hv A env ad M s _ E ro hsc S.sat fun w s1 kp1 q1 => ?_) (hs env) (hw env))
    simp only [Rep] at q1
    obtain ⟨T, ws, rfl, hT, hl, hr⟩ := q1
    obtain ⟨wa, wb, wc, rfl, ra, rb, rc⟩ := repL3 hr
    refine wpAny_assign_Tuple ro.hd hl rfl rfl fun h2 hx2 => ?_
    have kp2 : Keeps s1 { s1 with heap := h2 } := ⟨h2, s1.toks, rfl, fun b o e => hx2 b o (Nat.ne_of_lt (Heap.lt_size e)) e⟩
    generalize hs2 : ({ heap := h2, gens := s1.gens, drawn := s1.drawn, toks := s1.toks, os := s1.os } : Shared) = s2 at kp2
    have S2 := S.keeps (kt kp1 kp2)
    have ra := ra.keep (kh kp2)
    have rb := rb.keep (kh kp2)
    have rc := rc.keep (kh kp2)
    show wpAny _ A (do holding [wb, wc] (PySem.assign (.Name x px) env wa); do holding [wc] (PySem.assign (.Name y py) env wb); do holding [] (PySem.assign (.Name z pz) env wc); pure ()) _ _ _
    refine wpAny_bind (wpAny_holding (wpAny_assign_Name ?_))
    refine S2.bind (x := x) (sl := .sh a) (a := 0) (rs' := rs) (by rw [hsc]; exact hx) hnx ra (fun h => by cases h) (fun b hb => ⟨hb, fun h => by cases h⟩) fun ad3 s3 st3 S3 => ?_
    refine wpAny_bind (wpAny_holding (wpAny_assign_Name ?_))
    refine S3.bind (x := y) (sl := .sh b) (a := 0) (rs' := rs) (by rw [hsc]; exact hy) (by unfold notOwn; rw [lookup_cons_ne hyx]; exact hny) (st3.rep rb) (fun h => by cases h) (fun b hb => ⟨hb, fun h => by cases h⟩) fun ad4 s4 st4 S4 => ?_
    refine wpAny_bind (wpAny_holding (wpAny_assign_Name ?_))
    refine S4.bind (x := z) (sl := .sh c) (a := 0) (rs' := rs) (by rw [hsc]; exact hz) (by unfold notOwn; rw [lookup_cons_ne hzy, lookup_cons_ne hzx]; exact hnz) (st4.rep (st3.rep rc)) (fun h => by cases h) (fun b hb => ⟨hb, fun h => by cases h⟩) fun ad5 s5 st5 S5 => ?_
    refine wpAny_pure ?_
    have st : Step M rs s M s5 := (((Step.keeps (kt kp1 kp2)).trans st3).trans st4).trans st5
    exact hk a b c r q A env ad5 M s₀ M₀ rs s5 Q E ro hsc S5 fun f M' ad' s' st' => hQ f M' ad' s' (st.trans st')
  · cases q

/-- `x += e` over ints -/
theorem Bk.augAdd {σ : Type} {C : Cx} {n : Nat} {sc : Scope} {ρ : Lc} {emb : σ → Lc} {x : Str} {px pos : Pos} {v0 : Val} {e : Expr} {rest : List Stmt} {o : Option Val} {k : Val → Option (Out σ)}
    (h0 : ρ.lookup x = some (.sh v0)) (h : Ev C n sc ρ e o) (hk : ∀ v, Bk C n sc ((x, .sh v) :: ρ) rest emb (k v)) (hx : Bindable sc x := by exact .inl rfl) (hnx : notOwn ρ x = true := by rfl) :
    Bk C n sc ρ (.AugAssign (.Name x px) .Add e pos :: rest) emb (o.bind fun v => match v0, v with
      | .int a, .int b => k (.int (a + b))
      | _, _ => none) := by
  intro r q A env ad M s₀ M₀ rs s Q E ro hsc S hQ
  obtain ⟨v, hv, q⟩ := obind q
  obtain ⟨w, hw, rw0⟩ := S.sat.vars x _ h0
  split at q
  · simp only [SlotOK, Rep] at rw0
    obtain ⟨t, rfl⟩ := rw0
    refine wpAny_execs_cons (wpAny_AugAssign_Name (wpAny_holds S.sat.kd hw (h _ hv A env ad M s _ E ro hsc S.sat fun w s1 kp1 q1 => ?_)))
    simp only [Rep] at q1
    obtain ⟨u, rfl⟩ := q1
    refine PyProof.Rows.iadd_int ?_
    have S2 := S.keeps (kt kp1 (keeps_tok s1 (s1.toks + 1)))
    refine S2.bind (x := x) (a := 0) (rs' := rs) (by rw [hsc]; exact hx) hnx (sl := .sh (.int _)) (by simp only [SlotOK, Rep]; exact ⟨_, rfl⟩) (fun h => by cases h) (fun b hb => ⟨hb, fun h => by cases h⟩) fun ad3 s3 st3 S3 => ?_
    exact hk _ r q A env ad3 M s₀ M₀ rs s3 Q E ro hsc S3 fun f M' ad' s' st' => hQ f M' ad' s' (((Step.keeps (kt kp1 (keeps_tok s1 (s1.toks + 1)))).trans st3).trans st')
  · cases q

/-! lists that the frame owns are changed -/
theorem SatF.mutate {C : Cx} {M : Addr → Prop} {ad : Str → Addr} {env : Env} {s₀ : Shared} {M₀ rs : Addr → Prop} {ρ : Lc} {s : Shared} {x : Str} {l l' : List Val} {ws : List Value} (S : SatF C M ad env s₀ M₀ rs ρ s)
    (hx : ρ.lookup x = some (.own l)) {h' : Heap} {tk : Nat} (hs : Heap.SameBut (ad x) s.heap h') (hl : h'.PlainList (ad x) (List.toArray ws)) (hr : RepL s.heap M l' ws) :
    Step M rs s M { s with heap := h', toks := tk } ∧ SatF C M ad env s₀ M₀ rs ((x, .own l') :: ρ) { s with heap := h', toks := tk } := by
  obtain ⟨w, hw, rfl, hM, ws0, hl0, _⟩ := S.sat.vars x _ hx
  have up : ∀ b o, b ≠ ad x → s.heap.get? b = some o → h'.get? b = some o := fun b o hb e => (hs.2 b hb).trans e
  have h0 := S.own x l hx
  have keep' : ∀ b o, s₀.heap.get? b = some o → h'.get? b = some o := fun b o e => up b o (by rintro rfl; rw [h0] at e; cases e) (S.keep b o e)
  have hL : env.locals ≠ ad x := by obtain ⟨m, q⟩ := S.loc.2.2; exact ns_ne_list q hl0
  have hC : ∀ y c, env.cells.lookup y = some c → c ≠ ad x := fun y c e => by obtain ⟨_, _, v, hv⟩ := S.cel y c e; exact cell_ne_list hv hl0
  have holds : ∀ y w, Holds s.heap env y w → Holds h' env y w := by
    rintro y w (⟨k1, m, k2, k3⟩ | ⟨k1, k2, c, k3, k4⟩)
    · exact .inl ⟨k1, m, k2.at' fun o e => up _ o hL e, k3⟩
    · exact .inr ⟨k1, k2, c, k3, isCell_same k4 hs (hC y c k3)⟩
  have ag : Agree M s.heap h' := fun b o hb e => up b o (by rintro rfl; exact hb hM) e
  have sub : ∀ b o, ¬ M b → s.heap.get? b = some o → ¬ M b := fun _ _ hb _ => hb
  refine ⟨⟨fun _ m => .inl m, fun b o hb e => up b o (fun h => by subst h; exact hb.elim (fun k => k hM) fun k => (S.res _ k).2.2.2.2 x l hx rfl) e⟩, ?_⟩
  refine ⟨⟨S.top0.keeps keep', S.sat.gl, S.sat.bi, S.sat.kd, fun b hb => ?_, fun y sl e => ?_⟩, S.top0, ?_, keep', S.base, ⟨S.loc.1, S.loc.2.1, ?_⟩, fun y c e => ⟨(S.cel y c e).1, (S.cel y c e).2.1, ?_⟩, S.cels, S.apart, fun y l1 e => ?_, fun y z l1 l2 e e' hyz => ?_, fun b hb => ?_⟩
  · by_cases h : b = ad x
    · subst h; obtain ⟨_, e⟩ := hl; exact ⟨_, e⟩
    · obtain ⟨o, e⟩ := S.sat.live b hb; exact ⟨o, up b o h e⟩
  · by_cases hy : y = x
    · subst hy
      rw [lookup_cons_self] at e; cases e
      exact ⟨_, holds y _ hw, rfl, hM, ws, hl, hr.mono ag sub⟩
    · rw [lookup_cons_ne hy] at e
      obtain ⟨w, h1, h2⟩ := S.sat.vars y sl e
      refine ⟨w, holds y w h1, ?_⟩
      cases sl with
      | sh v => exact Rep.mono (v := v) ag sub h2
      | own l1 =>
        obtain ⟨rfl, hM1, ws1, hl1, hr1⟩ := h2
        exact ⟨rfl, hM1, ws1, isList_same hl1 hs (S.ownA y x l1 l e hx hy), hr1.mono ag sub⟩
      | raw w' => exact h2
  · obtain ⟨h1, tk1, e⟩ := S.same
    exact ⟨h', tk, by rw [e]⟩
  · obtain ⟨m, q⟩ := S.loc.2.2; exact ⟨m, q.at' fun o e => up _ o hL e⟩
  · obtain ⟨_, _, v, hv⟩ := S.cel y c e; exact ⟨v, isCell_same hv hs (hC y c e)⟩
  · by_cases hy : y = x
    · subst hy; exact h0
    · rw [lookup_cons_ne hy] at e; exact S.own y l1 e
  · by_cases hy : y = x
    · subst hy
      by_cases hz : z = y
      · exact absurd hz.symm hyz
      · rw [lookup_cons_ne hz] at e'; exact S.ownA y z l l2 hx e' hyz
    · rw [lookup_cons_ne hy] at e
      by_cases hz : z = x
      · subst hz; exact S.ownA y z l1 l e hx hyz
      · rw [lookup_cons_ne hz] at e'; exact S.ownA y z l1 l2 e e' hyz
  · obtain ⟨a1, a2, a3, a4, a5⟩ := S.res b hb
    refine ⟨a1, a2, a3, a4, fun y l1 e => ?_⟩
    by_cases hy : y = x
    · subst hy; exact a5 y l hx
    · rw [lookup_cons_ne hy] at e; exact a5 y l1 e

theorem interactive_fn {env : Env} (h : env.scope.kind = .function) : interactive env = false := by
  unfold interactive; rw [h]; rfl

theorem Bk.append {σ : Type} {C : Cx} {n : Nat} {sc : Scope} {ρ : Lc} {emb : σ → Lc} {x : Str} {p apos cpos epos : Pos} {l : List Val} {e : Expr} {rest : List Stmt} {o : Option Val} {k : List Val → Option (Out σ)}
    (hx : ρ.lookup x = some (.own l)) (h : Ev C n sc ρ e o) (hk : ∀ l', Bk C n sc ((x, .own l') :: ρ) rest emb (k l')) (hd : (x == ("__debug__" : Str)) = false := by decide)
    (hb : ∀ env : Env, attributeBase (.Name x p) "append" env (eval (.Name x p) env) = eval (.Name x p) env := by intro _; rfl)
    (hf : ∀ env : Env, ((backTo cpos (starEach [e] env)).all (fun x => !x.1) && (backToKw cpos (keywordEach [] env)).all (fun x => x.1.isSome)
      && decide (([e] : List Expr).length + ([] : List Keyword).length + (if ([] : List Keyword).isEmpty then 0 else 1) < 30)) = true := by intro _; rfl)
    (hl : (apos.endLine == cpos.line) = true := by rfl) (ht : ∀ env : Env, backTo cpos (starEach [e] env) = [(false, eval e env)] := by intro _; rfl)
    (hs : ∀ env : Env, swapsWith (.Call (.Attribute (.Name x p) "append" apos) [e] [] cpos) none epos.line env = pure false := by intro _; rfl) :
    Bk C n sc ρ (.Expr (.Call (.Attribute (.Name x p) "append" apos) [e] [] cpos) epos :: rest) emb (o.bind fun v => if Nat.ble l.length 16777215 then k (l ++ [v]) else none) := by
  intro r q A env ad M s₀ M₀ rs s Q E ro hsc S hQ
  obtain ⟨v, hv, q⟩ := obind q
  split at q
  · rename_i hz
    have hz := Nat.le_of_ble_eq_true hz
    obtain ⟨w, hw, rfl, hM, ws, hlist, hr⟩ := S.sat.vars x _ hx
    obtain ⟨nn, hob⟩ := id hlist
    refine wpAny_execs_cons (wpAny_Expr ?_ (interactive_fn S.sat.kd) (hs env))
    refine wpAny_Call_append (hb env) (hf env) hl (ht env) (wpAny_Name (wpAny_holds S.sat.kd hw ⟨ad x, List.toArray ws, rfl, ⟨_, nn, hob, rfl, rfl, rfl⟩, ?_⟩) hd)
    refine h v hv A env ad M s _ E ro hsc S.sat fun w s1 kp1 q1 => ?_
    have S1 := S.keeps kp1
    have hlen := hr.length
    refine wpAny_list_append_plain (isList_agree hlist (kh kp1 _)) (fun h2 hl2 hs2 => ?_) (by rw [List.size_toArray, hlen, sizeLine_eq]; omega)
    have hl2' : h2.PlainList (ad x) (List.toArray (ws ++ [w])) := by simpa using hl2
    obtain ⟨st, S2⟩ := S1.mutate hx (tk := s1.toks) hs2 hl2' ((hr.keep (kh kp1)).append (RepL.cons q1 .nil))
    exact hk _ r q A env ad M s₀ M₀ rs _ Q E ro hsc S2 fun f M' ad' s' st' => hQ f M' ad' s' (((Step.keeps kp1).trans st).trans st')
  · cases q

def setV : List Val → Nat → Val → List Val
  | [], _, _ => []
  | _ :: l, 0, v => v :: l
  | x :: l, n + 1, v => x :: setV l n v
theorem setV_eq : ∀ (l : List Val) (n : Nat) (v : Val), setV l n v = l.set n v
  | [], _, _ => by simp [setV]
  | x :: l, 0, v => by simp [setV]
  | x :: l, n + 1, v => by simp [setV, setV_eq l n v]
def setO (l : List Val) (i : Val) (v : Val) : Option (List Val) := match i with
  | .int i => match i with
    | .ofNat n => if Nat.blt n l.length && Nat.blt n 9223372036854775808 then some (setV l n v) else none
    | _ => none
  | _ => none

theorem Bk.setitem {σ : Type} {C : Cx} {n : Nat} {sc : Scope} {ρ : Lc} {emb : σ → Lc} {x : Str} {p spos pos : Pos} {l : List Val} {i e : Expr} {rest : List Stmt} {oe oi : Option Val} {k : List Val → Option (Out σ)}
    (hx : ρ.lookup x = some (.own l)) (he : Ev C n sc ρ e oe) (hi : Ev C n sc ρ i oi) (hk : ∀ l', Bk C n sc ((x, .own l') :: ρ) rest emb (k l')) (hd : (x == ("__debug__" : Str)) = false := by decide)
    (hs : ∀ env : Env, swapsWith e (some (.Subscript (.Name x p) i spos)) pos.line env = pure false := by intro _; rfl) :
    Bk C n sc ρ (.Assign [.Subscript (.Name x p) i spos] e pos :: rest) emb (oe.bind fun v => oi.bind fun j => (setO l j v).bind k) := by
  intro r q A env ad M s₀ M₀ rs s Q E ro hsc S hQ
  obtain ⟨v, hv, q⟩ := obind q
  obtain ⟨j, hj, q⟩ := obind q
  obtain ⟨l', hl', q⟩ := obind q
  obtain ⟨w0, hw, rfl, hM, ws, hlist, hr⟩ := S.sat.vars x _ hx
  refine wpAny_execs_cons (wpAny_Assign_Subscript (he v hv A env ad M s _ E ro hsc S.sat fun w s1 kp1 q1 => ?_) (hs env))
  refine wpAny_Name (wpAny_holds S.sat.kd (hw.keeps (kh kp1)) ?_) hd
  refine hi j hj A env ad M s1 _ E ro hsc (S.keeps kp1).sat fun wj s2 kp2 q2 => ?_
  have S2 := S.keeps (kt kp1 kp2)
  unfold setO at hl'
  split at hl'
  · split at hl'
    · rename_i m
      split at hl'
      · rename_i hz
        cases hl'
        simp only [Bool.and_eq_true] at hz
        have h1 := blt_lt hz.1
        have h2 := blt_lt hz.2
        simp only [Rep] at q2
        obtain ⟨t, rfl⟩ := q2
        have hl2 := isList_agree hlist (kh (kt kp1 kp2) _)
        obtain ⟨nn, hob⟩ := id hl2
        have hlen := hr.length
        refine ki_setAt hob (Int.natCast_nonneg m) (by show (m : Int) < 2 ^ 63; omega) (by rw [List.size_toArray, hlen]; show (m : Int) < _; omega) ?_
        have hl3 : (s2.heap.update (ad x) (Obj.mapSeq (·.setIfInBounds (Int.ofNat m).toNat w))).PlainList (ad x) (List.toArray (ws.set m w)) := by
          refine ⟨if ((ws.set m w).toArray.size == ws.toArray.size) = true then nn else nn + 1, (Heap.get?_update_self (Obj.mapSeq (·.setIfInBounds (Int.ofNat m).toNat w)) hob rfl).trans ?_⟩
          show some (Obj.mapSeq (·.setIfInBounds m w) { cls := .type "list", data := .seq (List.toArray ws) nn }) = _
          have e3 : (List.toArray ws).setIfInBounds m w = List.toArray (ws.set m w) := by simp
          simp only [Obj.mapSeq, e3]
        rw [setV_eq] at q
        obtain ⟨st, S3⟩ := S2.mutate hx (tk := s2.toks) (Heap.SameBut.update s2.heap (ad x) (Obj.mapSeq (·.setIfInBounds (Int.ofNat m).toNat w))) hl3 ((hr.keep (kh (kt kp1 kp2))).set (q1.keep (kh kp2)) m)
        exact hk _ r q A env ad M s₀ M₀ rs _ Q E ro hsc S3 fun f M' ad' s' st' => hQ f M' ad' s' (((Step.keeps (kt kp1 kp2)).trans st).trans st')
      · cases hl'
    · cases hl'
  · cases hl'

/-! text ML8 -/
/-! loops -/
def loopO {α τ : Type} (f : α → τ → Option (Out τ)) : List α → τ → Option (Out τ)
  | [], x => some (.cont x)
  | v :: l, x => seqO (f v x) (loopO f l)
def whileO {τ : Type} (t : τ → Option Bool) (f : τ → Option (Out τ)) : Nat → τ → Option (Out τ)
  | 0, _ => none
  | k + 1, y => (t y).bind fun b => if b then seqO (f y) (whileO t f k) else some (.cont y)

theorem Bk.whl {σ τ : Type} {C : Cx} {n : Nat} {sc : Scope} {ρ : Lc} {emb : σ → Lc} (emb1 : τ → Lc) (fuel : Nat) {test : Expr} {body rest : List Stmt} {pos : Pos} {x0 : τ} {t : τ → Option Bool} {f : τ → Option (Out τ)} {k : τ → Option (Out σ)}
    (h0 : Sub (emb1 x0) ρ) (ht : ∀ y, Tst C n sc (emb1 y) test (t y)) (hb : ∀ y, Bk C n sc (emb1 y) body emb1 (f y)) (hk : ∀ y, Bk C n sc (emb1 y) rest emb (k y)) :
    Bk C n sc ρ (.While test body [] pos :: rest) emb (seqO (whileO t f fuel x0) k) := by
  refine Bk.seq (embt := emb1) ?_ hk
  intro r q A env ad M s₀ M₀ rs s Q E ro hsc S hQ
  refine wpAny_While (codeAny_whileLoop (fun kk s' => ∃ y M' ad', Step M rs s M' s' ∧ SatF C M' ad' env s₀ M₀ rs (emb1 y) s' ∧ whileO t f kk y = some r) ?_ fuel ⟨x0, M, ad, Step.refl .., S.weaken h0, q⟩)
  rintro kk s' ⟨y, M', ad', st, S', q⟩
  cases kk with
  | zero => cases q
  | succ kk =>
    obtain ⟨b, hbt, q⟩ := obind q
    refine ht y b hbt A env ad' M' s' _ _ ro hsc S'.sat fun s2 k2 => ?_
    have S2 := S'.keeps k2
    have st2 := st.trans (Step.keeps k2)
    cases b with
    | true =>
      simp only [if_true] at q ⊢
      rcases seqO_some q with ⟨z, e, q⟩ | ⟨v, e, rfl⟩
      · refine hb y _ e A env ad' M' s₀ M₀ rs s2 _ _ ro hsc S2 fun f' M3 ad3 s3 st3 S3 hf => ?_
        cases hf
        exact ⟨kk, Nat.lt_succ_self _, z, M3, ad3, st2.trans st3, S3, q⟩
      · refine hb y _ e A env ad' M' s₀ M₀ rs s2 _ _ ro hsc S2 fun f' M3 ad3 s3 st3 S3 hf => ?_
        obtain ⟨w, rfl, hw⟩ := hf
        exact hQ _ M3 ad3 s3 (st2.trans st3) S3 ⟨w, rfl, hw⟩
    | false =>
      simp only [Bool.false_eq_true, if_false] at q ⊢
      cases q
      exact wpAny_execs_nil (hQ _ M' ad' s2 st2 S2 rfl)

/-- what an expression gives to be walked over, one value a turn -/
def It (C : Cx) (n : Nat) (sc : Scope) (ρ : Lc) (e : Expr) (o : Option (List Val)) : Prop :=
  ∀ vs, o = some vs → ∀ (A : Around) (env : Env) (ad : Str → Addr) (M : Addr → Prop) (s : Shared) (Q E : Value → Shared → Prop),
    Room A n → env.scope = sc → Sat C M ad env ρ s.heap →
    (∀ (I : Addr) (fp wr : List Addr) (P : Nat → Value → Prop) (St : Nat → Heap → Prop) s', Keeps s s' → Walks C.prog C.w A I fp wr vs.length P St → St 0 s'.heap →
      (∀ b, b ∈ wr → s.heap.get? b = none) → (∀ b, b ∈ fp → (∃ o, s'.heap.get? b = some o) ∧ (b ∈ wr ∨ ¬ M b)) → (∀ i h, St i h → ∀ b, b ∈ wr → ∃ o, h.get? b = some o) →
      (∀ i w, P i w → ∃ v, vs[i]? = some v ∧ Rep s'.heap (fun b => M b ∨ b ∈ wr) v w) → Q (.ref I) s') →
    wpAny (model C.prog C.w) A (eval e env) (fun xv s1 => wpAny (model C.prog C.w) A (pyIter xv) Q E s1) E s
/-- … and several values a turn -/
def ItT (C : Cx) (n : Nat) (sc : Scope) (ρ : Lc) (e : Expr) (o : Option (List (List Val))) : Prop :=
  ∀ vs, o = some vs → ∀ (A : Around) (env : Env) (ad : Str → Addr) (M : Addr → Prop) (s : Shared) (Q E : Value → Shared → Prop),
    Room A n → env.scope = sc → Sat C M ad env ρ s.heap →
    (∀ (I : Addr) (fp wr : List Addr) (Pt : Nat → Array Value → Prop) (St : Nat → Heap → Prop) (Mid : Nat → Addr → Heap → Prop) s', Keeps s s' → WalksU C.prog C.w A I fp wr vs.length Pt St Mid → St 0 s'.heap →
      (∀ b, b ∈ wr → s.heap.get? b = none) → (∀ b, b ∈ fp → (∃ o, s'.heap.get? b = some o) ∧ (b ∈ wr ∨ ¬ M b)) → (∀ i h, St i h → ∀ b, b ∈ wr → ∃ o, h.get? b = some o) →
      (∀ i T h, Mid i T h → ∀ b, b ∈ wr → ∃ o, h.get? b = some o) →
      (∀ i vals, Pt i vals → ∃ l ws, vs[i]? = some l ∧ vals = List.toArray ws ∧ RepL s'.heap (fun b => M b ∨ b ∈ wr) l ws) → Q (.ref I) s') →
    wpAny (model C.prog C.w) A (eval e env) (fun xv s1 => wpAny (model C.prog C.w) A (pyIter xv) Q E s1) E s

theorem drop_cons {α : Type} {l : List α} {i : Nat} {v : α} (h : l[i]? = some v) : l.drop i = v :: l.drop (i + 1) := by
  obtain ⟨hi, e⟩ := List.getElem?_eq_some_iff.mp h
  rw [List.drop_eq_getElem_cons hi, e]

/-- a loop ends: what it walked with is given up -/
theorem SatF.endLoop {τ : Type} {C : Cx} {M M' : Addr → Prop} {ad ad' : Str → Addr} {env : Env} {s₀ : Shared} {M₀ rs : Addr → Prop} {ρ : Lc} {s s1 s' s'' : Shared} {wr : List Addr} {emb1 : τ → Lc} {r : Out τ} {f : Flow} {Q : Flow → Shared → Prop}
    (S : SatF C M ad env s₀ M₀ rs ρ s) (kp : Keeps s s1) (hfr : ∀ b, b ∈ wr → s.heap.get? b = none)
    (hQ : ∀ f M' ad' s', Step M rs s M' s' → SatF C M' ad' env s₀ M₀ rs (lcOf emb1 r) s' → FlOK s'.heap M' r f → Q f s')
    (st : Step (fun a => M a ∨ a ∈ wr) rs s1 M' s') (S' : SatF C M' ad' env s₀ M₀ (fun a => rs a ∨ a ∈ wr) (lcOf emb1 r) s')
    (same : ∃ h tk, s'' = { s' with heap := h, toks := tk }) (up : ∀ b o, b ∉ wr → s'.heap.get? b = some o → s''.heap.get? b = some o) (hf : FlOK s'.heap M' r f) : Q f s'' := by
  have dead : ∀ b o, s.heap.get? b = some o → b ∉ wr := fun b o e h => by rw [hfr b h] at e; cases e
  refine hQ f (fun a => M' a ∧ ¬ a ∈ wr) ad' s'' ⟨fun a ha => ?_, fun a o ha e => ?_⟩ ?_ ?_
  · rcases st.1 a ha.1 with (h | h) | h
    · exact .inl h
    · exact absurd h ha.2
    · refine .inr ?_
      cases q : s.heap.get? a with
      | none => rfl
      | some o => rw [kh kp a o q] at h; cases h
  · have hw := dead a o e
    refine up a o hw (st.2 a o ?_ (kh kp a o e))
    rcases ha with h | h
    · exact .inl fun h' => h'.elim h hw
    · exact .inr h
  · refine SatF.drop (X := fun a => a ∈ wr) S' (fun a h => .inr h) (fun a h => ⟨.inl h, fun h' => ?_⟩) (fun a h h' => ?_) same up
    · obtain ⟨o, e⟩ := S.sat.live a (S.res a h).1
      exact dead a o e h'
    · obtain ⟨o, e⟩ := (S.base a h).2
      exact dead a o (S.keep a o e) h'
  · cases r with
    | cont x => exact hf
    | ret v =>
      obtain ⟨w, rfl, hw⟩ := hf
      exact ⟨w, rfl, Rep.mono (v := v) (fun b o hb e => up b o (fun h => hb (S'.res b (.inr h)).1) e) (fun b o hb _ h => hb h.1) hw⟩

theorem walk_kept {M rs : Addr → Prop} {s1 s2 s3 : Shared} {M2 M3 : Addr → Prop} {wr fp : List Addr} (st : ∀ a, M2 a → (M a ∨ a ∈ wr) ∨ s1.heap.get? a = none) (hfp : ∀ b, b ∈ fp → (∃ o, s1.heap.get? b = some o) ∧ (b ∈ wr ∨ ¬ M b))
    (st3 : Step M2 (fun a => rs a ∨ a ∈ wr) s2 M3 s3) : ∀ b, b ∈ fp → ∀ o, s2.heap.get? b = some o → s3.heap.get? b = some o := by
  intro b hb o e
  refine st3.2 b o ?_ e
  obtain ⟨⟨o1, e1⟩, h⟩ := hfp b hb
  by_cases hw : b ∈ wr
  · exact .inr (.inr hw)
  · refine .inl fun hm => ?_
    rcases st b hm with (h' | h') | h'
    · exact (h.resolve_left hw) h'
    · exact hw h'
    · rw [e1] at h'; cases h'

section
variable {σ τ : Type} {C : Cx} {n : Nat} {sc : Scope} {ρ : Lc} {emb : σ → Lc} (emb1 : τ → Lc) {x y z : Str} {px py pz tp pos : Pos} {k1 : Nat} {iter : Expr} {body rest : List Stmt} {x0 : τ} {k : τ → Option (Out σ)}

theorem walk_step {M' rs : Addr → Prop} {ad' : Str → Addr} {env : Env} {s₀ s' : Shared} {M₀ : Addr → Prop} {ρ : Lc} {wr : List Addr} {h2 : Heap} {tk2 : Nat} (S' : SatF C M' ad' env s₀ M₀ (fun a => rs a ∨ a ∈ wr) ρ s') (hrs : ∀ a, rs a → a ∉ wr)
    (up2 : ∀ b o, b ∉ wr → s'.heap.get? b = some o → h2.get? b = some o) : Step M' rs s' M' { s' with heap := h2, toks := tk2 } := by
  refine ⟨fun _ m => .inl m, fun b o hb e => up2 b o (fun h => ?_) e⟩
  rcases hb with hb | hb
  · exact hb (S'.res b (.inr h)).1
  · exact hrs b hb h

theorem Bk.for1 {oi : Option (List Val)} {f : Val → τ → Option (Out τ)}
    (hi : It C n sc ρ iter oi) (h0 : Sub (emb1 x0) ρ) (hb : ∀ v u, Bk C n sc ((x, .sh v) :: emb1 u) body emb1 (f v u)) (hk : ∀ u, Bk C n sc (emb1 u) rest emb (k u))
    (hx : Bindable sc x := by exact .inl rfl) (hno : ∀ u, notOwn (emb1 u) x = true := by intro _; rfl) (hs : ∀ env v, foldedSetIterable iter env v = pure v := by intro _ _; rfl) :
    Bk C n sc ρ (.For (.Name x px) iter body [] pos :: rest) emb (oi.bind fun vs => seqO (loopO f vs x0) k) := by
  intro r q
  obtain ⟨vs, hvs, q⟩ := obind q
  refine Bk.seq (embt := emb1) (o := loopO f vs x0) (k := k) ?_ hk r q
  intro r q A env ad M s₀ M₀ rs s Q E ro hsc S hQ
  refine wpAny_For (hi vs hvs A env ad M s _ E ro hsc S.sat fun I fp wr P St s1 kp W hst hfr hfp hlv hP => ?_) (hs env)
  have S1 := (S.take (X := fun a => a ∈ wr) kp hfr (fun a h => (hfp a (W.sub a h)).1)).weaken h0
  have hrs : ∀ a, rs a → a ∉ wr := fun a h h' => by
    obtain ⟨o', e'⟩ := S.sat.live a (S.res a h).1
    rw [hfr a h'] at e'; cases e'
  refine codeAny_forLoop (fun kk s' => ∃ i u M' ad', i ≤ vs.length ∧ kk = vs.length + 1 - i ∧ Step (fun a => M a ∨ a ∈ wr) rs s1 M' s' ∧ SatF C M' ad' env s₀ M₀ (fun a => rs a ∨ a ∈ wr) (emb1 u) s' ∧ St i s'.heap ∧ loopO f (vs.drop i) u = some r)
    ?_ (vs.length + 1) ⟨0, x0, _, ad, Nat.zero_le _, rfl, Step.refl .., S1, hst, by simpa using q⟩
  rintro kk s' ⟨i, u, M', ad', hi, rfl, st, S', hst', q⟩
  by_cases hlt : i < vs.length
  · refine W.item i _ _ _ hlt hst' fun w h2 tk2 hPw hst2 up2 => ?_
    obtain ⟨v, hv, hw⟩ := hP i w hPw
    rw [drop_cons hv] at q
    have S2 := SatF.lent (X := fun a => a ∈ wr) S' (fun a h => .inr h) ⟨h2, tk2, rfl⟩ (fun b o hb e => up2 b o hb e) (fun a h => hlv _ _ hst2 a h)
    have st2 := walk_step (tk2 := tk2) S' hrs up2
    have hw' : Rep h2 M' v w := st2.rep (st.rep hw)
    refine wpAny_assign_Name (S2.bind (x := x) (sl := .sh v) (a := 0) (rs' := fun a => rs a ∨ a ∈ wr) (by rw [hsc]; exact hx) (hno u) hw' (fun h => by cases h) (fun b hb => ⟨hb, fun h => by cases h⟩) fun ad3 s3 st3 S3 => ?_)
    have stb := (st.trans st2).trans (st3.fewer fun _ h => .inl h)
    have hst3 : St (i + 1) s3.heap := W.frame _ _ _ hst2 (walk_kept (s1 := s1) (s2 := { s' with heap := h2, toks := tk2 }) st.1 hfp st3)
    rcases seqO_some q with ⟨u', e, q⟩ | ⟨v', e, rfl⟩
    · refine hb v u _ e A env ad3 M' s₀ M₀ _ s3 _ _ ro hsc S3 fun f' M4 ad4 s4 st4 S4 hf => ?_
      cases hf
      exact ⟨vs.length + 1 - (i + 1), by omega, i + 1, u', M4, ad4, hlt, rfl, stb.trans (st4.fewer fun _ h => .inl h), S4, W.frame _ _ _ hst3 (walk_kept stb.1 hfp st4), q⟩
    · refine hb v u _ e A env ad3 M' s₀ M₀ _ s3 _ _ ro hsc S3 fun f' M4 ad4 s4 st4 S4 hf => ?_
      obtain ⟨w', rfl, hw'⟩ := hf
      exact SatF.endLoop (r := .ret v') (emb1 := emb1) (s' := s4) S kp hfr hQ (stb.trans (st4.fewer fun _ h => .inl h)) S4 ⟨s4.heap, s4.toks, rfl⟩ (fun _ _ _ e => e) ⟨w', rfl, hw'⟩
  · have hin : i = vs.length := by omega
    subst hin
    rw [List.drop_length] at q
    cases q
    refine W.done _ _ _ hst' fun h2 tk2 up2 => wpAny_execs_nil ?_
    exact SatF.endLoop (r := .cont u) (emb1 := emb1) S kp hfr hQ st S' ⟨h2, tk2, rfl⟩ up2 rfl

def tupF2 {τ : Type} (f : Val → Val → τ → Option (Out τ)) (l : List Val) (u : τ) : Option (Out τ) := match l with
  | [v0, v1] => f v0 v1 u
  | _ => none

theorem Bk.for2 {oi : Option (List (List Val))} {f : Val → Val → τ → Option (Out τ)}
    (hi : ItT C n sc ρ iter oi) (h0 : Sub (emb1 x0) ρ) (hb : ∀ v0 v1 u, Bk C n sc ((y, .sh v1) :: (x, .sh v0) :: emb1 u) body emb1 (f v0 v1 u)) (hk : ∀ u, Bk C n sc (emb1 u) rest emb (k u))
    (hx : Bindable sc x := by exact .inl rfl) (hy : Bindable sc y := by exact .inl rfl)
    (hnx : ∀ u, notOwn (emb1 u) x = true := by intro _; rfl) (hny : ∀ u, notOwn (emb1 u) y = true := by intro _; rfl)
    (hyx : y ≠ x := by decide) (hs : ∀ env v, foldedSetIterable iter env v = pure v := by intro _ _; rfl) :
    Bk C n sc ρ (.For (.Tuple [.Name x px, .Name y py] k1 tp) iter body [] pos :: rest) emb (oi.bind fun vs => seqO (loopO (tupF2 f) vs x0) k) := by
  intro r q
  obtain ⟨vs, hvs, q⟩ := obind q
  refine Bk.seq (embt := emb1) (o := loopO (tupF2 f) vs x0) (k := k) ?_ hk r q
  intro r q A env ad M s₀ M₀ rs s Q E ro hsc S hQ
  refine wpAny_For (hi vs hvs A env ad M s _ E ro hsc S.sat fun I fp wr P St Mid s1 kp W hst hfr hfp hlv hlm hP => ?_) (hs env)
  have S1 := (S.take (X := fun a => a ∈ wr) kp hfr (fun a h => (hfp a (W.sub a h)).1)).weaken h0
  have hrs : ∀ a, rs a → a ∉ wr := fun a h h' => by
    obtain ⟨o', e'⟩ := S.sat.live a (S.res a h).1
    rw [hfr a h'] at e'; cases e'
  refine codeAny_forLoop_any (fun kk s' => ∃ i u M' ad', i ≤ vs.length ∧ kk = vs.length + 1 - i ∧ Step (fun a => M a ∨ a ∈ wr) rs s1 M' s' ∧ SatF C M' ad' env s₀ M₀ (fun a => rs a ∨ a ∈ wr) (emb1 u) s' ∧ St i s'.heap ∧ loopO (tupF2 f) (vs.drop i) u = some r)
    ?_ (vs.length + 1) ⟨0, x0, _, ad, Nat.zero_le _, rfl, Step.refl .., S1, hst, by simpa using q⟩
  rintro kk s' ⟨i, u, M', ad', hi, rfl, st, S', hst', q⟩
  by_cases hlt : i < vs.length
  · refine W.item i _ _ _ hlt hst' fun T vals h2 tk2 hPt hT hmid up2 => ?_
    refine W.go _ k1 tp i T _ _ _ hmid fun h3 hst3 up3 => ?_
    obtain ⟨l, ws, hl, rfl, hr⟩ := hP i vals hPt
    rw [drop_cons hl] at q
    have S2 := SatF.lent (X := fun a => a ∈ wr) S' (fun a h => .inr h) ⟨h3, tk2, rfl⟩ (fun b o hb e => up3 b o hb (up2 b o hb e)) (fun a h => hlv _ _ hst3 a h)
    have st2 := walk_step (h2 := h3) (tk2 := tk2) S' hrs (fun b o hb e => up3 b o hb (up2 b o hb e))
    have hr' : RepL h3 M' l ws := st2.repL (st.repL hr)
    have hT3 : h3.IsTuple T (List.toArray ws) := isTuple_agree hT fun o e => up3 T o (W.apart i T h2 hmid) e
    have key : ∃ v0 v1, l = [v0, v1] := by
      cases hq : (tupF2 f l u) with
      | none =>
        rcases seqO_some q with ⟨u', e, q⟩ | ⟨v', e, rfl⟩ <;> (rw [hq] at e; cases e)
      | some o =>
        unfold tupF2 at hq
        split at hq
        · exact ⟨_, _, rfl⟩
        · cases hq
    obtain ⟨v0, v1, rfl⟩ := key
    obtain ⟨w0, w1, rfl, r0, r1⟩ := repL2 hr'
    refine wpAny_assign_Tuple ro.hd hT3 rfl rfl fun h4 hx4 => ?_
    have kp4 : Keeps { s' with heap := h3, toks := tk2 } { s' with heap := h4, toks := tk2 } := ⟨h4, tk2, rfl, fun b o e => hx4 b o (Nat.ne_of_lt (Heap.lt_size e)) e⟩
    have S4 := S2.keeps kp4
    replace r0 := Rep.keep (kh kp4) r0
    replace r1 := Rep.keep (kh kp4) r1
    show wpAny _ A (do holding [w1] (PySem.assign (.Name x px) env w0); holding [] (PySem.assign (.Name y py) env w1); pure ()) _ _ _
    refine wpAny_bind (wpAny_holding (wpAny_assign_Name ?_))
    refine S4.bind (x := x) (sl := .sh v0) (a := 0) (rs' := fun a => rs a ∨ a ∈ wr) (by rw [hsc]; exact hx) (hnx u) r0 (fun h => by cases h) (fun b hb => ⟨hb, fun h => by cases h⟩) fun ad5 s5 st5 S5 => ?_
    refine wpAny_bind (wpAny_holding (wpAny_assign_Name ?_))
    refine S5.bind (x := y) (sl := .sh v1) (a := 0) (rs' := fun a => rs a ∨ a ∈ wr) (by rw [hsc]; exact hy) (by unfold notOwn; rw [lookup_cons_ne hyx]; exact hny u) (st5.rep r1) (fun h => by cases h) (fun b hb => ⟨hb, fun h => by cases h⟩) fun ad6 s6 st6 S6 => ?_
    refine wpAny_pure ?_
    have stn := (((Step.keeps kp4).trans st5).trans st6)
    have stb := (st.trans st2).trans (stn.fewer fun _ h => .inl h)
    have hst5 : St (i + 1) s6.heap := W.frame _ _ _ hst3 (walk_kept (s1 := s1) (s2 := { s' with heap := h3, toks := tk2 }) st.1 hfp stn)
    rcases seqO_some q with ⟨u', e, q⟩ | ⟨v', e, rfl⟩
    · refine hb v0 v1 u _ e A env ad6 M' s₀ M₀ _ s6 _ _ ro hsc S6 fun f' M9 ad9 s9 st9 S9 hf => ?_
      cases hf
      exact ⟨vs.length + 1 - (i + 1), by omega, i + 1, u', M9, ad9, hlt, rfl, stb.trans (st9.fewer fun _ h => .inl h), S9, W.frame _ _ _ hst5 (walk_kept stb.1 hfp st9), q⟩
    · refine hb v0 v1 u _ e A env ad6 M' s₀ M₀ _ s6 _ _ ro hsc S6 fun f' M9 ad9 s9 st9 S9 hf => ?_
      obtain ⟨w', rfl, hw'⟩ := hf
      exact SatF.endLoop (r := .ret v') (emb1 := emb1) (s' := s9) S kp hfr hQ (stb.trans (st9.fewer fun _ h => .inl h)) S9 ⟨s9.heap, s9.toks, rfl⟩ (fun _ _ _ e => e) ⟨w', rfl, hw'⟩
  · have hin : i = vs.length := by omega
    subst hin
    rw [List.drop_length] at q
    cases q
    refine W.done _ _ _ hst' fun h2 tk2 up2 => wpAny_execs_nil ?_
    exact SatF.endLoop (r := .cont u) (emb1 := emb1) S kp hfr hQ st S' ⟨h2, tk2, rfl⟩ up2 rfl

def tupF3 {τ : Type} (f : Val → Val → Val → τ → Option (Out τ)) (l : List Val) (u : τ) : Option (Out τ) := match l with
  | [v0, v1, v2] => f v0 v1 v2 u
  | _ => none

theorem Bk.for3 {oi : Option (List (List Val))} {f : Val → Val → Val → τ → Option (Out τ)}
    (hi : ItT C n sc ρ iter oi) (h0 : Sub (emb1 x0) ρ) (hb : ∀ v0 v1 v2 u, Bk C n sc ((z, .sh v2) :: (y, .sh v1) :: (x, .sh v0) :: emb1 u) body emb1 (f v0 v1 v2 u)) (hk : ∀ u, Bk C n sc (emb1 u) rest emb (k u))
    (hx : Bindable sc x := by exact .inl rfl) (hy : Bindable sc y := by exact .inl rfl) (hz : Bindable sc z := by exact .inl rfl)
    (hnx : ∀ u, notOwn (emb1 u) x = true := by intro _; rfl) (hny : ∀ u, notOwn (emb1 u) y = true := by intro _; rfl) (hnz : ∀ u, notOwn (emb1 u) z = true := by intro _; rfl)
    (hyx : y ≠ x := by decide) (hzx : z ≠ x := by decide) (hzy : z ≠ y := by decide) (hs : ∀ env v, foldedSetIterable iter env v = pure v := by intro _ _; rfl) :
    Bk C n sc ρ (.For (.Tuple [.Name x px, .Name y py, .Name z pz] k1 tp) iter body [] pos :: rest) emb (oi.bind fun vs => seqO (loopO (tupF3 f) vs x0) k) := by
  intro r q
  obtain ⟨vs, hvs, q⟩ := obind q
  refine Bk.seq (embt := emb1) (o := loopO (tupF3 f) vs x0) (k := k) ?_ hk r q
  intro r q A env ad M s₀ M₀ rs s Q E ro hsc S hQ
  refine wpAny_For (hi vs hvs A env ad M s _ E ro hsc S.sat fun I fp wr P St Mid s1 kp W hst hfr hfp hlv hlm hP => ?_) (hs env)
  have S1 := (S.take (X := fun a => a ∈ wr) kp hfr (fun a h => (hfp a (W.sub a h)).1)).weaken h0
  have hrs : ∀ a, rs a → a ∉ wr := fun a h h' => by
    obtain ⟨o', e'⟩ := S.sat.live a (S.res a h).1
    rw [hfr a h'] at e'; cases e'
  refine codeAny_forLoop_any (fun kk s' => ∃ i u M' ad', i ≤ vs.length ∧ kk = vs.length + 1 - i ∧ Step (fun a => M a ∨ a ∈ wr) rs s1 M' s' ∧ SatF C M' ad' env s₀ M₀ (fun a => rs a ∨ a ∈ wr) (emb1 u) s' ∧ St i s'.heap ∧ loopO (tupF3 f) (vs.drop i) u = some r)
    ?_ (vs.length + 1) ⟨0, x0, _, ad, Nat.zero_le _, rfl, Step.refl .., S1, hst, by simpa using q⟩
  rintro kk s' ⟨i, u, M', ad', hi, rfl, st, S', hst', q⟩
  by_cases hlt : i < vs.length
  · refine W.item i _ _ _ hlt hst' fun T vals h2 tk2 hPt hT hmid up2 => ?_
    refine W.go _ k1 tp i T _ _ _ hmid fun h3 hst3 up3 => ?_
    obtain ⟨l, ws, hl, rfl, hr⟩ := hP i vals hPt
    rw [drop_cons hl] at q
    have S2 := SatF.lent (X := fun a => a ∈ wr) S' (fun a h => .inr h) ⟨h3, tk2, rfl⟩ (fun b o hb e => up3 b o hb (up2 b o hb e)) (fun a h => hlv _ _ hst3 a h)
    have st2 := walk_step (h2 := h3) (tk2 := tk2) S' hrs (fun b o hb e => up3 b o hb (up2 b o hb e))
    have hr' : RepL h3 M' l ws := st2.repL (st.repL hr)
    have hT3 : h3.IsTuple T (List.toArray ws) := isTuple_agree hT fun o e => up3 T o (W.apart i T h2 hmid) e
    have key : ∃ v0 v1 v2, l = [v0, v1, v2] := by
      cases hq : (tupF3 f l u) with
      | none =>
        rcases seqO_some q with ⟨u', e, q⟩ | ⟨v', e, rfl⟩ <;> (rw [hq] at e; cases e)
      | some o =>
        unfold tupF3 at hq
        split at hq
        · exact ⟨_, _, _, rfl⟩
        · cases hq
    obtain ⟨v0, v1, v2, rfl⟩ := key
    obtain ⟨w0, w1, w2, rfl, r0, r1, r2⟩ := repL3 hr'
    refine wpAny_assign_Tuple ro.hd hT3 rfl rfl fun h4 hx4 => ?_
    have kp4 : Keeps { s' with heap := h3, toks := tk2 } { s' with heap := h4, toks := tk2 } := ⟨h4, tk2, rfl, fun b o e => hx4 b o (Nat.ne_of_lt (Heap.lt_size e)) e⟩
    have S4 := S2.keeps kp4
    replace r0 := Rep.keep (kh kp4) r0
    replace r1 := Rep.keep (kh kp4) r1
    replace r2 := Rep.keep (kh kp4) r2
    show wpAny _ A (do holding [w1, w2] (PySem.assign (.Name x px) env w0); holding [w2] (PySem.assign (.Name y py) env w1); holding [] (PySem.assign (.Name z pz) env w2); pure ()) _ _ _
    refine wpAny_bind (wpAny_holding (wpAny_assign_Name ?_))
    refine S4.bind (x := x) (sl := .sh v0) (a := 0) (rs' := fun a => rs a ∨ a ∈ wr) (by rw [hsc]; exact hx) (hnx u) r0 (fun h => by cases h) (fun b hb => ⟨hb, fun h => by cases h⟩) fun ad5 s5 st5 S5 => ?_
    refine wpAny_bind (wpAny_holding (wpAny_assign_Name ?_))
    refine S5.bind (x := y) (sl := .sh v1) (a := 0) (rs' := fun a => rs a ∨ a ∈ wr) (by rw [hsc]; exact hy) (by unfold notOwn; rw [lookup_cons_ne hyx]; exact hny u) (st5.rep r1) (fun h => by cases h) (fun b hb => ⟨hb, fun h => by cases h⟩) fun ad6 s6 st6 S6 => ?_
    refine wpAny_bind (wpAny_holding (wpAny_assign_Name ?_))
    refine S6.bind (x := z) (sl := .sh v2) (a := 0) (rs' := fun a => rs a ∨ a ∈ wr) (by rw [hsc]; exact hz) (by unfold notOwn; rw [lookup_cons_ne hzy, lookup_cons_ne hzx]; exact hnz u) (st6.rep (st5.rep r2)) (fun h => by cases h) (fun b hb => ⟨hb, fun h => by cases h⟩) fun ad7 s7 st7 S7 => ?_
    refine wpAny_pure ?_
    have stn := ((((Step.keeps kp4).trans st5).trans st6).trans st7)
    have stb := (st.trans st2).trans (stn.fewer fun _ h => .inl h)
    have hst5 : St (i + 1) s7.heap := W.frame _ _ _ hst3 (walk_kept (s1 := s1) (s2 := { s' with heap := h3, toks := tk2 }) st.1 hfp stn)
    rcases seqO_some q with ⟨u', e, q⟩ | ⟨v', e, rfl⟩
    · refine hb v0 v1 v2 u _ e A env ad7 M' s₀ M₀ _ s7 _ _ ro hsc S7 fun f' M9 ad9 s9 st9 S9 hf => ?_
      cases hf
      exact ⟨vs.length + 1 - (i + 1), by omega, i + 1, u', M9, ad9, hlt, rfl, stb.trans (st9.fewer fun _ h => .inl h), S9, W.frame _ _ _ hst5 (walk_kept stb.1 hfp st9), q⟩
    · refine hb v0 v1 v2 u _ e A env ad7 M' s₀ M₀ _ s7 _ _ ro hsc S7 fun f' M9 ad9 s9 st9 S9 hf => ?_
      obtain ⟨w', rfl, hw'⟩ := hf
      exact SatF.endLoop (r := .ret v') (emb1 := emb1) (s' := s9) S kp hfr hQ (stb.trans (st9.fewer fun _ h => .inl h)) S9 ⟨s9.heap, s9.toks, rfl⟩ (fun _ _ _ e => e) ⟨w', rfl, hw'⟩
  · have hin : i = vs.length := by omega
    subst hin
    rw [List.drop_length] at q
    cases q
    refine W.done _ _ _ hst' fun h2 tk2 up2 => wpAny_execs_nil ?_
    exact SatF.endLoop (r := .cont u) (emb1 := emb1) S kp hfr hQ st S' ⟨h2, tk2, rfl⟩ up2 rfl
end

/-! text ML9 -/
theorem get_none_of_size {h : Heap} {a : Addr} (e : h.objs.size ≤ a) : h.get? a = none := by
  cases q : h.get? a with
  | none => rfl
  | some o => exact absurd (Heap.lt_size q) (Nat.not_lt.mpr e)
theorem none_back {s s' : Shared} {a : Addr} (k : Keeps s s') (e : s'.heap.get? a = none) : s.heap.get? a = none := by
  cases q : s.heap.get? a with
  | none => rfl
  | some o => rw [kh k a o q] at e; cases e

/-! walking over a list -/
def itemsO : Val → Option (List Val)
  | .list l => some l
  | _ => none
theorem It.list {C : Cx} {n : Nat} {sc : Scope} {ρ : Lc} {e : Expr} {o : Option Val} (h : Ev C n sc ρ e o) : It C n sc ρ e (o.bind itemsO) := by
  intro vs q A env ad M s Q E ro hsc S hQ
  obtain ⟨v, hv, q⟩ := obind q
  unfold itemsO at q
  split at q
  · cases q
    refine h _ hv A env ad M s _ E ro hsc S fun w s1 k1 q1 => ?_
    simp only [Rep] at q1
    obtain ⟨a, ws, rfl, hM, hl, hr⟩ := q1
    refine wpAny_pyIter_list hl.isList ?_
    have hal : a < s1.heap.objs.size := by obtain ⟨_, e⟩ := hl; exact Heap.lt_size e
    have hlen := hr.length
    have k2 := keeps_push s1 { cls := .type "list_iterator", data := .fields #[.ref a, .int 0 0] } s1.toks
    have hl2 := isList_agree hl (kh k2 a)
    have W := Walks.list (prog := C.prog) (w := C.w) ro.hd s1.heap.objs.size a (Nat.ne_of_lt hal) (List.toArray ws)
    have e0 : (List.toArray ws).size = _ := List.size_toArray.trans hlen
    rw [e0] at W
    refine hQ _ _ _ _ _ _ (kt k1 k2) W ⟨⟨_, Heap.get?_push_size _ rfl, rfl, rfl⟩, hl2.isList⟩ (fun b hb => ?_) (fun b hb => ?_) (fun i h' st b hb => ?_) (fun i w hw => ?_)
    · simp at hb; subst hb
      exact none_back k1 (get_none_of_size (Nat.le_refl _))
    · simp at hb
      rcases hb with rfl | rfl
      · exact ⟨⟨_, Heap.get?_push_size _ rfl⟩, .inl (by simp)⟩
      · obtain ⟨_, e⟩ := hl2; exact ⟨⟨_, e⟩, .inr hM⟩
    · simp at hb; subst hb
      obtain ⟨o, e, _⟩ := st.1; exact ⟨o, e⟩
    · have hr2 : RepL _ (fun b => M b ∨ b ∈ [s1.heap.objs.size]) _ ws := hr.mono (fun b o _ e => kh k2 b o e) fun b o hb e h => by
        rcases h with h | h
        · exact hb h
        · simp at h; subst h; rw [get_none_of_size (Nat.le_refl _)] at e; cases e
      have hw : (List.toArray ws)[i]? = some w := hw
      exact hr2.getr (by simpa using hw)
  · cases q

/-! walking over a range -/
def rangeL (a c : Int) : Nat → List Val
  | 0 => []
  | n + 1 => .int a :: rangeL (a + c) c n
theorem rangeL_get : ∀ (n : Nat) (a c : Int) (i : Nat), i < n → (rangeL a c n)[i]? = some (.int (a + i * c))
  | 0, _, _, _, h => by omega
  | n + 1, a, c, 0, _ => by simp [rangeL]
  | n + 1, a, c, i + 1, h => by
    have := rangeL_get n (a + c) c i (by omega)
    simp only [rangeL, List.getElem?_cons_succ, this]
    congr 2
    push_cast
    rw [Int.add_mul]; omega
theorem rangeL_length : ∀ (n : Nat) (a c : Int), (rangeL a c n).length = n
  | 0, _, _ => rfl
  | n + 1, a, c => by simp [rangeL, rangeL_length n]
def rangeV (a b c : Int) : Option (List Val) :=
  if Builtin.Range.small a b c && (Nat.blt c.natAbs 1073741824 && Nat.blt 0 c.natAbs) then some (rangeL a c (Builtin.Range.rangeSize a b c).toNat) else none
def rangeF : List Val → Option (List Val)
  | [.int b] => rangeV 0 b 1
  | [.int a, .int b] => rangeV a b 1
  | [.int a, .int b, .int c] => rangeV a b c
  | _ => none

theorem rangeSize_nonneg {a b c : Int} : 0 ≤ Builtin.Range.rangeSize a b c := by
  unfold Builtin.Range.rangeSize
  split
  · split
    · have := Int.ediv_nonneg (a := b - a - 1) (b := c) (by omega) (by omega); omega
    · omega
  · split
    · have := Int.ediv_nonneg (a := a - b - 1) (b := -c) (by omega) (by omega); omega
    · omega

theorem Walks.bound' {prog : Program} {w : World} {A : Around} {I : Addr} {fp wr : List Addr} {n : Nat} {P : Nat → Value → Prop} {St : Nat → Heap → Prop} (W : Walks prog w A I fp wr n P St) : Walks prog w A I fp wr n (fun i v => i < n ∧ P i v) St where
  sub := W.sub
  frame := W.frame
  item := fun i s Q E hi st hQ => W.item i s Q E hi st fun v h' tk hP => hQ v h' tk ⟨hi, hP⟩
  done := W.done
  self := W.self

theorem range_walk {C : Cx} {A : Around} {M : Addr → Prop} {s s1 : Shared} {Q E : Value → Shared → Prop} {r : Addr} {a b c : Int} {t u v : Tok} (hd : A.handled = none) (kp : Keeps s s1)
    (hr : IsRange s1.heap r a b c t u v) (hsm : Builtin.Range.small a b c = true)
    (hQ : ∀ (I : Addr) (fp wr : List Addr) (P : Nat → Value → Prop) (St : Nat → Heap → Prop) s', Keeps s s' → Walks C.prog C.w A I fp wr (rangeL a c (Builtin.Range.rangeSize a b c).toNat).length P St → St 0 s'.heap →
      (∀ b, b ∈ wr → s.heap.get? b = none) → (∀ b, b ∈ fp → (∃ o, s'.heap.get? b = some o) ∧ (b ∈ wr ∨ ¬ M b)) → (∀ i h, St i h → ∀ b, b ∈ wr → ∃ o, h.get? b = some o) →
      (∀ i w, P i w → ∃ v, (rangeL a c (Builtin.Range.rangeSize a b c).toNat)[i]? = some v ∧ Rep s'.heap (fun b => M b ∨ b ∈ wr) v w) → Q (.ref I) s') :
    wpAny (model C.prog C.w) A (pyIter (.ref r)) Q E s1 := by
  refine wpAny_pyIter_range hr hsm ?_
  have k2 := keeps_push s1 { cls := .type "range_iterator", data := .fields #[rawInt a, rawInt (Builtin.Range.rangeSize a b c), rawInt c] } s1.toks
  have W := Walks.bound' (Walks.range (prog := C.prog) (w := C.w) hd s1.heap.objs.size a c (Builtin.Range.rangeSize a b c).toNat)
  have e0 : (((Builtin.Range.rangeSize a b c).toNat : Nat) : Int) = Builtin.Range.rangeSize a b c := Int.toNat_of_nonneg rangeSize_nonneg
  refine hQ s1.heap.objs.size [s1.heap.objs.size] [s1.heap.objs.size] _ _ _ (kt kp k2) (by rw [rangeL_length]; exact W) ?_ (fun b hb => ?_) (fun b hb => ?_) (fun i h' st b hb => ?_) (fun i w hw => ?_)
  · show IsRangeIter _ _ (a + ((0 : Nat) : Int) * c) ((((Builtin.Range.rangeSize a b c).toNat : Nat) : Int) - ((0 : Nat) : Int)) c
    rw [e0]
    simp only [Int.natCast_zero, Int.zero_mul, Int.add_zero, Int.sub_zero]
    exact Heap.get?_push_size _ rfl
  · simp at hb; subst hb
    exact none_back kp (get_none_of_size (Nat.le_refl _))
  · simp at hb; subst hb
    exact ⟨⟨_, Heap.get?_push_size _ rfl⟩, .inl (by simp)⟩
  · simp at hb; subst hb
    exact ⟨_, st⟩
  · obtain ⟨hi, tk, rfl⟩ := hw
    exact ⟨_, rangeL_get _ _ _ _ hi, rep_int⟩

theorem repL3' {h : Heap} {M : Addr → Prop} {v u t : Val} {ws : List Value} (x : RepL h M [v, u, t] ws) : ∃ a b c, ws = [a, b, c] ∧ Rep h M v a ∧ Rep h M u b ∧ Rep h M t c := repL3 x

theorem It.range {C : Cx} {n : Nat} {sc : Scope} {ρ : Lc} {e : Expr} {es : List Expr} {p pos : Pos} {oa : Option (List Val)}
    (ha : EvL C n sc ρ (e :: es) oa) (hx : sc.names.lookup ("range" : Str) = some .globalImplicit := by rfl)
    (hp : PlainArgs e es := by exact ⟨fun _ => rfl, fun _ _ => rfl⟩) : It C n sc ρ (.Call (.Name "range" p) (e :: es) [] pos) (oa.bind rangeF) := by
  intro vs q A env ad M s Q E ro hsc S hQ
  obtain ⟨as, hv, q⟩ := obind q
  refine wpAny_Call_NameR (load_builtin S (by show env.scope.names.lookup _ = _; rw [hsc]; exact hx) (fv := .type "range") (by simp [builtinNames]) (by decide) ?_)
  refine callWith_typeM hp (ha as hv A env ad M s pos _ E ro hsc S fun ws s1 k1 q1 => ?_)
  have fin : ∀ (s2 : Shared) (r : Addr) (a b c : Int) (t u v : Tok), Keeps s s2 → IsRange s2.heap r a b c t u v → rangeV a b c = some vs → wpAny (model C.prog C.w) A (pyIter (.ref r)) Q E s2 := by
    intro s2 r a b c t u v kp hr hq
    unfold rangeV at hq
    split at hq
    · rename_i hz
      simp only [Bool.and_eq_true] at hz
      cases hq
      exact range_walk ro.hd kp hr hz.1 hQ
    · cases hq
  unfold rangeF at q
  split at q
  · rename_i b
    obtain ⟨w, rfl, r1⟩ := repL1 q1
    simp only [Rep] at r1
    obtain ⟨t, rfl⟩ := r1
    exact call_range_1 (fin _ _ 0 b 1 _ _ _ (kt k1 (keeps_push s1 _ _)) (IsRange.new ..) q)
  · rename_i a b
    obtain ⟨w, z, rfl, r1, r2⟩ := repL2 q1
    simp only [Rep] at r1 r2
    obtain ⟨t, rfl⟩ := r1
    obtain ⟨u, rfl⟩ := r2
    exact call_range_2 (fin _ _ a b 1 _ _ _ (kt k1 (keeps_push s1 _ _)) (IsRange.new ..) q)
  · rename_i a b c
    obtain ⟨w, z, y, rfl, r1, r2, r3⟩ := repL3 q1
    simp only [Rep] at r1 r2 r3
    obtain ⟨t, rfl⟩ := r1
    obtain ⟨u, rfl⟩ := r2
    obtain ⟨v, rfl⟩ := r3
    have hz : Nat.blt c.natAbs 1073741824 = true ∧ Nat.blt 0 c.natAbs = true := by
      unfold rangeV at q
      split at q
      · rename_i hz
        simp only [Bool.and_eq_true] at hz
        exact hz.2
      · cases q
    have h1 := blt_lt hz.1
    have h2 := blt_lt hz.2
    exact call_range_3 (by omega) (fin _ _ a b c _ _ _ (kt k1 (keeps_push s1 _ _)) (IsRange.new ..) q) (.inl (PyProof.noPylong_small h1))
  · cases q

/-! walking over pairs -/
theorem off_ne {n i j : Nat} (h : i ≠ j) : (n + i : Nat) ≠ n + j := by omega
theorem off_ne0 {n j : Nat} (h : 0 ≠ j) : n ≠ n + j := by omega
theorem off_ne0' {n j : Nat} (h : j ≠ 0) : n + j ≠ n := by omega
theorem below_ne {n a : Nat} (k : Nat) (h : a < n) : a ≠ n + k := by omega
def enumV : Nat → List Val → List (List Val)
  | _, [] => []
  | i, v :: l => [.int (Int.ofNat i), v] :: enumV (i + 1) l
theorem enumV_get : ∀ (l : List Val) (i j : Nat) (v : Val), l[j]? = some v → (enumV i l)[j]? = some [.int (Int.ofNat (i + j)), v]
  | [], _, _, _, e => by simp at e
  | u :: l, i, 0, v, e => by simp at e; subst e; simp [enumV]
  | u :: l, i, j + 1, v, e => by
    have := enumV_get l (i + 1) j v (by simpa using e)
    simp only [enumV, List.getElem?_cons_succ, this]
    rw [show i + 1 + j = i + (j + 1) by omega]
theorem enumV_length : ∀ (l : List Val) (i : Nat), (enumV i l).length = l.length
  | [], _ => rfl
  | u :: l, i => by simp [enumV, enumV_length l]
def enumO : List Val → Option (List (List Val))
  | [.list l] => some (enumV 0 l)
  | _ => none

theorem ItT.enumerate {C : Cx} {n : Nat} {sc : Scope} {ρ : Lc} {e : Expr} {p pos : Pos} {oa : Option (List Val)}
    (ha : EvL C n sc ρ [e] oa) (hx : sc.names.lookup ("enumerate" : Str) = some .globalImplicit := by rfl)
    (hp : PlainArgs e [] := by exact ⟨fun _ => rfl, fun _ _ => rfl⟩) : ItT C n sc ρ (.Call (.Name "enumerate" p) [e] [] pos) (oa.bind enumO) := by
  intro vs q A env ad M s Q E ro hsc S hQ
  obtain ⟨as, hv, q⟩ := obind q
  refine wpAny_Call_NameR (load_builtin S (by show env.scope.names.lookup _ = _; rw [hsc]; exact hx) (fv := .type "enumerate") (by simp [builtinNames]) (by decide) ?_)
  refine callWith_typeM hp (ha as hv A env ad M s pos _ E ro hsc S fun ws s1 k1 q1 => ?_)
  unfold enumO at q
  split at q
  · rename_i l
    cases q
    obtain ⟨w, rfl, r1⟩ := repL1 q1
    simp only [Rep] at r1
    obtain ⟨a, ws, rfl, hM, hl, hr⟩ := r1
    refine call_enumerate_list hl.isList fun h2 he hit hsz up => ?_
    have k2 : Keeps s1 { s1 with heap := h2 } := ⟨h2, s1.toks, rfl, up⟩
    have hal : a < s1.heap.objs.size := by obtain ⟨_, e⟩ := hl; exact Heap.lt_size e
    have hlen := hr.length
    have hl2 : h2.PlainList a (List.toArray ws) := isList_agree hl (kh k2 a)
    refine wpAny_pyIter_enum he ?_
    have W := (WalksT.enumerate (prog := C.prog) (w := C.w) ro.hd (s1.heap.objs.size + 1) s1.heap.objs.size a (Nat.succ_ne_self _) (below_ne 1 hal) (Nat.ne_of_lt hal) (List.toArray ws)).toU
    have e0 : (List.toArray ws).size = _ := List.size_toArray.trans hlen
    rw [e0, ← enumV_length l 0] at W
    refine hQ _ _ _ _ _ _ _ (kt k1 k2) W ⟨⟨_, he⟩, hit, hl2.isList⟩ (fun b hb => ?_) (fun b hb => ?_) (fun i h' st b hb => ?_) (fun i T h' st b hb => ?_) (fun i vals hw => ?_)
    · simp at hb
      rcases hb with rfl | rfl <;> exact none_back k1 (get_none_of_size (by omega))
    · simp at hb
      rcases hb with rfl | rfl | rfl
      · exact ⟨⟨_, he⟩, .inl (by simp)⟩
      · obtain ⟨o, e, _⟩ := hit; exact ⟨⟨o, e⟩, .inl (by simp)⟩
      · obtain ⟨_, e⟩ := hl2; exact ⟨⟨_, e⟩, .inr hM⟩
    · simp at hb
      obtain ⟨⟨old, e1⟩, ⟨o, e2, _⟩, _⟩ := st
      rcases hb with rfl | rfl
      · exact ⟨_, e1⟩
      · exact ⟨o, e2⟩
    · simp at hb
      obtain ⟨⟨old, e1⟩, ⟨o, e2, _⟩, _⟩ := st
      rcases hb with rfl | rfl
      · exact ⟨_, e1⟩
      · exact ⟨o, e2⟩
    · obtain ⟨t, x, hx', rfl⟩ := hw
      have hr2 : RepL h2 (fun b => M b ∨ b ∈ [s1.heap.objs.size + 1, s1.heap.objs.size]) _ ws := hr.mono (fun b o _ e => up b o e) fun b o hb e h => by
        rcases h with h | h
        · exact hb h
        · simp at h
          rcases h with rfl | rfl <;> (rw [get_none_of_size (by omega)] at e; cases e)
      obtain ⟨v, hv', hrv⟩ := hr2.getr (i := i) (w := x) (by simpa using hx')
      refine ⟨_, [.int i t, x], enumV_get _ 0 i v hv', rfl, ?_⟩
      rw [Nat.zero_add]
      exact RepL.cons rep_int (RepL.cons hrv .nil)
  · cases q

def zipV : List Val → List Val → List (List Val)
  | a :: l, b :: l' => [a, b] :: zipV l l'
  | _, _ => []
theorem zipV_get : ∀ (l l' : List Val) (j : Nat) (v u : Val), l[j]? = some v → l'[j]? = some u → (zipV l l')[j]? = some [v, u]
  | [], _, _, _, _, e, _ => by simp at e
  | _ :: _, [], _, _, _, _, e => by simp at e
  | a :: l, b :: l', 0, v, u, e, e' => by simp at e e'; subst e e'; simp [zipV]
  | a :: l, b :: l', j + 1, v, u, e, e' => by
    simp only [zipV, List.getElem?_cons_succ]
    exact zipV_get l l' j v u (by simpa using e) (by simpa using e')
theorem zipV_length : ∀ (l l' : List Val), (zipV l l').length = min l.length l'.length
  | [], _ => by simp [zipV]
  | _ :: _, [] => by simp [zipV]
  | a :: l, b :: l' => by simp [zipV, zipV_length l l']
def zipO : List Val → Option (List (List Val))
  | [.list l, .list l'] => some (zipV l l')
  | _ => none

theorem ItT.zip2 {C : Cx} {n : Nat} {sc : Scope} {ρ : Lc} {e1 e2 : Expr} {p pos : Pos} {oa : Option (List Val)}
    (ha : EvL C n sc ρ [e1, e2] oa) (hx : sc.names.lookup ("zip" : Str) = some .globalImplicit := by rfl)
    (hp : PlainArgs e1 [e2] := by exact ⟨fun _ => rfl, fun _ _ => rfl⟩) : ItT C n sc ρ (.Call (.Name "zip" p) [e1, e2] [] pos) (oa.bind zipO) := by
  intro vs q A env ad M s Q E ro hsc S hQ
  obtain ⟨as, hv, q⟩ := obind q
  refine wpAny_Call_NameR (load_builtin S (by show env.scope.names.lookup _ = _; rw [hsc]; exact hx) (fv := .type "zip") (by simp [builtinNames]) (by decide) ?_)
  refine callWith_typeM hp (ha as hv A env ad M s pos _ E ro hsc S fun ws s1 k1 q1 => ?_)
  unfold zipO at q
  split at q
  · rename_i l l'
    cases q
    obtain ⟨w, z, rfl, r1, r2⟩ := repL2 q1
    simp only [Rep] at r1 r2
    obtain ⟨a, ws, rfl, hM, hl, hr⟩ := r1
    obtain ⟨a', ws', rfl, hM', hl', hr'⟩ := r2
    refine call_zip_2 hl.isList hl'.isList fun h2 hz hTI hTO hi1 hi2 hsz up => ?_
    have k2 : Keeps s1 { s1 with heap := h2 } := ⟨h2, s1.toks, rfl, up⟩
    have hal : a < s1.heap.objs.size := by obtain ⟨_, e⟩ := hl; exact Heap.lt_size e
    have hal' : a' < s1.heap.objs.size := by obtain ⟨_, e⟩ := hl'; exact Heap.lt_size e
    have hlen := hr.length
    have hlen' := hr'.length
    have hl2 : h2.PlainList a (List.toArray ws) := isList_agree hl (kh k2 a)
    have hl2' : h2.PlainList a' (List.toArray ws') := isList_agree hl' (kh k2 a')
    refine wpAny_pyIter_zip hz ?_
    have W := (WalksT.zip2 (prog := C.prog) (w := C.w) ro.hd (s1.heap.objs.size + 4) (s1.heap.objs.size + 2) (s1.heap.objs.size + 3) s1.heap.objs.size (s1.heap.objs.size + 1) a a'
      ⟨off_ne (by decide), off_ne (by decide), off_ne0 (by decide), off_ne (by decide), off_ne (by decide), off_ne0' (by decide), off_ne (by decide), off_ne0' (by decide), off_ne (by decide), off_ne0 (by decide), below_ne 4 hal, below_ne 3 hal, below_ne 0 hal, below_ne 1 hal, below_ne 4 hal', below_ne 3 hal', below_ne 0 hal', below_ne 1 hal'⟩ (List.toArray ws) (List.toArray ws')).toU
    have e0 : (List.toArray ws).size = _ := List.size_toArray.trans hlen
    have e0' : (List.toArray ws').size = _ := List.size_toArray.trans hlen'
    rw [e0, e0', ← zipV_length l l'] at W
    refine hQ _ _ _ _ _ _ _ (kt k1 k2) W ⟨hz, hTI, ⟨_, _, hTO⟩, hi1, hi2, hl2.isList, hl2'.isList⟩ (fun b hb => ?_) (fun b hb => ?_) (fun i h' st b hb => ?_) (fun i T h' st b hb => ?_) (fun i vals hw => ?_)
    · simp at hb
      rcases hb with rfl | rfl | rfl | rfl <;> exact none_back k1 (get_none_of_size (by omega))
    · simp only [List.mem_cons, List.not_mem_nil, or_false] at hb
      rcases hb with rfl | rfl | rfl | rfl | rfl | rfl | rfl
      · exact ⟨⟨_, hz⟩, .inl (by simp)⟩
      · refine ⟨⟨_, hTI⟩, .inr fun h => ?_⟩
        obtain ⟨o, e⟩ := S.live _ h
        rw [none_back k1 (get_none_of_size (by omega))] at e; cases e
      · exact ⟨⟨_, hTO⟩, .inl (by simp)⟩
      · obtain ⟨o, e, _⟩ := hi1; exact ⟨⟨o, e⟩, .inl (by simp)⟩
      · obtain ⟨o, e, _⟩ := hi2; exact ⟨⟨o, e⟩, .inl (by simp)⟩
      · obtain ⟨_, e⟩ := hl2; exact ⟨⟨_, e⟩, .inr hM⟩
      · obtain ⟨_, e⟩ := hl2'; exact ⟨⟨_, e⟩, .inr hM'⟩
    · simp at hb
      obtain ⟨e1, _, ⟨_, _, e2⟩, ⟨o3, e3, _⟩, ⟨o4, e4, _⟩, _⟩ := st
      rcases hb with rfl | rfl | rfl | rfl
      · exact ⟨_, e1⟩
      · exact ⟨_, e2⟩
      · exact ⟨_, e3⟩
      · exact ⟨_, e4⟩
    · simp at hb
      obtain ⟨e1, _, ⟨_, _, e2⟩, ⟨o3, e3, _⟩, ⟨o4, e4, _⟩, _⟩ := st
      rcases hb with rfl | rfl | rfl | rfl
      · exact ⟨_, e1⟩
      · exact ⟨_, e2⟩
      · exact ⟨_, e3⟩
      · exact ⟨_, e4⟩
    · obtain ⟨x, y, hx', hy', rfl⟩ := hw
      have sub : ∀ b o, ¬ M b → s1.heap.get? b = some o → ¬ (M b ∨ b ∈ [s1.heap.objs.size + 4, s1.heap.objs.size + 3, s1.heap.objs.size, s1.heap.objs.size + 1]) := fun b o hb e h => by
        rcases h with h | h
        · exact hb h
        · simp at h
          rcases h with rfl | rfl | rfl | rfl <;> (rw [get_none_of_size (by omega)] at e; cases e)
      have hr2 := hr.mono (h' := h2) (fun b o _ e => up b o e) sub
      have hr2' := hr'.mono (h' := h2) (fun b o _ e => up b o e) sub
      obtain ⟨v, hv', hrv⟩ := hr2.getr (i := i) (w := x) (by simpa using hx')
      obtain ⟨u, hu', hru⟩ := hr2'.getr (i := i) (w := y) (by simpa using hy')
      exact ⟨_, [x, y], zipV_get _ _ i v u hv' hu', rfl, RepL.cons hrv (RepL.cons hru .nil)⟩
  · cases q

/-! text ML10 -/
/-! a def of the text, entered -/
def lcOfArgs : List Str → List Val → Lc
  | x :: xs, v :: vs => (x, .sh v) :: lcOfArgs xs vs
  | _, _ => []
theorem lcOfArgs_sh : ∀ {xs : List Str} {vs : List Val} {x : Str} {sl : Slot}, (lcOfArgs xs vs).lookup x = some sl → ∃ v, sl = .sh v
  | [], _, _, _, h => by simp [lcOfArgs] at h
  | _ :: _, [], _, _, h => by simp [lcOfArgs] at h
  | y :: xs, v :: vs, x, sl, h => by
    unfold lcOfArgs at h
    rw [List.lookup_cons] at h
    split at h
    · cases h; exact ⟨v, rfl⟩
    · exact lcOfArgs_sh h

theorem bindL_skip {kindOf : Str → Option NameKind} : ∀ {bs : List (Str × Value)} {m : Str → Option Value} {x : Str}, (∀ p ∈ bs, p.1 ≠ x) → bindL kindOf bs m x = m x
  | [], _, _, _ => rfl
  | (n, v) :: r, m, x, h => by
    unfold bindL
    rw [bindL_skip fun p hp => h p (List.mem_cons_of_mem _ hp)]
    have hne : ¬ x = n := fun e => h (n, v) List.mem_cons_self e.symm
    split
    · simp [hne]
    · rfl
theorem bindC_skip {kindOf : Str → Option NameKind} : ∀ {bs : List (Str × Value)} {m : Str → Option Value} {x : Str}, (∀ p ∈ bs, p.1 ≠ x) → bindC kindOf bs m x = m x
  | [], _, _, _ => rfl
  | (n, v) :: r, m, x, h => by
    unfold bindC
    rw [bindC_skip fun p hp => h p (List.mem_cons_of_mem _ hp)]
    have hne : ¬ x = n := fun e => h (n, v) List.mem_cons_self e.symm
    split
    · rfl
    · simp [hne]

theorem zip_names {xs : List Str} {ws : List Value} {p : Str × Value} (h : p ∈ xs.zip ws) : p.1 ∈ xs := (List.of_mem_zip (a := p.1) (b := p.2) h).1

theorem args_held {kindOf : Str → Option NameKind} {h : Heap} {M : Addr → Prop} : ∀ {xs : List Str} {vs : List Val} {ws : List Value} {m cm : Str → Option Value} {x : Str} {sl : Slot}, xs.Nodup → RepL h M vs ws → (lcOfArgs xs vs).lookup x = some sl →
    ∃ v w, sl = .sh v ∧ Rep h M v w ∧ x ∈ xs ∧ (kindOf x = some .local → bindL kindOf (xs.zip ws) m x = some w) ∧ (kindOf x ≠ some .local → bindC kindOf (xs.zip ws) cm x = some w)
  | [], _, _, _, _, _, _, _, _, q => by simp [lcOfArgs] at q
  | _ :: _, [], _, _, _, _, _, _, _, q => by simp [lcOfArgs] at q
  | y :: xs, v :: vs, ws, m, cm, x, sl, hnd, hr, q => by
    simp only [RepL] at hr
    obtain ⟨w, ws, rfl, h1, h2⟩ := hr
    obtain ⟨hny, hnd⟩ := List.nodup_cons.mp hnd
    unfold lcOfArgs at q
    rw [List.lookup_cons] at q
    split at q
    · rename_i hxy
      have hxy : x = y := by simpa using hxy
      subst hxy
      cases q
      have skip : ∀ p ∈ xs.zip ws, p.1 ≠ x := fun p hp e => hny (e ▸ zip_names hp)
      refine ⟨v, w, rfl, h1, List.mem_cons_self, fun hk => ?_, fun hk => ?_⟩
      · show bindL kindOf ((x, w) :: xs.zip ws) m x = some w
        unfold bindL
        rw [bindL_skip skip, if_pos hk]; simp
      · show bindC kindOf ((x, w) :: xs.zip ws) cm x = some w
        unfold bindC
        rw [bindC_skip skip, if_neg hk]; simp
    · obtain ⟨v', w', rfl, hr', hm, a, b⟩ := args_held (m := if kindOf y = some .local then fun z => if z = y then some w else m z else m) (cm := if kindOf y = some .local then cm else fun z => if z = y then some w else cm z) hnd h2 q
      refine ⟨v', w', rfl, hr', List.mem_cons_of_mem _ hm, fun hk => ?_, fun hk => ?_⟩
      · show bindL kindOf ((y, w) :: xs.zip ws) m x = some w'
        unfold bindL; exact a hk
      · show bindC kindOf ((y, w) :: xs.zip ws) cm x = some w'
        unfold bindC; exact b hk

theorem cellsFrom_has : ∀ (names : List (Str × NameKind)) (k : Nat) (acc : List (Str × Addr)) (x : Str), (acc.lookup x).isSome = true ∨ names.lookup x = some .cell → ((cellsFrom k names acc).lookup x).isSome = true
  | [], _, _, _, h => by
    rcases h with h | h
    · exact h
    · cases h
  | (n, kd) :: r, k, acc, x, h => by
    unfold cellsFrom
    split
    · rename_i hk
      refine cellsFrom_has r _ _ x ?_
      by_cases hx : x = n
      · subst hx; left; simp [List.lookup]
      · have hb : (x == n) = false := by simpa using hx
        rcases h with h | h
        · left; rw [List.lookup_cons, hb]; exact h
        · right; rw [List.lookup_cons, hb] at h; exact h
    · rename_i hk
      refine cellsFrom_has r _ _ x ?_
      rcases h with h | h
      · exact .inl h
      · by_cases hx : x = n
        · subst hx
          rw [List.lookup_cons] at h
          simp at h
          subst h
          exact absurd rfl hk
        · have hb : (x == n) = false := by simpa using hx
          right; rw [List.lookup_cons, hb] at h; exact h

def okNames (d : DefRec) (xs : List Str) : Bool := xs.all fun x => d.scope.names.lookup x == some .local || (d.scope.names.lookup x == some .cell && !(x == ("__classdict__" : Str)))
def outV : Out Unit → Option Val
  | .ret v => some v
  | .cont _ => none
def emb0 : Unit → Lc := fun _ => []

theorem enter_sat {C : Cx} {M : Addr → Prop} {s : Shared} {d : DefRec} {xs : List Str} {vs : List Val} {ws : List Value} {a : Addr} {cd : Value} {h₁ : Heap} {tk : Nat} (T : TopOK C s.heap) (live : ∀ a, M a → ∃ o, s.heap.get? a = some o) (hr : RepL s.heap M vs ws)
    (hnd : xs.Nodup) (hnm : okNames d xs = true) (hk : d.scope.kind = .function) (F : Fr s.heap s.heap.objs.size h₁ (bindL (envOfC d.name d.scope s.heap.objs.size a cd).kindOf (xs.zip ws) fun _ => none))
    (X : Cl s.heap.objs.size (cellsFrom (s.heap.objs.size + 1) d.scope.names []) h₁ (bindC (envOfC d.name d.scope s.heap.objs.size a cd).kindOf (xs.zip ws) fun _ => none)) (ad : Str → Addr) :
    SatF C (fun b => M b ∨ b = s.heap.objs.size ∨ ∃ x, (cellsFrom (s.heap.objs.size + 1) d.scope.names []).lookup x = some b) ad (envOfC d.name d.scope s.heap.objs.size a cd) s M (fun _ => False) (lcOfArgs xs vs) { s with heap := h₁, toks := tk } := by
  have hLn : s.heap.get? s.heap.objs.size = none := get_none_of_size (Nat.le_refl _)
  have hcn : ∀ x c, (cellsFrom (s.heap.objs.size + 1) d.scope.names []).lookup x = some c → s.heap.get? c = none := fun x c e => get_none_of_size (Nat.le_of_lt (X.above x c (mem_of_lookup e)))
  have hag : Agree M s.heap h₁ := fun b o _ e => F.keep b o e
  have hsub : ∀ b o, ¬ M b → s.heap.get? b = some o → ¬ (M b ∨ b = s.heap.objs.size ∨ ∃ x, (cellsFrom (s.heap.objs.size + 1) d.scope.names []).lookup x = some b) := fun b o hb e h => by
    rcases h with h | rfl | ⟨x, h⟩
    · exact hb h
    · rw [hLn] at e; cases e
    · rw [hcn x b h] at e; cases e
  refine ⟨⟨T.keeps F.keep, rfl, rfl, hk, fun b hb => ?_, fun x sl e => ?_⟩, T, ⟨h₁, tk, rfl⟩, F.keep, fun b hb => ⟨.inl hb, live b hb⟩, ⟨.inr (.inl rfl), hLn, _, F.ns⟩, fun x c e => ⟨.inr (.inr ⟨x, e⟩), hcn x c e, _, X.cell x c e⟩, fun x e => ?_, fun x y c e e' => name_of_addr X.apart (mem_of_lookup e) (mem_of_lookup e'),
    fun x l e => ?_, fun x y l l' e => ?_, fun _ h => h.elim⟩
  · rcases hb with h | rfl | ⟨x, h⟩
    · obtain ⟨o, e⟩ := live b h; exact ⟨o, F.keep b o e⟩
    · obtain ⟨o, _, _, e, _⟩ := F.ns; exact ⟨o, e⟩
    · obtain ⟨o, e, _⟩ := X.cell x b h; exact ⟨o, e⟩
  · obtain ⟨v, w, rfl, hrv, hm, h1, h2⟩ := args_held (kindOf := (envOfC d.name d.scope s.heap.objs.size a cd).kindOf) (m := fun _ => none) (cm := fun _ => none) hnd hr e
    refine ⟨w, ?_, Rep.mono (v := v) hag hsub hrv⟩
    have := List.all_eq_true.mp hnm x hm
    simp only [Bool.or_eq_true, Bool.and_eq_true, beq_iff_eq, Bool.not_eq_true'] at this
    rcases this with hl | ⟨hl, hcd⟩
    · exact .inl ⟨hl, _, F.ns, h1 hl⟩
    · obtain ⟨c, hc⟩ := Option.isSome_iff_exists.mp (cellsFrom_has d.scope.names (s.heap.objs.size + 1) [] x (.inr hl))
      have hnl : (envOfC d.name d.scope s.heap.objs.size a cd).kindOf x ≠ some .local := by
        show d.scope.names.lookup x ≠ some .local
        rw [hl]; decide
      have hcell := X.cell x c hc
      rw [h2 hnl] at hcell
      exact .inr ⟨.inl hl, hcd, c, hc, hcell⟩
  · exact Option.isSome_iff_exists.mp (cellsFrom_has d.scope.names (s.heap.objs.size + 1) [] x (.inr e))
  · obtain ⟨v, e'⟩ := lcOfArgs_sh e; cases e'
  · obtain ⟨v, e'⟩ := lcOfArgs_sh e; cases e'

theorem names_kind {d : DefRec} {xs : List Str} {ws : List Value} {k : Nat} (hnm : okNames d xs = true) :
    ∀ x ∈ xs.zip ws, d.scope.names.lookup x.1 = some .local ∨ (d.scope.names.lookup x.1 = some .cell ∧ ((cellsFrom k d.scope.names []).lookup x.1).isSome = true) := fun p hp => by
  have := List.all_eq_true.mp hnm p.1 (zip_names hp)
  simp only [Bool.or_eq_true, Bool.and_eq_true, beq_iff_eq, Bool.not_eq_true'] at this
  rcases this with hl | ⟨hl, _⟩
  · exact .inl hl
  · exact .inr ⟨hl, cellsFrom_has _ _ _ _ (.inr hl)⟩

theorem CallD.mk {C : Cx} {n : Nat} {d : DefRec} (xs : List Str) {g : List Val → Option (Out Unit)} (hB : ∀ vs, Bk C n d.scope (lcOfArgs xs vs) d.body emb0 (g vs))
    (hbind : ∀ vs ws h M, g vs ≠ none → RepL h M vs ws → ∀ pm cd doc, bindArgs (docDef d.name d.params d.body d.scope pm cd doc) ⟨ws, []⟩ = pure (xs.zip ws))
    (hnd : xs.Nodup := by decide) (hnm : okNames d xs = true := by rfl) (hk : d.scope.kind = .function := by rfl) (hco : d.scope.isCoroutine = false := by rfl) (hgen : d.scope.isGenerator = false := by rfl) :
    CallD C (n + 1) d (fun vs => (g vs).bind outV) := by
  intro vs v q A M s ws a Q E ro T live hfn hr hQ
  obtain ⟨o, pm, cd, doc, ho, hod, hcr⟩ := hfn.obj
  obtain ⟨r, hg, q⟩ := obind q
  cases r with
  | cont x => cases q
  | ret v' =>
    cases q
    refine wpAny_call (call_cells (by have := ro.dep; omega) ho hod T.lim hcr (hbind vs ws _ _ (by rw [hg]; simp) hr pm cd doc) (names_kind hnm) (fun h₁ tk F X => ?_) hco hgen hk)
    have S := enter_sat (tk := tk) T live hr hnd hnm hk F X (fun _ => 0)
    refine hB vs _ hg _ _ _ _ s M _ _ _ _ (ro.deeper _) rfl S fun f M' ad' s' st S' hf => ?_
    obtain ⟨w, rfl, hw⟩ := hf
    refine hQ w s' ?_ (Rep.mono (v := v) (fun _ _ _ e => e) (fun b o hb _ hm => hb (S'.base b hm).1) hw)
    obtain ⟨h', tk', e⟩ := S'.same
    exact ⟨h', tk', e, fun b o e' => by have := S'.keep b o e'; rw [e] at this; exact this⟩

/-! text ML11 -/
/-! comprehensions -/
def relabelS (scope sc : Scope) : Scope :=
  { scope with names := scope.names.map fun (n, k) => if (k == .free && sc.kind == .function && sc.names.lookup n == some .cell) then (n, .cell) else (n, k) }
theorem relabelS_eq {scope sc : Scope} {env : Env} (h : env.scope = sc) : relabel scope env = relabelS scope sc := by subst h; rfl

structure CompScope (sc scope : Scope) (ρ : Lc) : Prop where
  kind : scope.kind = .function
  cell : ∀ y ∈ scope.names, y.2 ≠ .cell
  names : ∀ y ∈ scope.names, y.2 = .local → scope.names.lookup y.1 = some .local
  free : ∀ y ∈ scope.names, y.2 = .free → sc.names.lookup y.1 = some .cell ∧ (ρ.lookup y.1).isSome = true
def compScopeB (sc scope : Scope) (ρ : Lc) : Bool := (scope.kind == .function) && scope.names.all fun y => match y.2 with
  | .cell => false
  | .local => scope.names.lookup y.1 == some .local
  | .free => sc.names.lookup y.1 == some .cell && (ρ.lookup y.1).isSome
  | _ => true
theorem compScope_of {sc scope : Scope} {ρ : Lc} (h : compScopeB sc scope ρ = true) : CompScope sc scope ρ := by
  unfold compScopeB at h
  simp only [Bool.and_eq_true, beq_iff_eq, List.all_eq_true] at h
  refine ⟨h.1, fun y hy e => ?_, fun y hy e => ?_, fun y hy e => ?_⟩
  · have := h.2 y hy; rw [e] at this; cases this
  · have := h.2 y hy; rw [e] at this; simpa using this
  · have := h.2 y hy; rw [e] at this; simpa using this

def CompIn (sc scope : Scope) (ρ ρc : Lc) : Prop := ∀ y sl, ρc.lookup y = some sl → ρ.lookup y = some sl ∧ sc.names.lookup y = some .cell ∧ scope.names.lookup y = some .free ∧ (relabelS scope sc).names.lookup y = some .cell ∧ (y == ("__classdict__" : Str)) = false
theorem CompIn.nil {sc scope : Scope} {ρ : Lc} : CompIn sc scope ρ [] := fun _ _ h => by simp at h
theorem CompIn.cons {sc scope : Scope} {ρ ρc : Lc} {x : Str} {sl : Slot} (h : CompIn sc scope ρ ρc) (h1 : ρ.lookup x = some sl := by rfl) (h2 : sc.names.lookup x = some .cell := by rfl) (h3 : scope.names.lookup x = some .free := by rfl)
    (h4 : (relabelS scope sc).names.lookup x = some .cell := by rfl) (h5 : (x == ("__classdict__" : Str)) = false := by decide) : CompIn sc scope ρ ((x, sl) :: ρc) := fun y s e => by
  by_cases hy : y = x
  · subst hy; rw [lookup_cons_self] at e; cases e; exact ⟨h1, h2, h3, h4, h5⟩
  · rw [lookup_cons_ne hy] at e; exact h y s e
theorem Sub.nil {ρ : Lc} : Sub [] ρ := fun _ _ h => by simp at h
theorem Sub.cons {ρ ρ' : Lc} {x : Str} {sl : Slot} (h : Sub ρ' ρ) (h1 : ρ.lookup x = some sl := by rfl) : Sub ((x, sl) :: ρ') ρ := fun y s e => by
  by_cases hy : y = x
  · subst hy; rw [lookup_cons_self] at e; cases e; exact h1
  · rw [lookup_cons_ne hy] at e; exact h y s e

theorem closure_go {env : Env} (f : Str × NameKind → List (Str × Addr) → Sem (ForInStep (List (Str × Addr))))
    (hf : ∀ n k acc c, (k = .free → env.cells.lookup n = some c) → f (n, k) acc = pure (.yield (if k == .free then (n, c) :: acc else acc))) : ∀ (names : List (Str × NameKind)) (acc : List (Str × Addr)),
    (∀ y c, acc.lookup y = some c → env.cells.lookup y = some c) → (∀ y ∈ names, y.2 = .free → ∃ c, env.cells.lookup y.1 = some c) →
    ∃ cl, forIn names acc f = pure cl ∧ (∀ y c, cl.lookup y = some c → env.cells.lookup y = some c) ∧ (∀ y, (acc.lookup y).isSome = true ∨ (y, NameKind.free) ∈ names → (cl.lookup y).isSome = true)
  | [], acc, h, _ => ⟨acc, by rw [List.forIn_nil], h, fun y hy => by
      rcases hy with hy | hy
      · exact hy
      · cases hy⟩
  | (n, k) :: r, acc, h, hr => by
    by_cases hk : k = .free
    · subst hk
      obtain ⟨c, hc⟩ := hr (n, .free) List.mem_cons_self rfl
      obtain ⟨cl, e, h1, h2⟩ := closure_go f hf r ((n, c) :: acc) (fun y c' e => by
        by_cases hy : y = n
        · subst hy; simp [List.lookup] at e; subst e; exact hc
        · have hb : (y == n) = false := by simpa using hy
          rw [List.lookup_cons, hb] at e; exact h y c' e) (fun y hy => hr y (List.mem_cons_of_mem _ hy))
      refine ⟨cl, ?_, h1, fun y hy => h2 y ?_⟩
      · rw [List.forIn_cons, hf n .free acc c (fun _ => hc)]
        simp only [pure_bind]
        exact e
      · by_cases hyn : y = n
        · subst hyn; left; simp [List.lookup]
        · have hb : (y == n) = false := by simpa using hyn
          rcases hy with hy | hy
          · left; rw [List.lookup_cons, hb]; exact hy
          · right
            rcases List.mem_cons.mp hy with e' | hy
            · cases e'; exact absurd rfl hyn
            · exact hy
    · obtain ⟨cl, e, h1, h2⟩ := closure_go f hf r acc h (fun y hy => hr y (List.mem_cons_of_mem _ hy))
      refine ⟨cl, ?_, h1, fun y hy => h2 y ?_⟩
      · rw [List.forIn_cons, hf n k acc 0 (fun e => absurd e hk)]
        have hb : (k == NameKind.free) = false := by simpa using hk
        simp only [pure_bind, hb, Bool.false_eq_true, if_false]
        exact e
      · rcases hy with hy | hy
        · exact .inl hy
        · rcases List.mem_cons.mp hy with e' | hy
          · cases e'; exact absurd rfl hk
          · exact .inr hy
theorem closure_cells {env : Env} {scope : Scope} (h : ∀ y ∈ scope.names, y.2 = .free → ∃ c, env.cells.lookup y.1 = some c) :
    ∃ cl, closureFor scope env = pure cl ∧ (∀ y c, cl.lookup y = some c → env.cells.lookup y = some c) ∧ (∀ y, (y, NameKind.free) ∈ scope.names → (cl.lookup y).isSome = true) := by
  obtain ⟨cl, e, h1, h2⟩ := closure_go (env := env) (fun x acc => match x with
      | (name, kind) => if (kind == NameKind.free) = true then do
          let a ← cellOf env name
          pure (ForInStep.yield ((name, a) :: acc))
        else pure (ForInStep.yield acc)) (fun n k acc c hc => by
    show (if (k == NameKind.free) = true then (do let a ← cellOf env n; pure (ForInStep.yield ((n, a) :: acc))) else pure (ForInStep.yield acc) : Sem (ForInStep (List (Str × Addr)))) = _
    by_cases hk : k = .free
    · subst hk
      delta cellOf
      simp only [beq_self_eq_true, if_true, hc rfl, pure_bind]
    · have hb : (k == NameKind.free) = false := by simpa using hk
      simp only [hb, Bool.false_eq_true, if_false]) scope.names [] (fun y c e => by simp at e) h
  refine ⟨cl, ?_, h1, fun y hy => h2 y (.inr hy)⟩
  exact (congrArg (· >>= fun cs => pure cs) e).trans (pure_bind ..)

/-- the tests of one clause -/
def TstL (C : Cx) (n : Nat) (sc : Scope) (ρ : Lc) (ifs : List Expr) (o : Option Bool) : Prop :=
  ∀ b, o = some b → ∀ (A : Around) (env : Env) (ad : Str → Addr) (M : Addr → Prop) (s : Shared) (Q : Bool → Shared → Prop) (E : Value → Shared → Prop),
    Room A n → env.scope = sc → Sat C M ad env ρ s.heap → (∀ s', Keeps s s' → Q b s') →
    wpAny (model C.prog C.w) A (forIn ifs true fun c r => if r = true then do let ok ← isTrue c env (eval c env); pure (ForInStep.yield ok) else pure (ForInStep.yield r)) Q E s
theorem TstL.nil {C : Cx} {n : Nat} {sc : Scope} {ρ : Lc} : TstL C n sc ρ [] (some true) := by
  intro b e A env ad M s Q E ro hsc S hQ
  cases e
  rw [List.forIn_nil]
  exact wpAny_pure (hQ s (keeps_refl s))
theorem TstL.one {C : Cx} {n : Nat} {sc : Scope} {ρ : Lc} {c : Expr} {o : Option Bool} (h : Tst C n sc ρ c o) : TstL C n sc ρ [c] o := by
  intro b e A env ad M s Q E ro hsc S hQ
  rw [List.forIn_cons]
  simp only [if_true]
  refine wpAny_bind (wpAny_bind (h b e A env ad M s _ E ro hsc S fun s' k => wpAny_pure ?_))
  show wpAny _ A (pure b) Q E s'
  exact wpAny_pure (hQ s' k)

def compO {α : Type} (ft : α → Option Bool) (fe : α → Option Val) : List α → Option (List Val)
  | [] => some []
  | v :: l => (ft v).bind fun b => if b then (fe v).bind fun w => (compO ft fe l).bind fun r => some (w :: r) else compO ft fe l

theorem compO_len {α : Type} {ft : α → Option Bool} {fe : α → Option Val} : ∀ {l : List α} {r : List Val}, compO ft fe l = some r → r.length ≤ l.length
  | [], _, e => by cases e; simp
  | v :: l, r, e => by
    unfold compO at e
    obtain ⟨b, _, e⟩ := obind e
    cases b with
    | true =>
      simp only [if_true] at e
      obtain ⟨w, _, e⟩ := obind e
      obtain ⟨r', hr', e⟩ := obind e
      cases e
      have := compO_len hr'
      simp; omega
    | false =>
      simp only [Bool.false_eq_true, if_false] at e
      have := compO_len e
      simp; omega

/-- what stands while a comprehension runs -/
structure CI (s s2 : Shared) (M : Addr → Prop) (wr fp : List Addr) (D K : Addr) (St : Heap → Prop) (acc : List Val) (s' : Shared) : Prop where
  same : ∃ h tk, s' = { s2 with heap := h, toks := tk }
  kept : ∀ b o, b ∉ wr → s2.heap.get? b = some o → s'.heap.get? b = some o
  st : St s'.heap
  ns : ∃ m, s'.heap.Ns K m
  lst : ∃ ws, s'.heap.PlainList D (List.toArray ws) ∧ RepL s'.heap (fun b => M b ∨ b ∈ wr ∨ b = D ∨ b = K) acc ws

theorem CI.keeps {s s2 s' s'' : Shared} {M : Addr → Prop} {wr fp : List Addr} {D K : Addr} {St : Heap → Prop} {acc : List Val} (c : CI s s2 M wr fp D K St acc s') (k : Keeps s' s'')
    (hfr : ∀ h h' : Heap, St h → (∀ b ∈ fp, ∀ o, h.get? b = some o → h'.get? b = some o) → St h') : CI s s2 M wr fp D K St acc s'' where
  same := by
    obtain ⟨h, tk, rfl⟩ := c.same
    obtain ⟨h', tk', rfl, _⟩ := k
    exact ⟨h', tk', rfl⟩
  kept := fun b o hb e => kh k b o (c.kept b o hb e)
  st := hfr _ _ c.st fun b _ o e => kh k b o e
  ns := by obtain ⟨m, q⟩ := c.ns; exact ⟨m, q.keeps (kh k)⟩
  lst := by obtain ⟨ws, h1, h2⟩ := c.lst; exact ⟨ws, isList_agree h1 (kh k D), h2.keep (kh k)⟩

/-- the values that the body of the comprehension sees -/
theorem CI.sat {C : Cx} {sc scope : Scope} {ρ ρc : Lc} {env : Env} {ad : Str → Addr} {cl : List (Str × Addr)} {s s2 s' : Shared} {M : Addr → Prop} {wr fp : List Addr} {D K : Addr} {St : Heap → Prop} {acc : List Val} {m : Str → Option Value}
    (c : CI s s2 M wr fp D K St acc s') (kp : Keeps s s2) (S : Sat C M ad env ρ s.heap) (hsc : env.scope = sc) (hcs : CompScope sc scope ρ) (hci : CompIn sc scope ρ ρc)
    (hfr : ∀ b, b ∈ wr → s.heap.get? b = none) (hD : s2.heap.get? D = none) (hK : s2.heap.get? K = none) (hlv : ∀ h, St h → ∀ b, b ∈ wr → ∃ o, h.get? b = some o)
    (hcl : ∀ y c, cl.lookup y = some c → env.cells.lookup y = some c) (hcl2 : ∀ y, (y, NameKind.free) ∈ scope.names → (cl.lookup y).isSome = true) :
    (∀ y sl, ρc.lookup y = some sl → ∃ w, Holds s'.heap (compEnvC scope cl K env) y w ∧ SlotOK s'.heap (fun b => M b ∨ b ∈ wr ∨ b = D ∨ b = K) (ad y) sl w) ∧ (∀ b o, s.heap.get? b = some o → s'.heap.get? b = some o) := by
  have dead : ∀ b o, s.heap.get? b = some o → b ∉ wr := fun b o e h => by rw [hfr b h] at e; cases e
  have keep : ∀ b o, s.heap.get? b = some o → s'.heap.get? b = some o := fun b o e => c.kept b o (dead b o e) (kh kp b o e)
  refine ⟨fun y sl e => ?_, keep⟩
  obtain ⟨h1, h2, h3, h4, h5⟩ := hci y sl e
  obtain ⟨w, hw, hs⟩ := S.vars y sl h1
  refine ⟨w, ?_, ?_⟩
  · rcases hw with ⟨k1, _⟩ | ⟨k1, k2, a, k3, k4⟩
    · have : env.scope.names.lookup y = some .local := k1
      rw [hsc, h2] at this; cases this
    · obtain ⟨a', ha'⟩ := Option.isSome_iff_exists.mp (hcl2 y (mem_of_lookup h3))
      have := hcl y a' ha'
      rw [k3] at this; cases this
      refine .inr ⟨.inl ?_, k2, a, ha', k4.keeps keep⟩
      show (relabel scope env).names.lookup y = some .cell
      rw [relabelS_eq hsc]; exact h4
  · have ag : Agree M s.heap s'.heap := fun b o _ e => keep b o e
    have sub : ∀ b o, ¬ M b → s.heap.get? b = some o → ¬ (M b ∨ b ∈ wr ∨ b = D ∨ b = K) := fun b o hb e h => by
      rcases h with h | h | h | h
      · exact hb h
      · exact dead b o e h
      · rw [h] at e; have := kh kp _ _ e; rw [hD] at this; cases this
      · rw [h] at e; have := kh kp _ _ e; rw [hK] at this; cases this
    cases sl with
    | sh v => exact Rep.mono (v := v) ag sub hs
    | own l =>
      obtain ⟨rfl, hM, ws, hl, hr⟩ := hs
      exact ⟨rfl, .inl hM, ws, isList_agree hl fun o e => keep _ o e, hr.mono ag sub⟩
    | raw w' => exact hs

/-! text ML12 -/
theorem comp_body {C : Cx} {n : Nat} {csc : Scope} {ρi : Lc} {ifs : List Expr} {elt : Expr} {ob : Option Bool} {ow : Option Val} {b : Bool} {A : Around} {cenv : Env} {ad : Str → Addr} {s s2 s3 : Shared} {M : Addr → Prop} {wr fp : List Addr} {D K : Addr} {St : Heap → Prop}
    {acc : List Val} {T : Shared → Prop} {E : Value → Shared → Prop} (ht : TstL C n csc ρi ifs ob) (hb : ob = some b) (he : Ev C n csc ρi elt ow) (ro : Room A n) (hcs : cenv.scope = csc)
    (c : CI s s2 M wr fp D K St acc s3) (SI : Sat C (fun b => M b ∨ b ∈ wr ∨ b = D ∨ b = K) ad cenv ρi s3.heap) (hacc : acc.length ≤ 16777216)
    (hfr : ∀ h h' : Heap, St h → (∀ b ∈ fp, ∀ o, h.get? b = some o → h'.get? b = some o) → St h') (hDf : D ∉ fp) (hDK : D ≠ K) (hD2 : s2.heap.get? D = none)
    (h0 : b = false → ∀ s', CI s s2 M wr fp D K St acc s' → T s') (h1 : b = true → ∃ w, ow = some w ∧ ∀ s', CI s s2 M wr fp D K St (acc ++ [w]) s' → T s') :
    wpAny (model C.prog C.w) A (forIn ifs true fun c r => if r = true then do let ok ← isTrue c cenv (eval c cenv); pure (ForInStep.yield ok) else pure (ForInStep.yield r)) (fun ok s₃ =>
      if ok = true then wpAny (model C.prog C.w) A (eval elt cenv) (fun x s₄ => wpAny (model C.prog C.w) A (call (.builtin "list.append") [.ref D, x]) (fun _ s₅ => T s₅) E s₄) E s₃
      else T s₃) E s3 := by
  refine ht b hb A cenv ad _ s3 _ E ro hcs SI fun s4 k4 => ?_
  have c4 := c.keeps k4 hfr
  cases b with
  | false =>
    simp only [Bool.false_eq_true, if_false]
    exact h0 rfl s4 c4
  | true =>
    simp only [if_true]
    obtain ⟨w, hw, h1⟩ := h1 rfl
    refine he w hw A cenv ad _ s4 _ E ro hcs (SI.keeps (kh k4)) fun v s5 k5 q5 => ?_
    have c5 := c4.keeps k5 hfr
    obtain ⟨ws, hl, hr⟩ := c5.lst
    have hlen := hr.length
    refine wpAny_list_append_plain hl (fun h6 hl6 hs6 => ?_) (by rw [List.size_toArray, hlen, sizeLine_eq]; exact hacc)
    have hl6' : h6.PlainList D (List.toArray (ws ++ [v])) := by simpa using hl6
    have up : ∀ b o, b ≠ D → s5.heap.get? b = some o → h6.get? b = some o := fun b o hb e => (hs6.2 b hb).trans e
    refine h1 _ ⟨?_, fun b o hb e => ?_, ?_, ?_, ?_⟩
    · obtain ⟨h, tk, e⟩ := c5.same
      exact ⟨h6, s5.toks, by rw [e]⟩
    · exact up b o (by rintro rfl; rw [hD2] at e; cases e) (c5.kept b o hb e)
    · exact hfr _ _ c5.st fun b hb o e => up b o (fun h => hDf (h ▸ hb)) e
    · obtain ⟨m, q⟩ := c5.ns
      exact ⟨m, q.at' fun o e => up _ o hDK.symm e⟩
    · exact ⟨_, hl6', RepL.mono (fun b o hb e => up b o (fun h => hb (.inr (.inr (.inl h)))) e) (fun _ _ hb _ => hb) (hr.append (RepL.cons q5 .nil))⟩

section
variable {C : Cx} {n : Nat} {sc scope : Scope} {ρ ρc : Lc} {x y : Str} {px py tp pos ipos : Pos} {k1 : Nat} {elt iter : Expr} {ifs : List Expr}

theorem comp_core1 {oi : Option (List Val)} {ft : Val → Option Bool} {fe : Val → Option Val} {vs l : List Val} (hi : It C n sc ρ iter oi) (hvs : oi = some vs) (hcs : CompScope sc scope ρ) (hci : CompIn sc scope ρ ρc)
    (ht : ∀ v, TstL C n (relabelS scope sc) ((x, .sh v) :: ρc) ifs (ft v)) (he : ∀ v, Ev C n (relabelS scope sc) ((x, .sh v) :: ρc) elt (fe v)) (hl : compO ft fe vs = some l) (hlen : vs.length ≤ 16777216)
    (hx : scope.names.lookup x = some .local) (hxc : (relabelS scope sc).names.lookup x = some .local) (hs : ∀ env v, foldedSetIterable iter env v = pure v)
    {A : Around} {env : Env} {ad : Str → Addr} {M : Addr → Prop} {s : Shared} {E : Value → Shared → Prop} {use : Option (Value → Sem Unit)} {Q : Value → Shared → Prop} (ro : Room A n) (hsc : env.scope = sc) (S : Sat C M ad env ρ s.heap)
    (fin : ∀ D K ws s' m, Keeps s s' → s.heap.get? D = none → s.heap.get? K = none → D ≠ K → s'.heap.Ns K m → s'.heap.PlainList D (List.toArray ws) → RepL s'.heap (fun b => M b ∨ b = D ∨ b = K) l ws →
      compPost (model C.prog C.w) A E use Q (.ref D) K (.ok .next) s') :
    wpAny (model C.prog C.w) A (comprehension (.ListComp elt [⟨.Name x px, iter, ifs, 0⟩] scope pos) scope env ipos (newList []) false (eval iter env) use) Q E s := by
  obtain ⟨cl, hclos, hcl, hcl2⟩ := closure_cells (env := env) (scope := scope) fun p hp hk => by
    obtain ⟨h1, h2⟩ := hcs.free p hp hk
    obtain ⟨sl, hsl⟩ := Option.isSome_iff_exists.mp h2
    obtain ⟨w, hw, _⟩ := S.vars p.1 sl hsl
    rcases hw with ⟨k1, _⟩ | ⟨_, _, a, k3, _⟩
    · have : env.scope.names.lookup p.1 = some .local := k1
      rw [hsc, h1] at this; cases this
    · exact ⟨a, k3⟩
  refine wpAny_comprehension_free rfl (hs env) hclos hcs.kind hcs.names ?_
  refine hi vs hvs A env ad M s _ E ro hsc S fun I fp wr P St s2 kp W hst hfr hfp hlv hP => ?_
  refine wpAny_newObj_type (wpAny_newFunctionEnv hcs.cell (by intro y hy; simp at hy) (fun h₁ hns₁ hsb₁ => ?_) hcs.kind)
  dsimp only at hns₁ hsb₁ ⊢
  generalize hH2 : s2.heap.push { cls := .type "list", dict := none, data := .seq ([] : List Value).toArray } = H2 at hns₁ hsb₁ ⊢
  have hCs : H2.objs.size = s2.heap.objs.size + 1 := by rw [← hH2, Heap.size_push]
  generalize hD : s2.heap.objs.size = D at *
  have hDK : D ≠ H2.objs.size := by rw [hCs]; exact Nat.ne_of_lt (Nat.lt_succ_self _)
  have hD2 : s2.heap.get? D = none := get_none_of_size (Nat.le_of_eq hD)
  have hK2 : s2.heap.get? H2.objs.size = none := get_none_of_size (by rw [hCs, hD]; exact Nat.le_succ _)
  have ne2 : ∀ b o, s2.heap.get? b = some o → b ≠ D ∧ b ≠ H2.objs.size := fun b o e => ⟨(by rintro rfl; rw [hD2] at e; cases e), (by rintro rfl; rw [hK2] at e; cases e)⟩
  have old : ∀ b o, s2.heap.get? b = some o → h₁.get? b = some o := fun b o e => hsb₁.extBut b o (ne2 b o e).2 (Heap.get?_push_of_some _ (hH2 ▸ Heap.get?_push_of_some _ e))
  have hDf : D ∉ fp := fun h => by obtain ⟨o, e⟩ := (hfp D h).1; rw [hD2] at e; cases e
  have hKf : H2.objs.size ∉ fp := fun h => by obtain ⟨o, e⟩ := (hfp _ h).1; rw [hK2] at e; cases e
  have hacc : h₁.PlainList D (List.toArray []) := ⟨_, hsb₁.extBut _ _ hDK (Heap.get?_push_of_some _ (hH2 ▸ hD ▸ Heap.get?_push_size _ rfl))⟩
  -- the environment of the body
  have hcenv : ({ newEnv scope H2.objs.size env.globals cl env.qual none .none (some env) env.builtins with scope := relabel scope env } : Env) = compEnvC scope cl H2.objs.size env := rfl
  have hcsc : (compEnvC scope cl H2.objs.size env).scope = relabelS scope sc := relabelS_eq hsc
  have satI : ∀ {ρi : Lc} {St : Heap → Prop} {acc : List Val} {s' : Shared}, CI s s2 M wr fp D H2.objs.size St acc s' → (∀ h, St h → ∀ b, b ∈ wr → ∃ o, h.get? b = some o) →
      (∀ y sl, ρi.lookup y = some sl → ρc.lookup y = some sl ∨ ∃ w, Holds s'.heap (compEnvC scope cl H2.objs.size env) y w ∧ SlotOK s'.heap (fun b => M b ∨ b ∈ wr ∨ b = D ∨ b = H2.objs.size) (ad y) sl w) →
      Sat C (fun b => M b ∨ b ∈ wr ∨ b = D ∨ b = H2.objs.size) ad (compEnvC scope cl H2.objs.size env) ρi s'.heap := by
    intro ρi St acc s' c hlv' hv
    obtain ⟨h1, h2⟩ := c.sat (m := fun _ => none) kp S hsc hcs hci hfr hD2 hK2 hlv' hcl hcl2
    refine ⟨S.top.keeps h2, S.gl, S.bi, ?_, fun a ha => ?_, fun y sl e => ?_⟩
    · show (relabel scope env).kind = .function
      exact hcs.kind
    · rcases ha with h | h | h | h
      · obtain ⟨o, e⟩ := S.live a h; exact ⟨o, h2 a o e⟩
      · exact hlv' _ c.st a h
      · obtain ⟨ws, ⟨_, e⟩, _⟩ := c.lst; exact ⟨_, h ▸ e⟩
      · obtain ⟨m, o, _, _, e, _⟩ := c.ns; exact ⟨_, h ▸ e⟩
    · rcases hv y sl e with h | h
      · exact h1 y sl h
      · exact h
  have loop : ∀ s₃ : Shared, s₃ = { s2 with heap := h₁, toks := s2.toks + ([] : List (Str × Value)).length } →
      codeAny (model C.prog C.w) A (.compLoop (.ListComp elt [⟨.Name x px, iter, ifs, 0⟩] scope pos) 0 (.ref I) (.ref D) (compEnvC scope cl H2.objs.size env)) (compPost (model C.prog C.w) A E use Q (.ref D) H2.objs.size) s₃ := by
    rintro s₃ rfl
    refine codeAny_compLoop_tests (fun kk s' => ∃ i acc rst, i ≤ vs.length ∧ kk = vs.length + 1 - i ∧ CI s s2 M wr fp D H2.objs.size (St i) acc s' ∧ compO ft fe (vs.drop i) = some rst ∧ l = acc ++ rst ∧ acc.length ≤ i) ?_ (vs.length + 1)
      ⟨0, [], l, Nat.zero_le _, rfl, ⟨⟨_, _, rfl⟩, fun b o _ e => old b o e, W.frame _ _ _ hst fun b _ o e => old b o e, ⟨_, hns₁⟩, [], hacc, .nil⟩, by simpa using hl, rfl, Nat.le_refl _⟩
    rintro kk s' ⟨i, acc, rst, hi, rfl, c, hr, rfl, hai⟩
    by_cases hlt : i < vs.length
    · refine W.item i _ _ _ hlt c.st fun w h2 tk2 hPw hst2 up2 => ?_
      obtain ⟨v, hv, hw⟩ := hP i w hPw
      rw [drop_cons hv] at hr
      obtain ⟨m, hm⟩ := c.ns
      have hKw : H2.objs.size ∉ wr := fun h => hKf (W.sub _ h)
      have hDw : D ∉ wr := fun h => hDf (W.sub _ h)
      refine wpAny_assign_Name (wpAny_storeName_local (by show (relabel scope env).names.lookup x = _; rw [relabelS_eq hsc]; exact hxc) (hm.at' fun o e => up2 _ o hKw e) (fun h3 hn3 hs3 => ?_)
        (by have hk : (compEnvC scope cl H2.objs.size env).scope.kind = .function := hcs.kind; rw [hk]; rfl))
      replace hs3 : Heap.SameBut H2.objs.size h2 h3 := hs3
      replace hn3 : h3.Ns H2.objs.size (fun y => if y = x then some w else m y) := hn3
      have up3 : ∀ b o, b ≠ H2.objs.size → h2.get? b = some o → h3.get? b = some o := fun b o hb e => (hs3.2 b hb).trans e
      have upM : ∀ b o, ¬ (M b ∨ b ∈ wr ∨ b = D ∨ b = H2.objs.size) → s'.heap.get? b = some o → h3.get? b = some o := fun b o hb e => up3 b o (fun h => hb (.inr (.inr (.inr h)))) (up2 b o (fun h => hb (.inr (.inl h))) e)
      have c3 : CI s s2 M wr fp D H2.objs.size (St (i + 1)) acc { s' with heap := h3, toks := tk2 + 1 } := by
        refine ⟨?_, fun b o hb e => up3 b o (ne2 b o e).2 (up2 b o hb (c.kept b o hb e)), W.frame _ _ _ hst2 fun b hb o e => up3 b o (fun h => hKf (h ▸ hb)) e, ⟨_, hn3⟩, ?_⟩
        · obtain ⟨h, tk, e⟩ := c.same; exact ⟨h3, tk2 + 1, by rw [e]⟩
        · obtain ⟨ws, h4, h5⟩ := c.lst
          exact ⟨ws, isList_agree h4 fun o e => up3 _ o hDK (up2 _ o hDw e), h5.mono upM fun _ _ hb _ => hb⟩
      have hw3 : Rep h3 (fun b => M b ∨ b ∈ wr ∨ b = D ∨ b = H2.objs.size) v w := by
        refine hw.mono (fun b o hb e => c3.kept b o (fun h => hb (.inr h)) e) fun b o hb e h => ?_
        rcases h with h | h | h | h
        · exact hb (.inl h)
        · exact hb (.inr h)
        · exact (ne2 b o e).1 h
        · exact (ne2 b o e).2 h
      have SI := satI (ρi := (x, .sh v) :: ρc) c3 (fun h st b hb => hlv _ h st b hb) fun y sl e => by
        by_cases hy : y = x
        · subst hy
          rw [lookup_cons_self] at e; cases e
          refine .inr ⟨w, .inl ⟨?_, _, hn3, by simp⟩, hw3⟩
          show (relabel scope env).names.lookup y = _
          rw [relabelS_eq hsc]; exact hxc
        · rw [lookup_cons_ne hy] at e; exact .inl e
      unfold compO at hr
      obtain ⟨b, hb, hr⟩ := obind hr
      refine comp_body (ht v) hb (he v) ro hcsc c3 SI (by omega) (fun h h' a b => W.frame _ h h' a b) hDf hDK hD2 (fun e s5 c5 => ?_) fun e => ?_
      · subst e
        simp only [Bool.false_eq_true, if_false] at hr
        exact ⟨vs.length + 1 - (i + 1), by omega, i + 1, acc, rst, hlt, rfl, c5, hr, rfl, Nat.le_succ_of_le hai⟩
      · subst e
        simp only [if_true] at hr
        obtain ⟨u, hu, hr⟩ := obind hr
        obtain ⟨r', hr', hr⟩ := obind hr
        cases hr
        exact ⟨u, hu, fun s5 c5 => ⟨vs.length + 1 - (i + 1), by omega, i + 1, acc ++ [u], r', hlt, rfl, c5, hr', by simp, by simp; exact hai⟩⟩
    · have hin : i = vs.length := by omega
      subst hin
      rw [List.drop_length] at hr
      cases hr
      refine W.done _ _ _ c.st fun h2 tk2 up2 => ?_
      have hKw : H2.objs.size ∉ wr := fun h => hKf (W.sub _ h)
      have hDw : D ∉ wr := fun h => hDf (W.sub _ h)
      obtain ⟨m, hm⟩ := c.ns
      obtain ⟨ws, h4, h5⟩ := c.lst
      obtain ⟨hh, tk, e⟩ := c.same
      have dead : ∀ b o, s.heap.get? b = some o → b ∉ wr := fun b o e h => by rw [hfr b h] at e; cases e
      have kps : Keeps s { s' with heap := h2, toks := tk2 } := by
        obtain ⟨h₀, tk₀, e₀, _⟩ := id kp
        refine ⟨h2, tk2, by rw [e, e₀], fun b o eb => up2 b o (dead b o eb) (c.kept b o (dead b o eb) (kh kp b o eb))⟩
      refine fin D H2.objs.size ws _ m kps (none_back kp hD2) (none_back kp hK2) hDK (hm.at' fun o e => up2 _ o hKw e) (isList_agree h4 fun o e => up2 _ o hDw e) ?_
      rw [List.append_nil]
      exact h5.mono (fun b o hb e => up2 b o (fun h => hb (.inr (.inl h))) e) fun b o hb _ h => hb (by rcases h with h | h | h; exact .inl h; exact .inr (.inr (.inl h)); exact .inr (.inr (.inr h)))
  exact codeAny_compStart_list (loop _ rfl) (W.self 0 _ _ _ (W.frame _ _ _ hst fun b _ o e => old b o e) (loop _ rfl))

end

/-! text ML13 -/
def compL {α : Type} (ft : α → Option Bool) (fe : α → Option Val) (vs : List α) : Option (List Val) := if Nat.ble vs.length 16777216 then compO ft fe vs else none

section
variable {C : Cx} {n : Nat} {sc scope : Scope} {ρ ρc : Lc} {x y z : Str} {px py pz tp pos spos : Pos} {k1 : Nat} {elt iter : Expr} {ifs : List Expr}

theorem sameBut_other {h h' : Heap} {K : Addr} (hs : Heap.SameBut K h h') {b : Addr} {o : Obj} (hb : b ≠ K) (e : h.get? b = some o) : h'.get? b = some o := (hs.2 b hb).trans e

/-- what a comprehension has made, as an expression -/
theorem comp_fresh {A : Around} {M : Addr → Prop} {s s' : Shared} {l : List Val} {D K : Addr} {ws : List Value} {m : Str → Option Value} {Q E : Value → Shared → Prop}
    (live : ∀ a, M a → ∃ o, s.heap.get? a = some o)
    (hQ : ∀ a ws s', Keeps s s' → s.heap.get? a = none → s'.heap.PlainList a (List.toArray ws) → RepL s'.heap M l ws → Q (.ref a) s')
    (kp : Keeps s s') (hD : s.heap.get? D = none) (hK : s.heap.get? K = none) (hDK : D ≠ K) (hn : s'.heap.Ns K m) (hl : s'.heap.PlainList D (List.toArray ws)) (hr : RepL s'.heap (fun b => M b ∨ b = D ∨ b = K) l ws) :
    compPost (model C.prog C.w) A E none Q (.ref D) K (.ok .next) s' := by
  refine ⟨m, hn, fun h' hs => hQ D ws _ ?_ hD (isList_agree hl fun o e => sameBut_other hs hDK e) (hr.mono (fun b o hb e => sameBut_other hs (fun h => hb (.inr (.inr h))) e) fun b o hb _ h => hb (.inl h))⟩
  obtain ⟨h₀, tk, rfl, up⟩ := kp
  exact ⟨h', tk, rfl, fun b o e => sameBut_other hs (by rintro rfl; rw [hK] at e; cases e) (up b o e)⟩

theorem EvN.comp1 (ρc : Lc) {oi : Option (List Val)} {ft : Val → Option Bool} {fe : Val → Option Val} (hi : It C n sc ρ iter oi)
    (ht : ∀ v, TstL C n (relabelS scope sc) ((x, .sh v) :: ρc) ifs (ft v)) (he : ∀ v, Ev C n (relabelS scope sc) ((x, .sh v) :: ρc) elt (fe v))
    (hci : CompIn sc scope ρ ρc) (hcs : compScopeB sc scope ρ = true := by rfl)
    (hx : scope.names.lookup x = some .local := by rfl) (hxc : (relabelS scope sc).names.lookup x = some .local := by rfl) (hs : ∀ env v, foldedSetIterable iter env v = pure v := by intro _ _; rfl) :
    EvN C n sc ρ (.ListComp elt [⟨.Name x px, iter, ifs, 0⟩] scope pos) (oi.bind fun vs => compL ft fe vs) := by
  intro l q A env ad M s Q E ro hsc S hQ
  obtain ⟨vs, hvs, q⟩ := obind q
  unfold compL at q
  split at q
  · rename_i hz
    rw [eval_ListComp]
    exact comp_core1 hi hvs (compScope_of hcs) hci ht he q (Nat.le_of_ble_eq_true hz) hx hxc hs ro hsc S (use := none) fun D K ws s' m kp hD hK hDK hn hl hr => comp_fresh S.live hQ kp hD hK hDK hn hl hr
  · cases q

/-- … and as the value of an assignment, which the comprehension itself runs -/
theorem comp_assign {σ : Type} {A : Around} {env : Env} {ad : Str → Addr} {M M₀ rs : Addr → Prop} {s s₀ s' : Shared} {l : List Val} {D K : Addr} {ws : List Value} {m : Str → Option Value} {E : Value → Shared → Prop} {Q : Shared → Prop} {rest : List Stmt} {emb : σ → Lc} {k : Val → Option (Out σ)}
    (hsc : env.scope = sc) (S : SatF C M ad env s₀ M₀ rs ρ s) (hy : Bindable sc y) (hno : notOwn ρ y = true)
    (hQ : ∀ M' ad' s', Step M rs s M' s' → SatF C M' ad' env s₀ M₀ rs ((y, .sh (.list l)) :: ρ) s' → Q s')
    (kp : Keeps s s') (hD : s.heap.get? D = none) (hK : s.heap.get? K = none) (hDK : D ≠ K) (hn : s'.heap.Ns K m) (hl : s'.heap.PlainList D (List.toArray ws)) (hr : RepL s'.heap (fun b => M b ∨ b = D ∨ b = K) l ws) :
    compPost (model C.prog C.w) A E (some (PySem.assign (.Name y py) env)) (fun _ s' => Q s') (.ref D) K (.ok .next) s' := by
  show wpAny _ A (PySem.assign (.Name y py) env (.ref D)) _ _ _
  have hfr : ∀ b, b ∈ [K] → s.heap.get? b = none := fun b hb => by simp at hb; subst hb; exact hK
  have S1 := S.take (X := fun a => a ∈ [K]) kp hfr (fun a h => by simp at h; subst h; obtain ⟨o, _, _, e, _⟩ := hn; exact ⟨o, e⟩)
  have q : Rep s'.heap (fun b => M b ∨ b ∈ [K]) (.list l) (.ref D) := by
    simp only [Rep]
    refine ⟨D, ws, rfl, fun h => ?_, hl, hr.mono (fun _ _ _ e => e) fun b o hb _ h => hb ?_⟩
    · rcases h with h | h
      · obtain ⟨o, e⟩ := S.sat.live D h; rw [hD] at e; cases e
      · simp at h; exact hDK h
    · rcases h with h | h
      · exact .inl h
      · simp at h; exact .inr (.inr h)
  refine wpAny_assign_Name (S1.bind (x := y) (sl := .sh (.list l)) (a := 0) (rs' := fun a => rs a ∨ a ∈ [K]) (by rw [hsc]; exact hy) hno q (fun h => by cases h) (fun b hb => ⟨hb, fun h => by cases h⟩) fun ad3 s3 st3 S3 => ?_)
  refine ⟨m, hn.at' fun o e => st3.2 K o (.inr (.inr (by simp))) e, fun h' hs => ?_⟩
  exact SatF.endLoop (r := .cont ()) (emb1 := fun _ => (y, .sh (.list l)) :: ρ) (f := .next) (Q := fun _ s' => Q s') S kp hfr (fun f M' ad' s' st S' _ => hQ M' ad' s' st S') (st3.fewer fun _ h => .inl h) S3 ⟨h', s3.toks, rfl⟩
    (fun b o hb e => sameBut_other hs (fun h => hb (by simp [h])) e) rfl

theorem Bk.assignComp1 {σ : Type} {emb : σ → Lc} {rest : List Stmt} {k : Val → Option (Out σ)} (ρc : Lc) {oi : Option (List Val)} {ft : Val → Option Bool} {fe : Val → Option Val} (hi : It C n sc ρ iter oi)
    (ht : ∀ v, TstL C n (relabelS scope sc) ((x, .sh v) :: ρc) ifs (ft v)) (he : ∀ v, Ev C n (relabelS scope sc) ((x, .sh v) :: ρc) elt (fe v)) (hk : ∀ v, Bk C n sc ((y, .sh v) :: ρ) rest emb (k v))
    (hci : CompIn sc scope ρ ρc) (hsw : ∀ env : Env, env.scope = sc → swapsWith (.ListComp elt [⟨.Name x px, iter, ifs, 0⟩] scope pos) (some (.Name y py)) spos.line env = pure true)
    (hcs : compScopeB sc scope ρ = true := by rfl) (hy : Bindable sc y := by exact .inl rfl) (hno : notOwn ρ y = true := by rfl)
    (hx : scope.names.lookup x = some .local := by rfl) (hxc : (relabelS scope sc).names.lookup x = some .local := by rfl) (hs : ∀ env v, foldedSetIterable iter env v = pure v := by intro _ _; rfl) :
    Bk C n sc ρ (.Assign [.Name y py] (.ListComp elt [⟨.Name x px, iter, ifs, 0⟩] scope pos) spos :: rest) emb (oi.bind fun vs => (compL ft fe vs).bind fun l => k (.list l)) := by
  intro r q A env ad M s₀ M₀ rs s Q E ro hsc S hQ
  obtain ⟨vs, hvs, q⟩ := obind q
  obtain ⟨l, hl, q⟩ := obind q
  unfold compL at hl
  split at hl
  · rename_i hz
    refine wpAny_execs_cons ?_
    rw [exec_Assign_Name_used _ _ _ _ (hsw env hsc)]
    refine wpAny_bind (wpAny_standAt (wpAny_bind ?_))
    show wpAny _ A (do let _ ← comprehension (.ListComp elt [⟨.Name x px, iter, ifs, 0⟩] scope pos) scope env _ (newList []) false (eval iter env) (some (PySem.assign (.Name y py) env))) _ _ s
    refine wpAny_bind (wpAny_mono (comp_core1 (Q := fun _ s' => wpAny (model C.prog C.w) A (execs rest env) Q E s') hi hvs (compScope_of hcs) hci ht he hl (Nat.le_of_ble_eq_true hz) hx hxc hs ro hsc S.sat fun D K ws s' m kp hD hK hDK hn hl hr => ?_) (fun _ s' hq => wpAny_pure (wpAny_pure hq)) fun _ _ e => e)
    exact comp_assign (σ := σ) (rest := rest) (emb := emb) (k := k) hsc S hy hno (fun M' ad' s' st S' => hk (.list l) r q A env ad' M' s₀ M₀ rs s' Q E ro hsc S' fun f M'' ad'' s'' st' => hQ f M'' ad'' s'' (st.trans st')) kp hD hK hDK hn hl hr
  · cases hl

end

/-! text MB0 -/
/-! the text's defs, by their places -/
abbrev P0 : Program := PySem.Challenge.pw_pf0046_01
def nthD {α : Type} : List α → Nat → α → α
  | [], _, d => d
  | x :: _, 0, _ => x
  | _ :: l, n + 1, d => nthD l n d
def recAt (k : Nat) : DefRec := match nthD P0.main.body k (.Pass ⟨0,0,0,0⟩) with
  | .FunctionDef name a b _ _ _ sc _ _ pos => ⟨name, a, b, sc, pos⟩
  | _ => ⟨"", ⟨[], [], none, [], [], none, []⟩, [], default, default⟩
def dlist : List (Str × DefRec) := (recsOf P0).map fun d => (d.name, d)
def dl0 : List (Str × DefRec) := [(("extended" : Str), recAt 3), (("inverse_mod" : Str), recAt 4), (("least_divisor" : Str), recAt 5), (("prime_factors" : Str), recAt 6), (("mtrim" : Str), recAt 8), (("mdegree" : Str), recAt 9), (("madd" : Str), recAt 10), (("mneg" : Str), recAt 11), (("msub" : Str), recAt 12), (("mscale" : Str), recAt 13), (("mmul" : Str), recAt 14), (("mdivmod" : Str), recAt 15), (("mrest" : Str), recAt 16), (("mmonic" : Str), recAt 17), (("mpower_mod" : Str), recAt 18), (("mgcd" : Str), recAt 20), (("mextended" : Str), recAt 21), (("minverse" : Str), recAt 22), (("counted" : Str), recAt 24), (("is_prime_mod" : Str), recAt 25), (("gf_size" : Str), recAt 27), (("gf_things" : Str), recAt 28), (("gf_multiply" : Str), recAt 29), (("gf_inverse" : Str), recAt 30), (("gf_power" : Str), recAt 31), (("number_of" : Str), recAt 32), (("gf_trace" : Str), recAt 33), (("gf_norm" : Str), recAt 34), (("first_prime_poly" : Str), recAt 35), (("_law_take" : Str), recAt 38), (("_law_cut" : Str), recAt 39), (("_law_times" : Str), recAt 40), (("_law_plus" : Str), recAt 41), (("_law_raised" : Str), recAt 42), (("_law_counts_right" : Str), recAt 43), (("_law_images_right" : Str), recAt 44), (("_law_ways_right" : Str), recAt 45), (("law" : Str), recAt 46)]
theorem dl : dlist = dl0 := by kernel_rfl
theorem df_of {C : Cx} (hC : C.defs = fun x => dlist.lookup x) {x : Str} {d : DefRec} (h : dlist.lookup x = some d) : C.defs x = some d := by rw [hC]; exact h

theorem Bk.nothing {σ : Type} {C : Cx} {n : Nat} {sc : Scope} {ρ : Lc} {ss : List Stmt} {emb : σ → Lc} : Bk C n sc ρ ss emb none := fun r e => by cases e

theorem repLn1 {h : Heap} {M : Addr → Prop} {a : Val} {ws : List Value} (x : RepL h M [a] ws) : ∃ p, ws = [p] := by
  simp only [RepL] at x; obtain ⟨p, _, rfl, _, rfl⟩ := x; exact ⟨p, rfl⟩
theorem repLnS {h : Heap} {M : Addr → Prop} {a : Val} {l : List Val} {ws : List Value} (x : RepL h M (a :: l) ws) : ∃ p r, ws = p :: r ∧ RepL h M l r := by
  simp only [RepL] at x; obtain ⟨p, r, rfl, _, q⟩ := x; exact ⟨p, r, rfl, q⟩
theorem repLn2 {h : Heap} {M : Addr → Prop} {a b : Val} {ws : List Value} (x : RepL h M [a, b] ws) : ∃ p q, ws = [p, q] := by
  obtain ⟨p, r, rfl, y⟩ := repLnS x; obtain ⟨q, rfl⟩ := repLn1 y; exact ⟨p, q, rfl⟩
theorem repLn3 {h : Heap} {M : Addr → Prop} {a b c : Val} {ws : List Value} (x : RepL h M [a, b, c] ws) : ∃ p q r, ws = [p, q, r] := by
  obtain ⟨p, r, rfl, y⟩ := repLnS x; obtain ⟨q, r, rfl⟩ := repLn2 y; exact ⟨p, q, r, rfl⟩
theorem repLn4 {h : Heap} {M : Addr → Prop} {a b c d : Val} {ws : List Value} (x : RepL h M [a, b, c, d] ws) : ∃ p q r s, ws = [p, q, r, s] := by
  obtain ⟨p, r, rfl, y⟩ := repLnS x; obtain ⟨q, r, s, rfl⟩ := repLn3 y; exact ⟨p, q, r, s, rfl⟩
theorem repLn5 {h : Heap} {M : Addr → Prop} {a b c d e : Val} {ws : List Value} (x : RepL h M [a, b, c, d, e] ws) : ∃ p q r s t, ws = [p, q, r, s, t] := by
  obtain ⟨p, r, rfl, y⟩ := repLnS x; obtain ⟨q, r, s, t, rfl⟩ := repLn4 y; exact ⟨p, q, r, s, t, rfl⟩
theorem repLn6 {h : Heap} {M : Addr → Prop} {a b c d e f : Val} {ws : List Value} (x : RepL h M [a, b, c, d, e, f] ws) : ∃ p q r s t u, ws = [p, q, r, s, t, u] := by
  obtain ⟨p, r, rfl, y⟩ := repLnS x; obtain ⟨q, r, s, t, u, rfl⟩ := repLn5 y; exact ⟨p, q, r, s, t, u, rfl⟩

section
variable {σ : Type} {C : Cx} {n : Nat} {sc : Scope} {ρ : Lc} {emb : σ → Lc} {x y : Str} {px py pos : Pos} {rest : List Stmt}

def repO (i : Int) (y : Val) : Option (List Val) := match y with
  | .int k => if Nat.blt k.natAbs 16777217 then some (repV (.int i) k.toNat) else none
  | _ => none
theorem EvN.rep' {i : Int} {kd : Nat} {p0 p1 : Pos} {b : Expr} {ob : Option Val} (hb : Ev C n sc ρ b ob) : EvN C n sc ρ (.BinOp (.List [.Constant (.int i) kd p0] p1) .Mult b pos) (ob.bind (repO i)) := EvN.rep hb

def augO (v0 v : Val) : Option Val := match v0, v with
  | .int a, .int b => some (.int (a + b))
  | _, _ => none
theorem Bk.augAdd' {v0 : Val} {e : Expr} {o : Option Val} {k : Val → Option (Out σ)}
    (h0 : ρ.lookup x = some (.sh v0)) (h : Ev C n sc ρ e o) (hk : ∀ v, Bk C n sc ((x, .sh v) :: ρ) rest emb (k v)) (hx : Bindable sc x := by exact .inl rfl) (hnx : notOwn ρ x = true := by rfl) :
    Bk C n sc ρ (.AugAssign (.Name x px) .Add e pos :: rest) emb (o.bind fun v => (augO v0 v).bind k) := by
  have h := Bk.augAdd (px := px) (pos := pos) h0 h hk hx hnx
  intro r q
  refine h r ?_
  cases o with
  | none => cases q
  | some v => cases v0 <;> cases v <;> exact q

def appO (l : List Val) (v : Val) : Option (List Val) := if Nat.ble l.length 16777215 then some (l ++ [v]) else none
theorem Bk.append' {p apos cpos epos : Pos} {l : List Val} {e : Expr} {o : Option Val} {k : List Val → Option (Out σ)}
    (hx : ρ.lookup x = some (.own l)) (h : Ev C n sc ρ e o) (hk : ∀ l', Bk C n sc ((x, .own l') :: ρ) rest emb (k l')) (hd : (x == ("__debug__" : Str)) = false := by decide)
    (hb : ∀ env : Env, attributeBase (.Name x p) "append" env (eval (.Name x p) env) = eval (.Name x p) env := by intro _; rfl)
    (hf : ∀ env : Env, ((backTo cpos (starEach [e] env)).all (fun x => !x.1) && (backToKw cpos (keywordEach [] env)).all (fun x => x.1.isSome)
      && decide (([e] : List Expr).length + ([] : List Keyword).length + (if ([] : List Keyword).isEmpty then 0 else 1) < 30)) = true := by intro _; rfl)
    (hl : (apos.endLine == cpos.line) = true := by rfl) (ht : ∀ env : Env, backTo cpos (starEach [e] env) = [(false, eval e env)] := by intro _; rfl)
    (hs : ∀ env : Env, swapsWith (.Call (.Attribute (.Name x p) "append" apos) [e] [] cpos) none epos.line env = pure false := by intro _; rfl) :
    Bk C n sc ρ (.Expr (.Call (.Attribute (.Name x p) "append" apos) [e] [] cpos) epos :: rest) emb (o.bind fun v => (appO l v).bind k) := by
  have h := Bk.append (rest := rest) (emb := emb) (epos := epos) hx h hk hd hb hf hl ht hs
  have e : (o.bind fun v => (appO l v).bind k) = o.bind fun v => if Nat.ble l.length 16777215 then k (l ++ [v]) else .none := by
    congr 1
    funext v
    unfold appO
    split <;> rfl
  rwa [e]

theorem Ev.lenOwn {p pos : Pos} {l : List Val} (h : ρ.lookup x = some (.own l)) (hx : sc.names.lookup ("len" : Str) = some .globalImplicit := by rfl) (hd : (x == ("__debug__" : Str)) = false := by decide)
    (hp : PlainArgs (.Name x px) [] := by exact ⟨fun _ => rfl, fun _ _ => rfl⟩) : Ev C n sc ρ (.Call (.Name "len" p) [.Name x px] [] pos) (lenF [.list l]) := by
  intro v q A env ad M s Q E r hs S hQ
  refine wpAny_Call_NameR (load_builtin S (by show env.scope.names.lookup _ = _; rw [hs]; exact hx) (fv := .builtin "len") (by simp [builtinNames]) (by decide) ?_)
  obtain ⟨w, hw, rfl, hM, ws, hl, hr⟩ := S.vars x _ h
  refine PyProof.Rows.callWith_builtin1 (args_cons (wpAny_Name (wpAny_holds S.kd hw ?_) hd) (hp.1 env)) (hp.1 env) (hp.2 env pos)
  refine args_nil ?_
  change (if Nat.ble l.length 16777216 = true then some (Val.int (Int.ofNat l.length)) else none) = some v at q
  split at q
  · rename_i hz
    cases q
    have hz := Nat.le_of_ble_eq_true hz
    have hlen := hr.length
    refine call_len_list hl.isList (by rw [List.size_toArray, hlen]; omega) (hQ _ _ (keeps_tok s _) ?_)
    rw [List.size_toArray, hlen]; exact rep_int
  · cases q

theorem Bk.assignComp1' {scope : Scope} {elt iter : Expr} {ifs : List Expr} {spos : Pos} {k : Val → Option (Out σ)} (ρc : Lc) {oi : Option (List Val)} {ft : Val → Option Bool} {fe : Val → Option Val} (hi : It C n sc ρ iter oi)
    (ht : ∀ v, TstL C n (relabelS scope sc) ((x, .sh v) :: ρc) ifs (ft v)) (he : ∀ v, Ev C n (relabelS scope sc) ((x, .sh v) :: ρc) elt (fe v)) (hk : ∀ v, Bk C n sc ((y, .sh v) :: ρ) rest emb (k v))
    (hci : CompIn sc scope ρ ρc) (hsw : ∀ env : Env, env.scope = sc → swapsWith (.ListComp elt [⟨.Name x px, iter, ifs, 0⟩] scope pos) (some (.Name y py)) spos.line env = pure true)
    (hcs : compScopeB sc scope ρ = true := by rfl) (hy : Bindable sc y := by exact .inl rfl) (hno : notOwn ρ y = true := by rfl)
    (hx : scope.names.lookup x = some .local := by rfl) (hxc : (relabelS scope sc).names.lookup x = some .local := by rfl) (hs : ∀ env v, foldedSetIterable iter env v = pure v := by intro _ _; rfl) :
    Bk C n sc ρ (.Assign [.Name y py] (.ListComp elt [⟨.Name x px, iter, ifs, 0⟩] scope pos) spos :: rest) emb (((oi.bind fun vs => compL ft fe vs).bind fun l => some (.list l)).bind k) := by
  have h := Bk.assignComp1 (emb := emb) ρc hi ht he hk hci hsw hcs hy hno hx hxc hs
  have e : (((oi.bind fun vs => compL ft fe vs).bind fun l => some (Val.list l)).bind k) = oi.bind fun vs => (compL ft fe vs).bind fun l => k (.list l) := by
    cases oi with
    | none => rfl
    | some vs => show (((compL ft fe vs).bind fun l => some (Val.list l)).bind k) = (compL ft fe vs).bind fun l => k (.list l); cases compL ft fe vs <;> rfl
  rwa [e]
end

/-! text MG1 -/
/-! extended -/
theorem df_extended : dlist.lookup ("extended" : Str) = some (recAt 3) := by rw [dl]; kernel_rfl
def g_extended : List Val → Option (Out Unit)
  | [a_a, a_b] => ((((some a_a).bind fun v => ((some (.int 1)).bind fun v => ((some (.int 0)).bind fun v => (some []).bind fun l => some (v :: l)).bind fun l => some (v :: l)).bind fun l => some (v :: l)).bind fun l => if Nat.ble l.length 16777216 then some (.tup l) else none).bind fun u1 => (((some a_b).bind fun v => ((some (.int 0)).bind fun v => ((some (.int 1)).bind fun v => (some []).bind fun l => some (v :: l)).bind fun l => some (v :: l)).bind fun l => some (v :: l)).bind fun l => if Nat.ble l.length 16777216 then some (.tup l) else none).bind fun u2 => (seqO (whileO (fun (t3 : Val × Val) => (((some t3.2).bind fun x => (some (.int 0)).bind fun y => itemO x y).bind fun x => (some (.int 0)).bind fun y => neO x y)) (fun (t3 : Val × Val) => ((((some t3.1).bind fun x => (some (.int 0)).bind fun y => itemO x y).bind fun x => ((some t3.2).bind fun x => (some (.int 0)).bind fun y => itemO x y).bind fun y => divO x y).bind fun u4 => ((((((some t3.1).bind fun x => (some (.int 0)).bind fun y => itemO x y).bind fun x => ((some u4).bind fun x => ((some t3.2).bind fun x => (some (.int 0)).bind fun y => itemO x y).bind fun y => mulO x y).bind fun y => subO x y).bind fun v => ((((some t3.1).bind fun x => (some (.int 1)).bind fun y => itemO x y).bind fun x => ((some u4).bind fun x => ((some t3.2).bind fun x => (some (.int 1)).bind fun y => itemO x y).bind fun y => mulO x y).bind fun y => subO x y).bind fun v => ((((some t3.1).bind fun x => (some (.int 2)).bind fun y => itemO x y).bind fun x => ((some u4).bind fun x => ((some t3.2).bind fun x => (some (.int 2)).bind fun y => itemO x y).bind fun y => mulO x y).bind fun y => subO x y).bind fun v => (some []).bind fun l => some (v :: l)).bind fun l => some (v :: l)).bind fun l => some (v :: l)).bind fun l => if Nat.ble l.length 16777216 then some (.tup l) else none).bind fun u5 => ((some t3.2).bind fun u6 => (some u5).bind fun u7 => some (.cont (u6, u7)))))) 64 (u1, u2)) fun (t3 : Val × Val) => (((((some t3.1).bind fun x => (some (.int 0)).bind fun y => itemO x y).bind fun x => (some (.int 0)).bind fun y => geO x y).bind fun x => if x then (some t3.1) else ((((some (.int 0)).bind fun x => ((some t3.1).bind fun x => (some (.int 0)).bind fun y => itemO x y).bind fun y => subO x y).bind fun v => (((some (.int 0)).bind fun x => ((some t3.1).bind fun x => (some (.int 1)).bind fun y => itemO x y).bind fun y => subO x y).bind fun v => (((some (.int 0)).bind fun x => ((some t3.1).bind fun x => (some (.int 2)).bind fun y => itemO x y).bind fun y => subO x y).bind fun v => (some []).bind fun l => some (v :: l)).bind fun l => some (v :: l)).bind fun l => some (v :: l)).bind fun l => if Nat.ble l.length 16777216 then some (.tup l) else none)).bind fun v => some (.ret v))))
  | _ => none
def m_extended (vs : List Val) : Option Val := (g_extended vs).bind outV
theorem b_extended (C : Cx) (hC : C.defs = fun x => dlist.lookup x) : ∀ vs, Bk C 0 (recAt 3).scope (lcOfArgs ["a", "b"] vs) (recAt 3).body emb0 (g_extended vs) := by
  intro vs
  unfold g_extended
  split
  · rename_i a_a a_b
    exact (Bk.assign2 (Ev.tup (EvL.cons (Ev.var rfl) (EvL.cons Ev.intC (EvL.cons Ev.intC EvL.nil)))) (Ev.tup (EvL.cons (Ev.var rfl) (EvL.cons Ev.intC (EvL.cons Ev.intC EvL.nil)))) (fun u1 u2 => (Bk.whl (fun (t3 : Val × Val) => [("one", .sh t3.1), ("other", .sh t3.2), ("a", .sh a_a), ("b", .sh a_b)]) 64 (x0 := (u1, u2)) (.cons (.cons (.cons (.cons .nil)))) (fun t3 => (Tst.cmp cmp_ne (Ev.item (Ev.var rfl) Ev.intC) Ev.intC)) (fun t3 => (Bk.assign (Ev.bin bin_div (Ev.item (Ev.var rfl) Ev.intC) (Ev.item (Ev.var rfl) Ev.intC)) fun u4 => (Bk.assign (Ev.tup (EvL.cons (Ev.bin bin_sub (Ev.item (Ev.var rfl) Ev.intC) (Ev.bin bin_mul (Ev.var rfl) (Ev.item (Ev.var rfl) Ev.intC))) (EvL.cons (Ev.bin bin_sub (Ev.item (Ev.var rfl) Ev.intC) (Ev.bin bin_mul (Ev.var rfl) (Ev.item (Ev.var rfl) Ev.intC))) (EvL.cons (Ev.bin bin_sub (Ev.item (Ev.var rfl) Ev.intC) (Ev.bin bin_mul (Ev.var rfl) (Ev.item (Ev.var rfl) Ev.intC))) EvL.nil)))) fun u5 => (Bk.assign2 (Ev.var rfl) (Ev.var rfl) (fun u6 u7 => (Bk.nil (.cons (.cons (.cons (.cons .nil)))))) (by rintro ⟨⟩ rfl; rfl))))) fun t3 => (Bk.ret (Ev.ifx (Tst.cmp cmp_ge (Ev.item (Ev.var rfl) Ev.intC) Ev.intC) (Ev.var rfl) (Ev.tup (EvL.cons (Ev.bin bin_sub Ev.intC (Ev.item (Ev.var rfl) Ev.intC)) (EvL.cons (Ev.bin bin_sub Ev.intC (Ev.item (Ev.var rfl) Ev.intC)) (EvL.cons (Ev.bin bin_sub Ev.intC (Ev.item (Ev.var rfl) Ev.intC)) EvL.nil)))))))) (by rintro ⟨⟩ rfl; rfl))
  · exact Bk.nothing
theorem c_extended (C : Cx) (hC : C.defs = fun x => dlist.lookup x) : CallD C 1 (recAt 3) m_extended := by
  refine CallD.mk ["a", "b"] (b_extended C hC) fun vs ws h M hv hr pm cd doc => ?_
  unfold g_extended at hv
  split at hv
  · obtain ⟨w0, w1, rfl⟩ := repLn2 hr
    rfl
  · exact absurd rfl hv

/-! inverse_mod -/
theorem df_inverse_mod : dlist.lookup ("inverse_mod" : Str) = some (recAt 4) := by rw [dl]; kernel_rfl
def g_inverse_mod : List Val → Option (Out Unit)
  | [a_a, a_m] => (((((some a_a).bind fun x => (some a_m).bind fun y => modO x y).bind fun v => ((some a_m).bind fun v => (some []).bind fun l => some (v :: l)).bind fun l => some (v :: l)).bind m_extended).bind fun v => tup3O v fun u1 u2 u3 => ((((some u1).bind fun x => (some (.int 1)).bind fun y => eqO x y).bind fun x => if x then ((some u2).bind fun x => (some a_m).bind fun y => modO x y) else (some .none)).bind fun v => some (.ret v)))
  | _ => none
def m_inverse_mod (vs : List Val) : Option Val := (g_inverse_mod vs).bind outV
theorem b_inverse_mod (C : Cx) (hC : C.defs = fun x => dlist.lookup x) : ∀ vs, Bk C 1 (recAt 4).scope (lcOfArgs ["a", "m"] vs) (recAt 4).body emb0 (g_inverse_mod vs) := by
  intro vs
  unfold g_inverse_mod
  split
  · rename_i a_a a_m
    exact (Bk.unpack3 (Ev.callD ((c_extended C hC).more (by decide)) (df_of hC df_extended) (EvL.cons (Ev.bin bin_mod (Ev.var rfl) (Ev.var rfl)) (EvL.cons (Ev.var rfl) EvL.nil))) fun u1 u2 u3 => (Bk.ret (Ev.ifx (Tst.cmp cmp_eq (Ev.var rfl) Ev.intC) (Ev.bin bin_mod (Ev.var rfl) (Ev.var rfl)) Ev.noneC)))
  · exact Bk.nothing
theorem c_inverse_mod (C : Cx) (hC : C.defs = fun x => dlist.lookup x) : CallD C 2 (recAt 4) m_inverse_mod := by
  refine CallD.mk ["a", "m"] (b_inverse_mod C hC) fun vs ws h M hv hr pm cd doc => ?_
  unfold g_inverse_mod at hv
  split at hv
  · obtain ⟨w0, w1, rfl⟩ := repLn2 hr
    rfl
  · exact absurd rfl hv

/-! least_divisor -/
theorem df_least_divisor : dlist.lookup ("least_divisor" : Str) = some (recAt 5) := by rw [dl]; kernel_rfl
def g_least_divisor : List Val → Option (Out Unit)
  | [a_n, a_begin] => ((some a_begin).bind fun u1 => (seqO (whileO (fun (t2 : Val) => (((some t2).bind fun x => (some t2).bind fun y => mulO x y).bind fun x => (some a_n).bind fun y => leO x y)) (fun (t2 : Val) => (seqO ((((some a_n).bind fun x => (some t2).bind fun y => modO x y).bind fun x => (some (.int 0)).bind fun y => eqO x y).bind fun b => if b then ((some t2).bind fun v => some (.ret v)) else some (.cont ())) fun (t3 : Unit) => ((((some t2).bind fun x => (some (.int 2)).bind fun y => eqO x y).bind fun x => if x then (some (.int 1)) else (some (.int 2))).bind fun v => (augO t2 v).bind fun u4 => some (.cont (u4))))) 64 (u1)) fun (t2 : Val) => ((some a_n).bind fun v => some (.ret v))))
  | _ => none
def m_least_divisor (vs : List Val) : Option Val := (g_least_divisor vs).bind outV
theorem b_least_divisor (C : Cx) (hC : C.defs = fun x => dlist.lookup x) : ∀ vs, Bk C 0 (recAt 5).scope (lcOfArgs ["n", "begin"] vs) (recAt 5).body emb0 (g_least_divisor vs) := by
  intro vs
  unfold g_least_divisor
  split
  · rename_i a_n a_begin
    exact (Bk.assign (Ev.var rfl) fun u1 => (Bk.whl (fun (t2 : Val) => [("found", .sh t2), ("n", .sh a_n), ("begin", .sh a_begin)]) 64 (x0 := (u1)) (.cons (.cons (.cons .nil))) (fun t2 => (Tst.cmp cmp_le (Ev.bin bin_mul (Ev.var rfl) (Ev.var rfl)) (Ev.var rfl))) (fun t2 => (Bk.ifte (fun (t3 : Unit) => [("found", .sh t2), ("n", .sh a_n), ("begin", .sh a_begin)]) (Tst.cmp cmp_eq (Ev.bin bin_mod (Ev.var rfl) (Ev.var rfl)) Ev.intC) (Bk.ret (Ev.var rfl)) (Bk.nil (.cons (.cons (.cons .nil)))) fun t3 => (Bk.augAdd' rfl (Ev.ifx (Tst.cmp cmp_eq (Ev.var rfl) Ev.intC) Ev.intC Ev.intC) fun u4 => (Bk.nil (.cons (.cons (.cons .nil))))))) fun t2 => (Bk.ret (Ev.var rfl))))
  · exact Bk.nothing
theorem c_least_divisor (C : Cx) (hC : C.defs = fun x => dlist.lookup x) : CallD C 1 (recAt 5) m_least_divisor := by
  refine CallD.mk ["n", "begin"] (b_least_divisor C hC) fun vs ws h M hv hr pm cd doc => ?_
  unfold g_least_divisor at hv
  split at hv
  · obtain ⟨w0, w1, rfl⟩ := repLn2 hr
    rfl
  · exact absurd rfl hv

/-! prime_factors -/
theorem df_prime_factors : dlist.lookup ("prime_factors" : Str) = some (recAt 6) := by rw [dl]; kernel_rfl
def g_prime_factors : List Val → Option (Out Unit)
  | [a_n] => (((some []).bind fun l => if Nat.ble l.length 16777216 then some l else none).bind fun u1 => if allInt u1 then (some (.int 2)).bind fun u2 => (seqO (whileO (fun (t3 : Val × Val × List Val) => ((some t3.2.1).bind fun x => (some (.int 1)).bind fun y => gtO x y)) (fun (t3 : Val × Val × List Val) => ((((some t3.2.1).bind fun v => ((some t3.1).bind fun v => (some []).bind fun l => some (v :: l)).bind fun l => some (v :: l)).bind m_least_divisor).bind fun u4 => (some (.int 0)).bind fun u5 => (seqO (whileO (fun (t6 : Val × Val) => (((some t6.1).bind fun x => (some u4).bind fun y => modO x y).bind fun x => (some (.int 0)).bind fun y => eqO x y)) (fun (t6 : Val × Val) => (((some t6.1).bind fun x => (some u4).bind fun y => divO x y).bind fun u7 => ((some t6.2).bind fun x => (some (.int 1)).bind fun y => addO x y).bind fun u8 => some (.cont (u7, u8)))) 64 (t3.2.1, u5)) fun (t6 : Val × Val) => ((((some u4).bind fun v => ((some t6.2).bind fun v => (some []).bind fun l => some (v :: l)).bind fun l => some (v :: l)).bind fun l => if Nat.ble l.length 16777216 then some (.tup l) else none).bind fun v => (appO t3.2.2 v).bind fun u9 => ((((some u4).bind fun x => (some (.int 2)).bind fun y => eqO x y).bind fun x => if x then (some (.int 3)) else ((some u4).bind fun x => (some (.int 2)).bind fun y => addO x y)).bind fun u10 => some (.cont (u10, t6.1, u9))))))) 64 (u2, a_n, u1)) fun (t3 : Val × Val × List Val) => ((some (.list t3.2.2)).bind fun v => some (.ret v))) else none)
  | _ => none
def m_prime_factors (vs : List Val) : Option Val := (g_prime_factors vs).bind outV
theorem b_prime_factors (C : Cx) (hC : C.defs = fun x => dlist.lookup x) : ∀ vs, Bk C 1 (recAt 6).scope (lcOfArgs ["n"] vs) (recAt 6).body emb0 (g_prime_factors vs) := by
  intro vs
  unfold g_prime_factors
  split
  · rename_i a_n
    exact (Bk.assign2os (EvN.list EvL.nil) Ev.intC (fun u1 u2 => (Bk.whl (fun (t3 : Val × Val × List Val) => [("found", .own t3.2.2), ("prime", .sh t3.1), ("n", .sh t3.2.1)]) 64 (x0 := (u2, a_n, u1)) (.cons (.cons (.cons .nil))) (fun t3 => (Tst.cmp cmp_gt (Ev.var rfl) Ev.intC)) (fun t3 => (Bk.assign2 (Ev.callD ((c_least_divisor C hC).more (by decide)) (df_of hC df_least_divisor) (EvL.cons (Ev.var rfl) (EvL.cons (Ev.var rfl) EvL.nil))) Ev.intC (fun u4 u5 => (Bk.whl (fun (t6 : Val × Val) => [("prime", .sh u4), ("many", .sh t6.2), ("found", .own t3.2.2), ("n", .sh t6.1)]) 64 (x0 := (t3.2.1, u5)) (.cons (.cons (.cons (.cons .nil)))) (fun t6 => (Tst.cmp cmp_eq (Ev.bin bin_mod (Ev.var rfl) (Ev.var rfl)) Ev.intC)) (fun t6 => (Bk.assign2 (Ev.bin bin_div (Ev.var rfl) (Ev.var rfl)) (Ev.bin bin_add (Ev.var rfl) Ev.intC) (fun u7 u8 => (Bk.nil (.cons (.cons (.cons (.cons .nil)))))) (by rintro ⟨⟩ rfl; rfl))) fun t6 => (Bk.append' rfl (Ev.tup (EvL.cons (Ev.var rfl) (EvL.cons (Ev.var rfl) EvL.nil))) fun u9 => (Bk.assign (Ev.ifx (Tst.cmp cmp_eq (Ev.var rfl) Ev.intC) Ev.intC (Ev.bin bin_add (Ev.var rfl) Ev.intC)) fun u10 => (Bk.nil (.cons (.cons (.cons .nil)))))))) (by rintro ⟨⟩ rfl; rfl))) fun t3 => (Bk.freeze "found" rfl (Bk.ret (Ev.var rfl))))) (by rintro ⟨⟩ rfl; rfl))
  · exact Bk.nothing
theorem c_prime_factors (C : Cx) (hC : C.defs = fun x => dlist.lookup x) : CallD C 2 (recAt 6) m_prime_factors := by
  refine CallD.mk ["n"] (b_prime_factors C hC) fun vs ws h M hv hr pm cd doc => ?_
  unfold g_prime_factors at hv
  split at hv
  · obtain ⟨w0, rfl⟩ := repLn1 hr
    rfl
  · exact absurd rfl hv

/-! mtrim -/
theorem df_mtrim : dlist.lookup ("mtrim" : Str) = some (recAt 8) := by rw [dl]; kernel_rfl
def g_mtrim : List Val → Option (Out Unit)
  | [a_a] => ((((some a_a).bind fun v => (some []).bind fun l => some (v :: l)).bind lenF).bind fun u1 => (seqO (whileO (fun (t2 : Val) => (((some t2).bind fun x => (some (.int 0)).bind fun y => gtO x y).bind fun x => if x then (((some a_a).bind fun x => ((some t2).bind fun x => (some (.int 1)).bind fun y => subO x y).bind fun y => itemO x y).bind fun x => (some (.int 0)).bind fun y => eqO x y) else some false)) (fun (t2 : Val) => (((some t2).bind fun x => (some (.int 1)).bind fun y => subO x y).bind fun u3 => some (.cont (u3)))) 64 (u1)) fun (t2 : Val) => (((((((some a_a).bind fun x => (some t2).bind fun y => sliceO x y).bind fun l => some (.list l)).bind fun v => (some []).bind fun l => some (v :: l)).bind listF).bind fun l => some (.list l)).bind fun v => some (.ret v))))
  | _ => none
def m_mtrim (vs : List Val) : Option Val := (g_mtrim vs).bind outV
theorem b_mtrim (C : Cx) (hC : C.defs = fun x => dlist.lookup x) : ∀ vs, Bk C 0 (recAt 8).scope (lcOfArgs ["a"] vs) (recAt 8).body emb0 (g_mtrim vs) := by
  intro vs
  unfold g_mtrim
  split
  · rename_i a_a
    exact (Bk.assign (Ev.callB call_len (EvL.cons (Ev.var rfl) EvL.nil)) fun u1 => (Bk.whl (fun (t2 : Val) => [("many", .sh t2), ("a", .sh a_a)]) 64 (x0 := (u1)) (.cons (.cons .nil)) (fun t2 => (Tst.and (Tst.cmp cmp_gt (Ev.var rfl) Ev.intC) (Tst.cmp cmp_eq (Ev.item (Ev.var rfl) (Ev.bin bin_sub (Ev.var rfl) Ev.intC)) Ev.intC))) (fun t2 => (Bk.assign (Ev.bin bin_sub (Ev.var rfl) Ev.intC) fun u3 => (Bk.nil (.cons (.cons .nil))))) fun t2 => (Bk.ret (EvN.sh (EvN.callT call_list (EvL.cons (EvN.sh (EvN.slice (Ev.var rfl) (Ev.var rfl))) EvL.nil))))))
  · exact Bk.nothing
theorem c_mtrim (C : Cx) (hC : C.defs = fun x => dlist.lookup x) : CallD C 1 (recAt 8) m_mtrim := by
  refine CallD.mk ["a"] (b_mtrim C hC) fun vs ws h M hv hr pm cd doc => ?_
  unfold g_mtrim at hv
  split at hv
  · obtain ⟨w0, rfl⟩ := repLn1 hr
    rfl
  · exact absurd rfl hv

/-! mdegree -/
theorem df_mdegree : dlist.lookup ("mdegree" : Str) = some (recAt 9) := by rw [dl]; kernel_rfl
def g_mdegree : List Val → Option (Out Unit)
  | [a_a] => (((((some a_a).bind fun v => (some []).bind fun l => some (v :: l)).bind lenF).bind fun x => (some (.int 1)).bind fun y => subO x y).bind fun v => some (.ret v))
  | _ => none
def m_mdegree (vs : List Val) : Option Val := (g_mdegree vs).bind outV
theorem b_mdegree (C : Cx) (hC : C.defs = fun x => dlist.lookup x) : ∀ vs, Bk C 0 (recAt 9).scope (lcOfArgs ["a"] vs) (recAt 9).body emb0 (g_mdegree vs) := by
  intro vs
  unfold g_mdegree
  split
  · rename_i a_a
    exact (Bk.ret (Ev.bin bin_sub (Ev.callB call_len (EvL.cons (Ev.var rfl) EvL.nil)) Ev.intC))
  · exact Bk.nothing
theorem c_mdegree (C : Cx) (hC : C.defs = fun x => dlist.lookup x) : CallD C 1 (recAt 9) m_mdegree := by
  refine CallD.mk ["a"] (b_mdegree C hC) fun vs ws h M hv hr pm cd doc => ?_
  unfold g_mdegree at hv
  split at hv
  · obtain ⟨w0, rfl⟩ := repLn1 hr
    rfl
  · exact absurd rfl hv

/-! madd -/
theorem df_madd : dlist.lookup ("madd" : Str) = some (recAt 10) := by rw [dl]; kernel_rfl
def g_madd : List Val → Option (Out Unit)
  | [a_a, a_b, a_p] => (((some []).bind fun l => if Nat.ble l.length 16777216 then some l else none).bind fun u1 => if allInt u1 then ((((((((some a_a).bind fun v => (some []).bind fun l => some (v :: l)).bind lenF).bind fun v => ((((some a_b).bind fun v => (some []).bind fun l => some (v :: l)).bind lenF).bind fun v => (some []).bind fun l => some (v :: l)).bind fun l => some (v :: l)).bind maxF).bind fun v => (some []).bind fun l => some (v :: l)).bind rangeF).bind fun vs => seqO (loopO (fun (v3 : Val) (t2 : List Val) => ((((((some v3).bind fun x => (((some a_a).bind fun v => (some []).bind fun l => some (v :: l)).bind lenF).bind fun y => ltO x y).bind fun x => if x then ((some a_a).bind fun x => (some v3).bind fun y => itemO x y) else (some (.int 0))).bind fun x => (((some v3).bind fun x => (((some a_b).bind fun v => (some []).bind fun l => some (v :: l)).bind lenF).bind fun y => ltO x y).bind fun x => if x then ((some a_b).bind fun x => (some v3).bind fun y => itemO x y) else (some (.int 0))).bind fun y => addO x y).bind fun x => (some a_p).bind fun y => modO x y).bind fun v => (appO t2 v).bind fun u4 => some (.cont (u4)))) vs (u1)) fun (t2 : List Val) => ((((some (.list t2)).bind fun v => (some []).bind fun l => some (v :: l)).bind m_mtrim).bind fun v => some (.ret v))) else none)
  | _ => none
def m_madd (vs : List Val) : Option Val := (g_madd vs).bind outV
theorem b_madd (C : Cx) (hC : C.defs = fun x => dlist.lookup x) : ∀ vs, Bk C 1 (recAt 10).scope (lcOfArgs ["a", "b", "p"] vs) (recAt 10).body emb0 (g_madd vs) := by
  intro vs
  unfold g_madd
  split
  · rename_i a_a a_b a_p
    exact (Bk.assignOwn (EvN.list EvL.nil) fun u1 => (Bk.for1 (fun (t2 : List Val) => [("found", .own t2), ("a", .sh a_a), ("b", .sh a_b), ("p", .sh a_p)]) (x0 := (u1)) (It.range (EvL.cons (Ev.callB call_max (EvL.cons (Ev.callB call_len (EvL.cons (Ev.var rfl) EvL.nil)) (EvL.cons (Ev.callB call_len (EvL.cons (Ev.var rfl) EvL.nil)) EvL.nil))) EvL.nil)) (.cons (.cons (.cons (.cons .nil)))) (fun v3 t2 => (Bk.append' rfl (Ev.bin bin_mod (Ev.bin bin_add (Ev.ifx (Tst.cmp cmp_lt (Ev.var rfl) (Ev.callB call_len (EvL.cons (Ev.var rfl) EvL.nil))) (Ev.item (Ev.var rfl) (Ev.var rfl)) Ev.intC) (Ev.ifx (Tst.cmp cmp_lt (Ev.var rfl) (Ev.callB call_len (EvL.cons (Ev.var rfl) EvL.nil))) (Ev.item (Ev.var rfl) (Ev.var rfl)) Ev.intC)) (Ev.var rfl)) fun u4 => (Bk.nil (.cons (.cons (.cons (.cons .nil))))))) fun t2 => (Bk.freeze "found" rfl (Bk.ret (Ev.callD ((c_mtrim C hC).more (by decide)) (df_of hC df_mtrim) (EvL.cons (Ev.var rfl) EvL.nil))))))
  · exact Bk.nothing
theorem c_madd (C : Cx) (hC : C.defs = fun x => dlist.lookup x) : CallD C 2 (recAt 10) m_madd := by
  refine CallD.mk ["a", "b", "p"] (b_madd C hC) fun vs ws h M hv hr pm cd doc => ?_
  unfold g_madd at hv
  split at hv
  · obtain ⟨w0, w1, w2, rfl⟩ := repLn3 hr
    rfl
  · exact absurd rfl hv

/-! mneg -/
theorem df_mneg : dlist.lookup ("mneg" : Str) = some (recAt 11) := by rw [dl]; kernel_rfl
def g_mneg : List Val → Option (Out Unit)
  | [a_a, a_p] => (((((some a_a).bind itemsO).bind fun vs => compL (fun v1 => (some true)) (fun v1 => (((some v1).bind negO).bind fun x => (some a_p).bind fun y => modO x y)) vs).bind fun l => some (.list l)).bind fun v => some (.ret v))
  | _ => none
def m_mneg (vs : List Val) : Option Val := (g_mneg vs).bind outV
theorem b_mneg (C : Cx) (hC : C.defs = fun x => dlist.lookup x) : ∀ vs, Bk C 0 (recAt 11).scope (lcOfArgs ["a", "p"] vs) (recAt 11).body emb0 (g_mneg vs) := by
  intro vs
  unfold g_mneg
  split
  · rename_i a_a a_p
    exact (Bk.ret (EvN.sh (EvN.comp1 [("p", .sh a_p)] (It.list (Ev.var rfl)) (fun v1 => TstL.nil) (fun v1 => (Ev.bin bin_mod (Ev.neg (Ev.var rfl)) (Ev.var rfl))) (.cons .nil))))
  · exact Bk.nothing
theorem c_mneg (C : Cx) (hC : C.defs = fun x => dlist.lookup x) : CallD C 1 (recAt 11) m_mneg := by
  refine CallD.mk ["a", "p"] (b_mneg C hC) fun vs ws h M hv hr pm cd doc => ?_
  unfold g_mneg at hv
  split at hv
  · obtain ⟨w0, w1, rfl⟩ := repLn2 hr
    rfl
  · exact absurd rfl hv

/-! msub -/
theorem df_msub : dlist.lookup ("msub" : Str) = some (recAt 12) := by rw [dl]; kernel_rfl
def g_msub : List Val → Option (Out Unit)
  | [a_a, a_b, a_p] => ((((some a_a).bind fun v => ((((some a_b).bind fun v => ((some a_p).bind fun v => (some []).bind fun l => some (v :: l)).bind fun l => some (v :: l)).bind m_mneg).bind fun v => ((some a_p).bind fun v => (some []).bind fun l => some (v :: l)).bind fun l => some (v :: l)).bind fun l => some (v :: l)).bind m_madd).bind fun v => some (.ret v))
  | _ => none
def m_msub (vs : List Val) : Option Val := (g_msub vs).bind outV
theorem b_msub (C : Cx) (hC : C.defs = fun x => dlist.lookup x) : ∀ vs, Bk C 2 (recAt 12).scope (lcOfArgs ["a", "b", "p"] vs) (recAt 12).body emb0 (g_msub vs) := by
  intro vs
  unfold g_msub
  split
  · rename_i a_a a_b a_p
    exact (Bk.ret (Ev.callD ((c_madd C hC).more (by decide)) (df_of hC df_madd) (EvL.cons (Ev.var rfl) (EvL.cons (Ev.callD ((c_mneg C hC).more (by decide)) (df_of hC df_mneg) (EvL.cons (Ev.var rfl) (EvL.cons (Ev.var rfl) EvL.nil))) (EvL.cons (Ev.var rfl) EvL.nil)))))
  · exact Bk.nothing
theorem c_msub (C : Cx) (hC : C.defs = fun x => dlist.lookup x) : CallD C 3 (recAt 12) m_msub := by
  refine CallD.mk ["a", "b", "p"] (b_msub C hC) fun vs ws h M hv hr pm cd doc => ?_
  unfold g_msub at hv
  split at hv
  · obtain ⟨w0, w1, w2, rfl⟩ := repLn3 hr
    rfl
  · exact absurd rfl hv

/-! mscale -/
theorem df_mscale : dlist.lookup ("mscale" : Str) = some (recAt 13) := by rw [dl]; kernel_rfl
def g_mscale : List Val → Option (Out Unit)
  | [a_a, a_number, a_p] => (((((((some a_a).bind itemsO).bind fun vs => compL (fun v1 => (some true)) (fun v1 => (((some v1).bind fun x => (some a_number).bind fun y => mulO x y).bind fun x => (some a_p).bind fun y => modO x y)) vs).bind fun l => some (.list l)).bind fun v => (some []).bind fun l => some (v :: l)).bind m_mtrim).bind fun v => some (.ret v))
  | _ => none
def m_mscale (vs : List Val) : Option Val := (g_mscale vs).bind outV
theorem b_mscale (C : Cx) (hC : C.defs = fun x => dlist.lookup x) : ∀ vs, Bk C 1 (recAt 13).scope (lcOfArgs ["a", "number", "p"] vs) (recAt 13).body emb0 (g_mscale vs) := by
  intro vs
  unfold g_mscale
  split
  · rename_i a_a a_number a_p
    exact (Bk.ret (Ev.callD ((c_mtrim C hC).more (by decide)) (df_of hC df_mtrim) (EvL.cons (EvN.sh (EvN.comp1 [("p", .sh a_p), ("number", .sh a_number)] (It.list (Ev.var rfl)) (fun v1 => TstL.nil) (fun v1 => (Ev.bin bin_mod (Ev.bin bin_mul (Ev.var rfl) (Ev.var rfl)) (Ev.var rfl))) (.cons (.cons .nil)))) EvL.nil)))
  · exact Bk.nothing
theorem c_mscale (C : Cx) (hC : C.defs = fun x => dlist.lookup x) : CallD C 2 (recAt 13) m_mscale := by
  refine CallD.mk ["a", "number", "p"] (b_mscale C hC) fun vs ws h M hv hr pm cd doc => ?_
  unfold g_mscale at hv
  split at hv
  · obtain ⟨w0, w1, w2, rfl⟩ := repLn3 hr
    rfl
  · exact absurd rfl hv

/-! mmul -/
theorem df_mmul : dlist.lookup ("mmul" : Str) = some (recAt 14) := by rw [dl]; kernel_rfl
def g_mmul : List Val → Option (Out Unit)
  | [a_a, a_b, a_p] => (seqO ((((((some a_a).bind fun v => (some []).bind fun l => some (v :: l)).bind lenF).bind fun x => (some (.int 0)).bind fun y => eqO x y).bind fun x => if x then some true else ((((some a_b).bind fun v => (some []).bind fun l => some (v :: l)).bind lenF).bind fun x => (some (.int 0)).bind fun y => eqO x y)).bind fun b => if b then ((((some []).bind fun l => if Nat.ble l.length 16777216 then some l else none).bind fun l => some (.list l)).bind fun v => some (.ret v)) else some (.cont ())) fun (t1 : Unit) => (((((((some a_a).bind fun v => (some []).bind fun l => some (v :: l)).bind lenF).bind fun x => (((some a_b).bind fun v => (some []).bind fun l => some (v :: l)).bind lenF).bind fun y => addO x y).bind fun x => (some (.int 1)).bind fun y => subO x y).bind (repO 0)).bind fun u2 => if allInt u2 then ((((some a_a).bind fun v => (some []).bind fun l => some (v :: l)).bind enumO).bind fun vs => seqO (loopO (tupF2 (fun (v4 v5 : Val) (t3 : List Val) => (seqO (((some v5).bind fun x => (some (.int 0)).bind fun y => neO x y).bind fun b => if b then ((((some a_b).bind fun v => (some []).bind fun l => some (v :: l)).bind enumO).bind fun vs => seqO (loopO (tupF2 (fun (v8 v9 : Val) (t7 : List Val) => ((((((some v4).bind fun x => (some v8).bind fun y => addO x y).bind fun y => itemO (.list t7) y).bind fun x => ((some v5).bind fun x => (some v9).bind fun y => mulO x y).bind fun y => addO x y).bind fun x => (some a_p).bind fun y => modO x y).bind fun v => ((some v4).bind fun x => (some v8).bind fun y => addO x y).bind fun j => (setO t7 j v).bind fun u10 => some (.cont (u10))))) vs (t3)) fun (t7 : List Val) => some (.cont (t7))) else some (.cont (t3))) fun (t6 : List Val) => some (.cont (t6))))) vs (u2)) fun (t3 : List Val) => ((((some (.list t3)).bind fun v => (some []).bind fun l => some (v :: l)).bind m_mtrim).bind fun v => some (.ret v))) else none))
  | _ => none
def m_mmul (vs : List Val) : Option Val := (g_mmul vs).bind outV
theorem b_mmul (C : Cx) (hC : C.defs = fun x => dlist.lookup x) : ∀ vs, Bk C 1 (recAt 14).scope (lcOfArgs ["a", "b", "p"] vs) (recAt 14).body emb0 (g_mmul vs) := by
  intro vs
  unfold g_mmul
  split
  · rename_i a_a a_b a_p
    exact (Bk.ifte (fun (t1 : Unit) => [("a", .sh a_a), ("b", .sh a_b), ("p", .sh a_p)]) (Tst.or (Tst.cmp cmp_eq (Ev.callB call_len (EvL.cons (Ev.var rfl) EvL.nil)) Ev.intC) (Tst.cmp cmp_eq (Ev.callB call_len (EvL.cons (Ev.var rfl) EvL.nil)) Ev.intC)) (Bk.ret (EvN.sh (EvN.list EvL.nil))) (Bk.nil (.cons (.cons (.cons .nil)))) fun t1 => (Bk.assignOwn (EvN.rep' (Ev.bin bin_sub (Ev.bin bin_add (Ev.callB call_len (EvL.cons (Ev.var rfl) EvL.nil)) (Ev.callB call_len (EvL.cons (Ev.var rfl) EvL.nil))) Ev.intC)) fun u2 => (Bk.for2 (fun (t3 : List Val) => [("found", .own t3), ("a", .sh a_a), ("b", .sh a_b), ("p", .sh a_p)]) (x0 := (u2)) (ItT.enumerate (EvL.cons (Ev.var rfl) EvL.nil)) (.cons (.cons (.cons (.cons .nil)))) (fun v4 v5 t3 => (Bk.ifte (fun (t6 : List Val) => [("found", .own t6), ("a", .sh a_a), ("b", .sh a_b), ("p", .sh a_p), ("at", .sh v4), ("one", .sh v5)]) (Tst.cmp cmp_ne (Ev.var rfl) Ev.intC) (Bk.for2 (fun (t7 : List Val) => [("found", .own t7), ("a", .sh a_a), ("b", .sh a_b), ("p", .sh a_p), ("at", .sh v4), ("one", .sh v5)]) (x0 := (t3)) (ItT.enumerate (EvL.cons (Ev.var rfl) EvL.nil)) (.cons (.cons (.cons (.cons (.cons (.cons .nil)))))) (fun v8 v9 t7 => (Bk.setitem rfl (Ev.bin bin_mod (Ev.bin bin_add (Ev.itemOwn rfl (Ev.bin bin_add (Ev.var rfl) (Ev.var rfl))) (Ev.bin bin_mul (Ev.var rfl) (Ev.var rfl))) (Ev.var rfl)) (Ev.bin bin_add (Ev.var rfl) (Ev.var rfl)) fun u10 => (Bk.nil (.cons (.cons (.cons (.cons (.cons (.cons .nil))))))))) fun t7 => (Bk.nil (.cons (.cons (.cons (.cons (.cons (.cons .nil)))))))) (Bk.nil (.cons (.cons (.cons (.cons (.cons (.cons .nil))))))) fun t6 => (Bk.nil (.cons (.cons (.cons (.cons .nil))))))) fun t3 => (Bk.freeze "found" rfl (Bk.ret (Ev.callD ((c_mtrim C hC).more (by decide)) (df_of hC df_mtrim) (EvL.cons (Ev.var rfl) EvL.nil)))))))
  · exact Bk.nothing
theorem c_mmul (C : Cx) (hC : C.defs = fun x => dlist.lookup x) : CallD C 2 (recAt 14) m_mmul := by
  refine CallD.mk ["a", "b", "p"] (b_mmul C hC) fun vs ws h M hv hr pm cd doc => ?_
  unfold g_mmul at hv
  split at hv
  · obtain ⟨w0, w1, w2, rfl⟩ := repLn3 hr
    rfl
  · exact absurd rfl hv

/-! mdivmod -/
theorem df_mdivmod : dlist.lookup ("mdivmod" : Str) = some (recAt 15) := by rw [dl]; kernel_rfl
def g_mdivmod : List Val → Option (Out Unit)
  | [a_a, a_b, a_p] => ((((some a_a).bind fun v => (some []).bind fun l => some (v :: l)).bind listF).bind fun u1 => if allInt u1 then ((((some (.int 0)).bind fun v => ((((((some a_a).bind fun v => (some []).bind fun l => some (v :: l)).bind lenF).bind fun x => (((some a_b).bind fun v => (some []).bind fun l => some (v :: l)).bind lenF).bind fun y => subO x y).bind fun x => (some (.int 1)).bind fun y => addO x y).bind fun v => (some []).bind fun l => some (v :: l)).bind fun l => some (v :: l)).bind maxF).bind (repO 0)).bind fun u2 => if allInt u2 then (((((some a_b).bind fun x => ((some (.int 1)).bind negO).bind fun y => itemO x y).bind fun v => ((some a_p).bind fun v => (some []).bind fun l => some (v :: l)).bind fun l => some (v :: l)).bind m_inverse_mod).bind fun u3 => (((((((some a_a).bind fun v => (some []).bind fun l => some (v :: l)).bind lenF).bind fun x => (((some a_b).bind fun v => (some []).bind fun l => some (v :: l)).bind lenF).bind fun y => subO x y).bind fun v => (((some (.int 1)).bind negO).bind fun v => (((some (.int 1)).bind negO).bind fun v => (some []).bind fun l => some (v :: l)).bind fun l => some (v :: l)).bind fun l => some (v :: l)).bind rangeF).bind fun vs => seqO (loopO (fun (v5 : Val) (t4 : List Val × List Val) => (((((((some v5).bind fun x => (((some a_b).bind fun v => (some []).bind fun l => some (v :: l)).bind lenF).bind fun y => addO x y).bind fun x => (some (.int 1)).bind fun y => subO x y).bind fun y => itemO (.list t4.2) y).bind fun x => (some u3).bind fun y => mulO x y).bind fun x => (some a_p).bind fun y => modO x y).bind fun u6 => ((some u6).bind fun v => (some v5).bind fun j => (setO t4.1 j v).bind fun u7 => (seqO (((some u6).bind fun x => (some (.int 0)).bind fun y => neO x y).bind fun b => if b then ((((some a_b).bind fun v => (some []).bind fun l => some (v :: l)).bind enumO).bind fun vs => seqO (loopO (tupF2 (fun (v10 v11 : Val) (t9 : List Val) => ((((((some v5).bind fun x => (some v10).bind fun y => addO x y).bind fun y => itemO (.list t9) y).bind fun x => ((some u6).bind fun x => (some v11).bind fun y => mulO x y).bind fun y => subO x y).bind fun x => (some a_p).bind fun y => modO x y).bind fun v => ((some v5).bind fun x => (some v10).bind fun y => addO x y).bind fun j => (setO t9 j v).bind fun u12 => some (.cont (u12))))) vs (t4.2)) fun (t9 : List Val) => some (.cont (t9))) else some (.cont (t4.2))) fun (t8 : List Val) => some (.cont (u7, t8)))))) vs (u2, u1)) fun (t4 : List Val × List Val) => ((((((some (.list t4.1)).bind fun v => (some []).bind fun l => some (v :: l)).bind m_mtrim).bind fun v => ((((((some (.list t4.2)).bind fun x => ((((some a_b).bind fun v => (some []).bind fun l => some (v :: l)).bind lenF).bind fun x => (some (.int 1)).bind fun y => subO x y).bind fun y => sliceO x y).bind fun l => some (.list l)).bind fun v => (some []).bind fun l => some (v :: l)).bind m_mtrim).bind fun v => (some []).bind fun l => some (v :: l)).bind fun l => some (v :: l)).bind fun l => if Nat.ble l.length 16777216 then some (.tup l) else none).bind fun v => some (.ret v)))) else none else none)
  | _ => none
def m_mdivmod (vs : List Val) : Option Val := (g_mdivmod vs).bind outV
theorem b_mdivmod (C : Cx) (hC : C.defs = fun x => dlist.lookup x) : ∀ vs, Bk C 2 (recAt 15).scope (lcOfArgs ["a", "b", "p"] vs) (recAt 15).body emb0 (g_mdivmod vs) := by
  intro vs
  unfold g_mdivmod
  split
  · rename_i a_a a_b a_p
    exact (Bk.assign2oo (EvN.callT call_list (EvL.cons (Ev.var rfl) EvL.nil)) (EvN.rep' (Ev.callB call_max (EvL.cons Ev.intC (EvL.cons (Ev.bin bin_add (Ev.bin bin_sub (Ev.callB call_len (EvL.cons (Ev.var rfl) EvL.nil)) (Ev.callB call_len (EvL.cons (Ev.var rfl) EvL.nil))) Ev.intC) EvL.nil)))) (fun u1 u2 => (Bk.assign (Ev.callD ((c_inverse_mod C hC).more (by decide)) (df_of hC df_inverse_mod) (EvL.cons (Ev.item (Ev.var rfl) (Ev.neg Ev.intC)) (EvL.cons (Ev.var rfl) EvL.nil))) fun u3 => (Bk.for1 (fun (t4 : List Val × List Val) => [("turn", .sh u3), ("rest", .own t4.2), ("quotient", .own t4.1), ("a", .sh a_a), ("b", .sh a_b), ("p", .sh a_p)]) (x0 := (u2, u1)) (It.range (EvL.cons (Ev.bin bin_sub (Ev.callB call_len (EvL.cons (Ev.var rfl) EvL.nil)) (Ev.callB call_len (EvL.cons (Ev.var rfl) EvL.nil))) (EvL.cons (Ev.neg Ev.intC) (EvL.cons (Ev.neg Ev.intC) EvL.nil)))) (.cons (.cons (.cons (.cons (.cons (.cons .nil)))))) (fun v5 t4 => (Bk.assign (Ev.bin bin_mod (Ev.bin bin_mul (Ev.itemOwn rfl (Ev.bin bin_sub (Ev.bin bin_add (Ev.var rfl) (Ev.callB call_len (EvL.cons (Ev.var rfl) EvL.nil))) Ev.intC)) (Ev.var rfl)) (Ev.var rfl)) fun u6 => (Bk.setitem rfl (Ev.var rfl) (Ev.var rfl) fun u7 => (Bk.ifte (fun (t8 : List Val) => [("quotient", .own u7), ("number", .sh u6), ("turn", .sh u3), ("rest", .own t8), ("a", .sh a_a), ("b", .sh a_b), ("p", .sh a_p), ("at", .sh v5)]) (Tst.cmp cmp_ne (Ev.var rfl) Ev.intC) (Bk.for2 (fun (t9 : List Val) => [("quotient", .own u7), ("number", .sh u6), ("turn", .sh u3), ("rest", .own t9), ("a", .sh a_a), ("b", .sh a_b), ("p", .sh a_p), ("at", .sh v5)]) (x0 := (t4.2)) (ItT.enumerate (EvL.cons (Ev.var rfl) EvL.nil)) (.cons (.cons (.cons (.cons (.cons (.cons (.cons (.cons .nil)))))))) (fun v10 v11 t9 => (Bk.setitem rfl (Ev.bin bin_mod (Ev.bin bin_sub (Ev.itemOwn rfl (Ev.bin bin_add (Ev.var rfl) (Ev.var rfl))) (Ev.bin bin_mul (Ev.var rfl) (Ev.var rfl))) (Ev.var rfl)) (Ev.bin bin_add (Ev.var rfl) (Ev.var rfl)) fun u12 => (Bk.nil (.cons (.cons (.cons (.cons (.cons (.cons (.cons (.cons .nil))))))))))) fun t9 => (Bk.nil (.cons (.cons (.cons (.cons (.cons (.cons (.cons (.cons .nil)))))))))) (Bk.nil (.cons (.cons (.cons (.cons (.cons (.cons (.cons (.cons .nil))))))))) fun t8 => (Bk.nil (.cons (.cons (.cons (.cons (.cons (.cons .nil))))))))))) fun t4 => (Bk.freeze "quotient" rfl (Bk.freeze "rest" rfl (Bk.ret (Ev.tup (EvL.cons (Ev.callD ((c_mtrim C hC).more (by decide)) (df_of hC df_mtrim) (EvL.cons (Ev.var rfl) EvL.nil)) (EvL.cons (Ev.callD ((c_mtrim C hC).more (by decide)) (df_of hC df_mtrim) (EvL.cons (EvN.sh (EvN.slice (Ev.var rfl) (Ev.bin bin_sub (Ev.callB call_len (EvL.cons (Ev.var rfl) EvL.nil)) Ev.intC))) EvL.nil)) EvL.nil))))))))) (by rintro ⟨⟩ rfl; rfl))
  · exact Bk.nothing
theorem c_mdivmod (C : Cx) (hC : C.defs = fun x => dlist.lookup x) : CallD C 3 (recAt 15) m_mdivmod := by
  refine CallD.mk ["a", "b", "p"] (b_mdivmod C hC) fun vs ws h M hv hr pm cd doc => ?_
  unfold g_mdivmod at hv
  split at hv
  · obtain ⟨w0, w1, w2, rfl⟩ := repLn3 hr
    rfl
  · exact absurd rfl hv

/-! mrest -/
theorem df_mrest : dlist.lookup ("mrest" : Str) = some (recAt 16) := by rw [dl]; kernel_rfl
def g_mrest : List Val → Option (Out Unit)
  | [a_a, a_b, a_p] => (((((some a_a).bind fun v => ((some a_b).bind fun v => ((some a_p).bind fun v => (some []).bind fun l => some (v :: l)).bind fun l => some (v :: l)).bind fun l => some (v :: l)).bind m_mdivmod).bind fun x => (some (.int 1)).bind fun y => itemO x y).bind fun v => some (.ret v))
  | _ => none
def m_mrest (vs : List Val) : Option Val := (g_mrest vs).bind outV
theorem b_mrest (C : Cx) (hC : C.defs = fun x => dlist.lookup x) : ∀ vs, Bk C 3 (recAt 16).scope (lcOfArgs ["a", "b", "p"] vs) (recAt 16).body emb0 (g_mrest vs) := by
  intro vs
  unfold g_mrest
  split
  · rename_i a_a a_b a_p
    exact (Bk.ret (Ev.item (Ev.callD ((c_mdivmod C hC).more (by decide)) (df_of hC df_mdivmod) (EvL.cons (Ev.var rfl) (EvL.cons (Ev.var rfl) (EvL.cons (Ev.var rfl) EvL.nil)))) Ev.intC))
  · exact Bk.nothing
theorem c_mrest (C : Cx) (hC : C.defs = fun x => dlist.lookup x) : CallD C 4 (recAt 16) m_mrest := by
  refine CallD.mk ["a", "b", "p"] (b_mrest C hC) fun vs ws h M hv hr pm cd doc => ?_
  unfold g_mrest at hv
  split at hv
  · obtain ⟨w0, w1, w2, rfl⟩ := repLn3 hr
    rfl
  · exact absurd rfl hv

/-! text MB1 -/
/-! a list of tuples, walked over -/
def tupsL : List Val → Option (List (List Val))
  | [] => some []
  | .tup t :: l => (tupsL l).bind fun r => some (t :: r)
  | _ :: _ => none
def tupsO : Val → Option (List (List Val))
  | .list l => tupsL l
  | _ => none

theorem tups_held {h : Heap} {M : Addr → Prop} : ∀ {l : List Val} {ws : List Value} {r : List (List Val)}, tupsL l = some r → RepL h M l ws →
    ∃ (Ts : List Addr) (us : List (List Value)), ws = Ts.map Value.ref ∧ Ts.length = l.length ∧ us.length = l.length ∧ r.length = l.length ∧
      ∀ j, j < l.length → ∃ T u t, Ts[j]? = some T ∧ us[j]? = some u ∧ r[j]? = some t ∧ ¬ M T ∧ h.IsTuple T (List.toArray u) ∧ RepL h M t u
  | [], ws, r, e, x => by
    cases e
    simp only [RepL] at x; subst x
    exact ⟨[], [], rfl, rfl, rfl, rfl, fun j hj => by simp at hj⟩
  | .tup t :: l, ws, r, e, x => by
    simp only [RepL] at x
    obtain ⟨w, r', rfl, h1, h2⟩ := x
    unfold tupsL at e
    obtain ⟨r0, hr0, e⟩ := obind e
    cases e
    simp only [Rep] at h1
    obtain ⟨T, u, rfl, hM, hT, hu⟩ := h1
    obtain ⟨Ts, us, rfl, a1, a2, a3, a4⟩ := tups_held hr0 h2
    refine ⟨T :: Ts, u :: us, rfl, by simp [a1], by simp [a2], by simp [a3], fun j hj => ?_⟩
    cases j with
    | zero => exact ⟨T, u, t, rfl, rfl, rfl, hM, hT, hu⟩
    | succ j =>
      obtain ⟨T', u', t', b⟩ := a4 j (by simpa using hj)
      exact ⟨T', u', t', by simpa using b⟩
  | .int _ :: _, _, _, e, _ => by cases e
  | .bool _ :: _, _, _, e, _ => by cases e
  | .none :: _, _, _, e, _ => by cases e
  | .list _ :: _, _, _, e, _ => by cases e

theorem ItT.tuples {C : Cx} {n : Nat} {sc : Scope} {ρ : Lc} {e : Expr} {o : Option Val} (h : Ev C n sc ρ e o) : ItT C n sc ρ e (o.bind tupsO) := by
  intro vs q A env ad M s Q E ro hsc S hQ
  obtain ⟨v, hv, q⟩ := obind q
  unfold tupsO at q
  split at q
  · rename_i l
    refine h _ hv A env ad M s _ E ro hsc S fun w s1 k1 q1 => ?_
    simp only [Rep] at q1
    obtain ⟨a, ws, rfl, hM, hl, hr⟩ := q1
    obtain ⟨Ts, us, rfl, a1, a2, a3, a4⟩ := tups_held q hr
    refine wpAny_pyIter_list hl.isList ?_
    have hal : a < s1.heap.objs.size := by obtain ⟨_, e⟩ := hl; exact Heap.lt_size e
    have k2 := keeps_push s1 { cls := .type "list_iterator", data := .fields #[.ref a, .int 0 0] } s1.toks
    have hl2 := isList_agree hl (kh k2 a)
    have hsz : (List.toArray (Ts.map Value.ref)).size = l.length := by rw [List.size_toArray, List.length_map, a1]
    have W := WalksU.bound (WalksU.listOfTuples (prog := C.prog) (w := C.w) ro.hd s1.heap.objs.size a (Nat.ne_of_lt hal) (List.toArray (Ts.map Value.ref)) (fun j => Ts.getD j 0) (fun j => List.toArray (us.getD j []))
      (fun j hj => by
        rw [hsz] at hj
        obtain ⟨T, u, t, b1, _⟩ := a4 j hj
        simp [b1]) (fun j hj => by
        rw [hsz] at hj
        obtain ⟨T, u, t, b1, b2, b3, b4, b5, b6⟩ := a4 j hj
        obtain ⟨o, e, _⟩ := b5
        have : T < s1.heap.objs.size := Heap.lt_size e
        rw [List.getD_eq_getElem?_getD, b1]
        exact Nat.ne_of_lt this))
    rw [hsz, ← a3] at W
    refine hQ _ _ _ _ _ _ _ (kt k1 k2) W ⟨⟨_, Heap.get?_push_size _ rfl, rfl, rfl⟩, hl2.isList, fun j hj => ?_⟩ (fun b hb => ?_) (fun b hb => ?_) (fun i h' st b hb => ?_) (fun i T h' st b hb => ?_) (fun i vals hw => ?_)
    · rw [a3] at hj
      obtain ⟨T, u, t, b1, b2, b3, b4, b5, b6⟩ := a4 j hj
      simp only [List.getD_eq_getElem?_getD, b1, b2, Option.getD_some]
      exact isTuple_agree b5 (kh k2 T)
    · simp at hb; subst hb
      exact none_back k1 (get_none_of_size (Nat.le_refl _))
    · rcases List.mem_cons.mp hb with rfl | hb
      · exact ⟨⟨_, Heap.get?_push_size _ rfl⟩, .inl (by simp)⟩
      · rcases List.mem_cons.mp hb with rfl | hb
        · obtain ⟨_, e⟩ := hl2; exact ⟨⟨_, e⟩, .inr hM⟩
        · obtain ⟨j, hj, rfl⟩ := List.mem_map.mp hb
          rw [List.mem_range, a3] at hj
          obtain ⟨T, u, t, b1, b2, b3, b4, b5, b6⟩ := a4 j hj
          simp only [List.getD_eq_getElem?_getD, b1, Option.getD_some]
          obtain ⟨o, e, _⟩ := b5
          exact ⟨⟨o, kh k2 T o e⟩, .inr b4⟩
    · simp at hb; subst hb
      obtain ⟨o, e, _⟩ := st.1; exact ⟨o, e⟩
    · simp at hb; subst hb
      obtain ⟨o, e, _⟩ := st.2.1; exact ⟨o, e⟩
    · obtain ⟨hi, rfl⟩ := hw
      rw [a3] at hi
      obtain ⟨T, u, t, b1, b2, b3, b4, b5, b6⟩ := a4 i hi
      refine ⟨t, u, b3, by simp [b2], b6.mono (fun b o _ e => kh k2 b o e) fun b o hb e h => ?_⟩
      rcases h with h | h
      · exact hb h
      · simp at h; subst h; rw [get_none_of_size (Nat.le_refl _)] at e; cases e
  · cases q

/-! the place of a thing in a list -/
def findV (x : Val) : Nat → List Val → Option Val
  | _, [] => none
  | j, y :: l => if eqV y x then some (.int (Int.ofNat j)) else findV x (j + 1) l
def indexO : Val → Val → Option Val
  | .list l, x => if okD 8 x && okDs 8 l && Nat.ble l.length 16777216 then findV x 0 l else none
  | _, _ => none
theorem findV_some {x v : Val} : ∀ {l : List Val} {j : Nat}, findV x j l = some v → ∃ n, v = .int (Int.ofNat (j + n)) ∧ n < l.length ∧ (∀ y, l[n]? = some y → eqV y x = true) ∧ ∀ m y, m < n → l[m]? = some y → eqV y x = false
  | [], _, e => by cases e
  | y :: l, j, e => by
    unfold findV at e
    by_cases h : eqV y x = true
    · rw [if_pos h] at e; cases e
      exact ⟨0, rfl, by simp, fun z hz => by simp at hz; subst hz; exact h, fun m _ hm => by omega⟩
    · rw [if_neg h] at e
      obtain ⟨n, rfl, h1, h2, h3⟩ := findV_some e
      refine ⟨n + 1, by rw [show j + 1 + n = j + (n + 1) by omega], by simp; exact h1, fun z hz => h2 z (by simpa using hz), fun m z hm hz => ?_⟩
      cases m with
      | zero => simp at hz; subst hz; simpa using h
      | succ m => exact h3 m z (by omega) (by simpa using hz)

theorem okDs_mem : ∀ {n : Nat} {l : List Val} {y : Val}, okDs n l = true → y ∈ l → okD n y = true
  | _, [], _, _, h => by cases h
  | n, z :: l, y, h, hy => by
    simp only [okDs, Bool.and_eq_true] at h
    rcases List.mem_cons.mp hy with rfl | hy
    · exact h.1
    · exact okDs_mem h.2 hy

theorem call_index {prog : Program} {w : World} {A : Around} {n : Nat} {E : Value → Shared → Prop} {s : Shared} {M : Addr → Prop} {a : Addr} {ws : List Value} {l : List Val} {x v : Val} {wx : Value} {Q : Value → Shared → Prop} (ro : Room A n)
    (hl : s.heap.PlainList a (List.toArray ws)) (hr : RepL s.heap M l ws) (rx : Rep s.heap M x wx) (hi : indexO (.list l) x = some v) (hQ : ∀ w s', Keeps s s' → Rep s'.heap M v w → Q w s') :
    wpAny (model prog w) A (call (.builtin "list.index") [.ref a, wx]) Q E s := by
  change (if (okD 8 x && okDs 8 l && Nat.ble l.length 16777216) = true then findV x 0 l else none) = some v at hi
  split at hi
  · rename_i h
    simp only [Bool.and_eq_true] at h
    obtain ⟨⟨hx, hls⟩, hz⟩ := h
    have hz := Nat.le_of_ble_eq_true hz
    obtain ⟨j, rfl, hj, hj1, hj2⟩ := findV_some hi
    obtain ⟨k, ho⟩ := id hl
    have hlen := hr.length
    obtain ⟨bs, rb⟩ := rx.reads
    have rl : Rep s.heap (fun b => M b ∧ b ≠ a) (.list l) (.ref a) := by
      simp only [Rep]
      exact ⟨a, ws, rfl, fun h => h.2 rfl, hl, hr.mono (fun _ _ _ e => e) fun _ _ hb _ h => hb h.1⟩
    obtain ⟨as, ra⟩ := rl.reads
    rw [toPy] at ra
    have h1 := okD_lay 8 x hx
    have h2 := okDs_lay 8 l hls
    have room : A.units + 1 + min (PyData.depthAll (toPys l)) (toPy x).depth < cLine := by
      have := Nat.min_le_right (PyData.depthAll (toPys l)) (toPy x).depth
      have := ro.un
      have := h1.2
      omega
    cases ra with
    | list e1 e2 e3 e4 =>
      have hob := e1.symm.trans ho
      have hits := (Data.seq.inj (e3.symm.trans (congrArg Obj.data (Option.some.inj hob)))).1
      have eqs := SeqAt.items_eqAt (vs := List.toArray ws) (xs := toPys l) (x := wx) (d := toPy x) (A := A) (by rw [← hits]; exact e4) rb h2.1 h1.1 room
      have val : ∀ m (hm : m < (List.toArray ws).size) y, l[m]? = some y → PyData.eqv (SeqAt.readOf s.heap (List.toArray ws)[m]) (toPy x) = eqV y x := fun m hm y hy => by
        obtain ⟨wy, hwy, ry⟩ := hr.get hy
        obtain ⟨cs, rdy⟩ := ry.reads
        have hyo := okDs_mem hls (List.mem_of_getElem? hy)
        have e5 : (List.toArray ws)[m] = wy := by
          have : (List.toArray ws)[m]? = some wy := by simpa using hwy
          rw [Array.getElem?_eq_getElem hm] at this
          exact Option.some.inj this
        rw [e5, SeqAt.readOf_eq (okD_lay 8 y hyo).1 rdy]
        exact eqV_py 8 8 y x hyo hx
      have hjs : j < (List.toArray ws).size := by rw [List.size_toArray, hlen]; exact hj
      refine call_meets PySem.F.slot_list_index ⟨_, ho, rfl⟩ PySem.F.entry_list_index (PySem.F.args_list_index_2 _ _)
        (SeqAt.list_indexAt a (List.toArray ws) k none #[] wx (fun y => PyData.eqv (SeqAt.readOf s.heap y) (toPy x)) j hjs (by omega) ?_ ?_) ⟨ho, eqs, ?_⟩
      · have hj' := List.getElem?_eq_getElem hj
        exact (val j hjs _ hj').trans (hj1 _ hj')
      · intro m hm hlt
        have hm' := List.getElem?_eq_getElem (show m < l.length by omega)
        exact (val m hm _ hm').trans (hj2 m _ hlt hm')
      · rw [Nat.zero_add] at hQ
        exact hQ _ _ (keeps_tok s _) rep_int
  · cases hi

theorem Ev.index {C : Cx} {n : Nat} {sc : Scope} {ρ : Lc} {a b : Expr} {apos pos : Pos} {oa ob : Option Val} (ha : Ev C n sc ρ a oa) (hb : Ev C n sc ρ b ob)
    (he : ∀ env, ∃ pl, eval (.Call (.Attribute a "index" apos) [b] [] pos) env = (do
      let ov ← eval a env
      standAt apos.atName
      let (f, first) ← holding [ov] (getMethod ov "index" pl)
      callWith pos f first (backTo pos (starEach [b] env)) []) := by exact fun _ => ⟨_, rfl⟩)
    (hp : PlainArgs b [] := by exact ⟨fun _ => rfl, fun _ _ => rfl⟩) : Ev C n sc ρ (.Call (.Attribute a "index" apos) [b] [] pos) (oa.bind fun x => ob.bind fun y => indexO x y) := by
  intro v q A env ad M s Q E ro hsc S hQ
  obtain ⟨x, hx, q⟩ := obind q
  obtain ⟨y, hy, q⟩ := obind q
  obtain ⟨pl, he⟩ := he env
  refine MethodCall_ (pl := pl) (ha x hx A env ad M s _ E ro hsc S fun wx s1 k1 rx => ?_) he
  cases x with
  | list l =>
    have rx' := rx
    simp only [Rep] at rx
    obtain ⟨a, ws, rfl, hM, hl, hr⟩ := rx
    obtain ⟨k, ho⟩ := id hl
    refine getMethod_list_of PySem.F.slot_list_index PySem.F.type_list_index hl.isList ⟨_, ho, rfl⟩ ?_
    refine callWith_method1 (args_cons (hb y hy A env ad M s1 _ E ro hsc (S.keeps (kh k1)) fun wy s2 k2 ry => args_nil ?_) (hp.1 env)) (hp.1 env) (hp.2 env pos)
    show wpAny _ A (call (.builtin "list.index") [.ref a, wy]) Q E s2
    exact call_index ro (isList_agree hl (kh k2 a)) (hr.keep (kh k2)) ry q fun w s3 k3 r3 => hQ w s3 (kt (kt k1 k2) k3) r3
  | int _ => cases q
  | bool _ => cases q
  | none => cases q
  | tup _ => cases q

/-! text MG2 -/
/-! mmonic -/
theorem df_mmonic : dlist.lookup ("mmonic" : Str) = some (recAt 17) := by rw [dl]; kernel_rfl
def g_mmonic : List Val → Option (Out Unit)
  | [a_a, a_p] => ((((((some a_a).bind fun v => (some []).bind fun l => some (v :: l)).bind lenF).bind fun x => (some (.int 0)).bind fun y => gtO x y).bind fun x => if x then (((some a_a).bind fun v => (((((some a_a).bind fun x => ((some (.int 1)).bind negO).bind fun y => itemO x y).bind fun v => ((some a_p).bind fun v => (some []).bind fun l => some (v :: l)).bind fun l => some (v :: l)).bind m_inverse_mod).bind fun v => ((some a_p).bind fun v => (some []).bind fun l => some (v :: l)).bind fun l => some (v :: l)).bind fun l => some (v :: l)).bind m_mscale) else (((some []).bind fun l => if Nat.ble l.length 16777216 then some l else none).bind fun l => some (.list l))).bind fun v => some (.ret v))
  | _ => none
def m_mmonic (vs : List Val) : Option Val := (g_mmonic vs).bind outV
theorem b_mmonic (C : Cx) (hC : C.defs = fun x => dlist.lookup x) : ∀ vs, Bk C 2 (recAt 17).scope (lcOfArgs ["a", "p"] vs) (recAt 17).body emb0 (g_mmonic vs) := by
  intro vs
  unfold g_mmonic
  split
  · rename_i a_a a_p
    exact (Bk.ret (Ev.ifx (Tst.cmp cmp_gt (Ev.callB call_len (EvL.cons (Ev.var rfl) EvL.nil)) Ev.intC) (Ev.callD ((c_mscale C hC).more (by decide)) (df_of hC df_mscale) (EvL.cons (Ev.var rfl) (EvL.cons (Ev.callD ((c_inverse_mod C hC).more (by decide)) (df_of hC df_inverse_mod) (EvL.cons (Ev.item (Ev.var rfl) (Ev.neg Ev.intC)) (EvL.cons (Ev.var rfl) EvL.nil))) (EvL.cons (Ev.var rfl) EvL.nil)))) (EvN.sh (EvN.list EvL.nil))))
  · exact Bk.nothing
theorem c_mmonic (C : Cx) (hC : C.defs = fun x => dlist.lookup x) : CallD C 3 (recAt 17) m_mmonic := by
  refine CallD.mk ["a", "p"] (b_mmonic C hC) fun vs ws h M hv hr pm cd doc => ?_
  unfold g_mmonic at hv
  split at hv
  · obtain ⟨w0, w1, rfl⟩ := repLn2 hr
    rfl
  · exact absurd rfl hv

/-! mpower_mod -/
theorem df_mpower_mod : dlist.lookup ("mpower_mod" : Str) = some (recAt 18) := by rw [dl]; kernel_rfl
def g_mpower_mod : List Val → Option (Out Unit)
  | [a_a, a_n, a_f, a_p] => (((((((some (.int 1)).bind fun v => (some []).bind fun l => some (v :: l)).bind fun l => if Nat.ble l.length 16777216 then some l else none).bind fun l => some (.list l)).bind fun v => ((some a_f).bind fun v => ((some a_p).bind fun v => (some []).bind fun l => some (v :: l)).bind fun l => some (v :: l)).bind fun l => some (v :: l)).bind m_mrest).bind fun u1 => (((some a_a).bind fun v => ((some a_f).bind fun v => ((some a_p).bind fun v => (some []).bind fun l => some (v :: l)).bind fun l => some (v :: l)).bind fun l => some (v :: l)).bind m_mrest).bind fun u2 => (seqO (whileO (fun (t3 : Val × Val × Val) => ((some t3.2.1).bind fun x => (some (.int 0)).bind fun y => gtO x y)) (fun (t3 : Val × Val × Val) => (seqO ((((some t3.2.1).bind fun x => (some (.int 2)).bind fun y => modO x y).bind fun x => (some (.int 1)).bind fun y => eqO x y).bind fun b => if b then ((((((some t3.1).bind fun v => ((some t3.2.2).bind fun v => ((some a_p).bind fun v => (some []).bind fun l => some (v :: l)).bind fun l => some (v :: l)).bind fun l => some (v :: l)).bind m_mmul).bind fun v => ((some a_f).bind fun v => ((some a_p).bind fun v => (some []).bind fun l => some (v :: l)).bind fun l => some (v :: l)).bind fun l => some (v :: l)).bind m_mrest).bind fun u5 => some (.cont (u5))) else some (.cont (t3.1))) fun (t4 : Val) => (((some t3.2.1).bind fun x => (some (.int 2)).bind fun y => divO x y).bind fun u6 => (seqO (((some u6).bind fun x => (some (.int 0)).bind fun y => gtO x y).bind fun b => if b then ((((((some t3.2.2).bind fun v => ((some t3.2.2).bind fun v => ((some a_p).bind fun v => (some []).bind fun l => some (v :: l)).bind fun l => some (v :: l)).bind fun l => some (v :: l)).bind m_mmul).bind fun v => ((some a_f).bind fun v => ((some a_p).bind fun v => (some []).bind fun l => some (v :: l)).bind fun l => some (v :: l)).bind fun l => some (v :: l)).bind m_mrest).bind fun u8 => some (.cont (u8))) else some (.cont (t3.2.2))) fun (t7 : Val) => some (.cont (t4, u6, t7)))))) 64 (u1, a_n, u2)) fun (t3 : Val × Val × Val) => ((some t3.1).bind fun v => some (.ret v))))
  | _ => none
def m_mpower_mod (vs : List Val) : Option Val := (g_mpower_mod vs).bind outV
theorem b_mpower_mod (C : Cx) (hC : C.defs = fun x => dlist.lookup x) : ∀ vs, Bk C 4 (recAt 18).scope (lcOfArgs ["a", "n", "f", "p"] vs) (recAt 18).body emb0 (g_mpower_mod vs) := by
  intro vs
  unfold g_mpower_mod
  split
  · rename_i a_a a_n a_f a_p
    exact (Bk.assign2 (Ev.callD ((c_mrest C hC).more (by decide)) (df_of hC df_mrest) (EvL.cons (EvN.sh (EvN.list (EvL.cons Ev.intC EvL.nil))) (EvL.cons (Ev.var rfl) (EvL.cons (Ev.var rfl) EvL.nil)))) (Ev.callD ((c_mrest C hC).more (by decide)) (df_of hC df_mrest) (EvL.cons (Ev.var rfl) (EvL.cons (Ev.var rfl) (EvL.cons (Ev.var rfl) EvL.nil)))) (fun u1 u2 => (Bk.whl (fun (t3 : Val × Val × Val) => [("found", .sh t3.1), ("square", .sh t3.2.2), ("a", .sh a_a), ("n", .sh t3.2.1), ("f", .sh a_f), ("p", .sh a_p)]) 64 (x0 := (u1, a_n, u2)) (.cons (.cons (.cons (.cons (.cons (.cons .nil)))))) (fun t3 => (Tst.cmp cmp_gt (Ev.var rfl) Ev.intC)) (fun t3 => (Bk.ifte (fun (t4 : Val) => [("found", .sh t4), ("square", .sh t3.2.2), ("a", .sh a_a), ("n", .sh t3.2.1), ("f", .sh a_f), ("p", .sh a_p)]) (Tst.cmp cmp_eq (Ev.bin bin_mod (Ev.var rfl) Ev.intC) Ev.intC) (Bk.assign (Ev.callD ((c_mrest C hC).more (by decide)) (df_of hC df_mrest) (EvL.cons (Ev.callD ((c_mmul C hC).more (by decide)) (df_of hC df_mmul) (EvL.cons (Ev.var rfl) (EvL.cons (Ev.var rfl) (EvL.cons (Ev.var rfl) EvL.nil)))) (EvL.cons (Ev.var rfl) (EvL.cons (Ev.var rfl) EvL.nil)))) fun u5 => (Bk.nil (.cons (.cons (.cons (.cons (.cons (.cons .nil)))))))) (Bk.nil (.cons (.cons (.cons (.cons (.cons (.cons .nil))))))) fun t4 => (Bk.assign (Ev.bin bin_div (Ev.var rfl) Ev.intC) fun u6 => (Bk.ifte (fun (t7 : Val) => [("n", .sh u6), ("found", .sh t4), ("square", .sh t7), ("a", .sh a_a), ("f", .sh a_f), ("p", .sh a_p)]) (Tst.cmp cmp_gt (Ev.var rfl) Ev.intC) (Bk.assign (Ev.callD ((c_mrest C hC).more (by decide)) (df_of hC df_mrest) (EvL.cons (Ev.callD ((c_mmul C hC).more (by decide)) (df_of hC df_mmul) (EvL.cons (Ev.var rfl) (EvL.cons (Ev.var rfl) (EvL.cons (Ev.var rfl) EvL.nil)))) (EvL.cons (Ev.var rfl) (EvL.cons (Ev.var rfl) EvL.nil)))) fun u8 => (Bk.nil (.cons (.cons (.cons (.cons (.cons (.cons .nil)))))))) (Bk.nil (.cons (.cons (.cons (.cons (.cons (.cons .nil))))))) fun t7 => (Bk.nil (.cons (.cons (.cons (.cons (.cons (.cons .nil))))))))))) fun t3 => (Bk.ret (Ev.var rfl)))) (by rintro ⟨⟩ rfl; rfl))
  · exact Bk.nothing
theorem c_mpower_mod (C : Cx) (hC : C.defs = fun x => dlist.lookup x) : CallD C 5 (recAt 18) m_mpower_mod := by
  refine CallD.mk ["a", "n", "f", "p"] (b_mpower_mod C hC) fun vs ws h M hv hr pm cd doc => ?_
  unfold g_mpower_mod at hv
  split at hv
  · obtain ⟨w0, w1, w2, w3, rfl⟩ := repLn4 hr
    rfl
  · exact absurd rfl hv

/-! mgcd -/
theorem df_mgcd : dlist.lookup ("mgcd" : Str) = some (recAt 20) := by rw [dl]; kernel_rfl
def g_mgcd : List Val → Option (Out Unit)
  | [a_a, a_b, a_p] => (seqO (whileO (fun (t1 : Val × Val) => ((((some t1.2).bind fun v => (some []).bind fun l => some (v :: l)).bind lenF).bind fun x => (some (.int 0)).bind fun y => gtO x y)) (fun (t1 : Val × Val) => ((some t1.2).bind fun u2 => (((some t1.1).bind fun v => ((some t1.2).bind fun v => ((some a_p).bind fun v => (some []).bind fun l => some (v :: l)).bind fun l => some (v :: l)).bind fun l => some (v :: l)).bind m_mrest).bind fun u3 => some (.cont (u2, u3)))) 64 (a_a, a_b)) fun (t1 : Val × Val) => ((((some t1.1).bind fun v => ((some a_p).bind fun v => (some []).bind fun l => some (v :: l)).bind fun l => some (v :: l)).bind m_mmonic).bind fun v => some (.ret v)))
  | _ => none
def m_mgcd (vs : List Val) : Option Val := (g_mgcd vs).bind outV
theorem b_mgcd (C : Cx) (hC : C.defs = fun x => dlist.lookup x) : ∀ vs, Bk C 4 (recAt 20).scope (lcOfArgs ["a", "b", "p"] vs) (recAt 20).body emb0 (g_mgcd vs) := by
  intro vs
  unfold g_mgcd
  split
  · rename_i a_a a_b a_p
    exact (Bk.whl (fun (t1 : Val × Val) => [("a", .sh t1.1), ("b", .sh t1.2), ("p", .sh a_p)]) 64 (x0 := (a_a, a_b)) (.cons (.cons (.cons .nil))) (fun t1 => (Tst.cmp cmp_gt (Ev.callB call_len (EvL.cons (Ev.var rfl) EvL.nil)) Ev.intC)) (fun t1 => (Bk.assign2 (Ev.var rfl) (Ev.callD ((c_mrest C hC).more (by decide)) (df_of hC df_mrest) (EvL.cons (Ev.var rfl) (EvL.cons (Ev.var rfl) (EvL.cons (Ev.var rfl) EvL.nil)))) (fun u2 u3 => (Bk.nil (.cons (.cons (.cons .nil))))) (by rintro ⟨⟩ rfl; rfl))) fun t1 => (Bk.ret (Ev.callD ((c_mmonic C hC).more (by decide)) (df_of hC df_mmonic) (EvL.cons (Ev.var rfl) (EvL.cons (Ev.var rfl) EvL.nil)))))
  · exact Bk.nothing
theorem c_mgcd (C : Cx) (hC : C.defs = fun x => dlist.lookup x) : CallD C 5 (recAt 20) m_mgcd := by
  refine CallD.mk ["a", "b", "p"] (b_mgcd C hC) fun vs ws h M hv hr pm cd doc => ?_
  unfold g_mgcd at hv
  split at hv
  · obtain ⟨w0, w1, w2, rfl⟩ := repLn3 hr
    rfl
  · exact absurd rfl hv

/-! counted -/
theorem df_counted : dlist.lookup ("counted" : Str) = some (recAt 24) := by rw [dl]; kernel_rfl
def g_counted : List Val → Option (Out Unit)
  | [a_number, a_p] => (((some []).bind fun l => if Nat.ble l.length 16777216 then some l else none).bind fun u1 => if allInt u1 then (seqO (whileO (fun (t2 : List Val × Val) => ((some t2.2).bind fun x => (some (.int 0)).bind fun y => gtO x y)) (fun (t2 : List Val × Val) => (((some t2.2).bind fun x => (some a_p).bind fun y => modO x y).bind fun v => (appO t2.1 v).bind fun u3 => (((some t2.2).bind fun x => (some a_p).bind fun y => divO x y).bind fun u4 => some (.cont (u3, u4))))) 64 (u1, a_number)) fun (t2 : List Val × Val) => ((((some (.list t2.1)).bind fun v => (some []).bind fun l => some (v :: l)).bind m_mtrim).bind fun v => some (.ret v))) else none)
  | _ => none
def m_counted (vs : List Val) : Option Val := (g_counted vs).bind outV
theorem b_counted (C : Cx) (hC : C.defs = fun x => dlist.lookup x) : ∀ vs, Bk C 1 (recAt 24).scope (lcOfArgs ["number", "p"] vs) (recAt 24).body emb0 (g_counted vs) := by
  intro vs
  unfold g_counted
  split
  · rename_i a_number a_p
    exact (Bk.assignOwn (EvN.list EvL.nil) fun u1 => (Bk.whl (fun (t2 : List Val × Val) => [("found", .own t2.1), ("number", .sh t2.2), ("p", .sh a_p)]) 64 (x0 := (u1, a_number)) (.cons (.cons (.cons .nil))) (fun t2 => (Tst.cmp cmp_gt (Ev.var rfl) Ev.intC)) (fun t2 => (Bk.append' rfl (Ev.bin bin_mod (Ev.var rfl) (Ev.var rfl)) fun u3 => (Bk.assign (Ev.bin bin_div (Ev.var rfl) (Ev.var rfl)) fun u4 => (Bk.nil (.cons (.cons (.cons .nil))))))) fun t2 => (Bk.freeze "found" rfl (Bk.ret (Ev.callD ((c_mtrim C hC).more (by decide)) (df_of hC df_mtrim) (EvL.cons (Ev.var rfl) EvL.nil))))))
  · exact Bk.nothing
theorem c_counted (C : Cx) (hC : C.defs = fun x => dlist.lookup x) : CallD C 2 (recAt 24) m_counted := by
  refine CallD.mk ["number", "p"] (b_counted C hC) fun vs ws h M hv hr pm cd doc => ?_
  unfold g_counted at hv
  split at hv
  · obtain ⟨w0, w1, rfl⟩ := repLn2 hr
    rfl
  · exact absurd rfl hv

/-! is_prime_mod -/
theorem df_is_prime_mod : dlist.lookup ("is_prime_mod" : Str) = some (recAt 25) := by rw [dl]; kernel_rfl
def g_is_prime_mod : List Val → Option (Out Unit)
  | [a_f, a_p] => ((((some a_f).bind fun v => (some []).bind fun l => some (v :: l)).bind m_mdegree).bind fun u1 => (seqO (((some u1).bind fun x => (some (.int 1)).bind fun y => ltO x y).bind fun b => if b then ((some (.bool false)).bind fun v => some (.ret v)) else some (.cont ())) fun (t2 : Unit) => (((((some u1).bind fun v => (some []).bind fun l => some (v :: l)).bind m_prime_factors).bind tupsO).bind fun vs => seqO (loopO (tupF2 (fun (v4 v5 : Val) (t3 : Unit) => (((((((some (.int 0)).bind fun v => ((some (.int 1)).bind fun v => (some []).bind fun l => some (v :: l)).bind fun l => some (v :: l)).bind fun l => if Nat.ble l.length 16777216 then some l else none).bind fun l => some (.list l)).bind fun v => (((some a_p).bind fun x => ((some u1).bind fun x => (some v4).bind fun y => divO x y).bind fun y => powO x y).bind fun v => ((some a_f).bind fun v => ((some a_p).bind fun v => (some []).bind fun l => some (v :: l)).bind fun l => some (v :: l)).bind fun l => some (v :: l)).bind fun l => some (v :: l)).bind m_mpower_mod).bind fun u6 => (seqO (((((((((some u6).bind fun v => (((((((some (.int 0)).bind fun v => ((some (.int 1)).bind fun v => (some []).bind fun l => some (v :: l)).bind fun l => some (v :: l)).bind fun l => if Nat.ble l.length 16777216 then some l else none).bind fun l => some (.list l)).bind fun v => ((some a_f).bind fun v => ((some a_p).bind fun v => (some []).bind fun l => some (v :: l)).bind fun l => some (v :: l)).bind fun l => some (v :: l)).bind m_mrest).bind fun v => ((some a_p).bind fun v => (some []).bind fun l => some (v :: l)).bind fun l => some (v :: l)).bind fun l => some (v :: l)).bind m_msub).bind fun v => ((some a_f).bind fun v => ((some a_p).bind fun v => (some []).bind fun l => some (v :: l)).bind fun l => some (v :: l)).bind fun l => some (v :: l)).bind m_mgcd).bind fun v => (some []).bind fun l => some (v :: l)).bind m_mdegree).bind fun x => (some (.int 0)).bind fun y => neO x y).bind fun b => if b then ((some (.bool false)).bind fun v => some (.ret v)) else some (.cont ())) fun (t7 : Unit) => some (.cont ()))))) vs ()) fun (t3 : Unit) => ((((((((some (.int 0)).bind fun v => ((some (.int 1)).bind fun v => (some []).bind fun l => some (v :: l)).bind fun l => some (v :: l)).bind fun l => if Nat.ble l.length 16777216 then some l else none).bind fun l => some (.list l)).bind fun v => (((some a_p).bind fun x => (some u1).bind fun y => powO x y).bind fun v => ((some a_f).bind fun v => ((some a_p).bind fun v => (some []).bind fun l => some (v :: l)).bind fun l => some (v :: l)).bind fun l => some (v :: l)).bind fun l => some (v :: l)).bind m_mpower_mod).bind fun x => ((((((some (.int 0)).bind fun v => ((some (.int 1)).bind fun v => (some []).bind fun l => some (v :: l)).bind fun l => some (v :: l)).bind fun l => if Nat.ble l.length 16777216 then some l else none).bind fun l => some (.list l)).bind fun v => ((some a_f).bind fun v => ((some a_p).bind fun v => (some []).bind fun l => some (v :: l)).bind fun l => some (v :: l)).bind fun l => some (v :: l)).bind m_mrest).bind fun y => (eqO x y).bind fun c => some (.bool c)).bind fun v => some (.ret v)))))
  | _ => none
def m_is_prime_mod (vs : List Val) : Option Val := (g_is_prime_mod vs).bind outV
theorem b_is_prime_mod (C : Cx) (hC : C.defs = fun x => dlist.lookup x) : ∀ vs, Bk C 5 (recAt 25).scope (lcOfArgs ["f", "p"] vs) (recAt 25).body emb0 (g_is_prime_mod vs) := by
  intro vs
  unfold g_is_prime_mod
  split
  · rename_i a_f a_p
    exact (Bk.assign (Ev.callD ((c_mdegree C hC).more (by decide)) (df_of hC df_mdegree) (EvL.cons (Ev.var rfl) EvL.nil)) fun u1 => (Bk.ifte (fun (t2 : Unit) => [("many", .sh u1), ("f", .sh a_f), ("p", .sh a_p)]) (Tst.cmp cmp_lt (Ev.var rfl) Ev.intC) (Bk.ret Ev.boolc) (Bk.nil (.cons (.cons (.cons .nil)))) fun t2 => (Bk.for2 (fun (t3 : Unit) => [("many", .sh u1), ("f", .sh a_f), ("p", .sh a_p)]) (x0 := ()) (ItT.tuples (Ev.callD ((c_prime_factors C hC).more (by decide)) (df_of hC df_prime_factors) (EvL.cons (Ev.var rfl) EvL.nil))) (.cons (.cons (.cons .nil))) (fun v4 v5 t3 => (Bk.assign (Ev.callD ((c_mpower_mod C hC).more (by decide)) (df_of hC df_mpower_mod) (EvL.cons (EvN.sh (EvN.list (EvL.cons Ev.intC (EvL.cons Ev.intC EvL.nil)))) (EvL.cons (Ev.bin bin_pow (Ev.var rfl) (Ev.bin bin_div (Ev.var rfl) (Ev.var rfl))) (EvL.cons (Ev.var rfl) (EvL.cons (Ev.var rfl) EvL.nil))))) fun u6 => (Bk.ifte (fun (t7 : Unit) => [("power", .sh u6), ("many", .sh u1), ("f", .sh a_f), ("p", .sh a_p), ("divisor", .sh v4), ("times", .sh v5)]) (Tst.cmp cmp_ne (Ev.callD ((c_mdegree C hC).more (by decide)) (df_of hC df_mdegree) (EvL.cons (Ev.callD ((c_mgcd C hC).more (by decide)) (df_of hC df_mgcd) (EvL.cons (Ev.callD ((c_msub C hC).more (by decide)) (df_of hC df_msub) (EvL.cons (Ev.var rfl) (EvL.cons (Ev.callD ((c_mrest C hC).more (by decide)) (df_of hC df_mrest) (EvL.cons (EvN.sh (EvN.list (EvL.cons Ev.intC (EvL.cons Ev.intC EvL.nil)))) (EvL.cons (Ev.var rfl) (EvL.cons (Ev.var rfl) EvL.nil)))) (EvL.cons (Ev.var rfl) EvL.nil)))) (EvL.cons (Ev.var rfl) (EvL.cons (Ev.var rfl) EvL.nil)))) EvL.nil)) Ev.intC) (Bk.ret Ev.boolc) (Bk.nil (.cons (.cons (.cons (.cons (.cons (.cons .nil))))))) fun t7 => (Bk.nil (.cons (.cons (.cons .nil))))))) fun t3 => (Bk.ret (Ev.cmp cmp_eq (Ev.callD ((c_mpower_mod C hC).more (by decide)) (df_of hC df_mpower_mod) (EvL.cons (EvN.sh (EvN.list (EvL.cons Ev.intC (EvL.cons Ev.intC EvL.nil)))) (EvL.cons (Ev.bin bin_pow (Ev.var rfl) (Ev.var rfl)) (EvL.cons (Ev.var rfl) (EvL.cons (Ev.var rfl) EvL.nil))))) (Ev.callD ((c_mrest C hC).more (by decide)) (df_of hC df_mrest) (EvL.cons (EvN.sh (EvN.list (EvL.cons Ev.intC (EvL.cons Ev.intC EvL.nil)))) (EvL.cons (Ev.var rfl) (EvL.cons (Ev.var rfl) EvL.nil)))))))))
  · exact Bk.nothing
theorem c_is_prime_mod (C : Cx) (hC : C.defs = fun x => dlist.lookup x) : CallD C 6 (recAt 25) m_is_prime_mod := by
  refine CallD.mk ["f", "p"] (b_is_prime_mod C hC) fun vs ws h M hv hr pm cd doc => ?_
  unfold g_is_prime_mod at hv
  split at hv
  · obtain ⟨w0, w1, rfl⟩ := repLn2 hr
    rfl
  · exact absurd rfl hv

/-! gf_size -/
theorem df_gf_size : dlist.lookup ("gf_size" : Str) = some (recAt 27) := by rw [dl]; kernel_rfl
def g_gf_size : List Val → Option (Out Unit)
  | [a_m, a_p] => (((some a_p).bind fun x => (((some a_m).bind fun v => (some []).bind fun l => some (v :: l)).bind m_mdegree).bind fun y => powO x y).bind fun v => some (.ret v))
  | _ => none
def m_gf_size (vs : List Val) : Option Val := (g_gf_size vs).bind outV
theorem b_gf_size (C : Cx) (hC : C.defs = fun x => dlist.lookup x) : ∀ vs, Bk C 1 (recAt 27).scope (lcOfArgs ["m", "p"] vs) (recAt 27).body emb0 (g_gf_size vs) := by
  intro vs
  unfold g_gf_size
  split
  · rename_i a_m a_p
    exact (Bk.ret (Ev.bin bin_pow (Ev.var rfl) (Ev.callD ((c_mdegree C hC).more (by decide)) (df_of hC df_mdegree) (EvL.cons (Ev.var rfl) EvL.nil))))
  · exact Bk.nothing
theorem c_gf_size (C : Cx) (hC : C.defs = fun x => dlist.lookup x) : CallD C 2 (recAt 27) m_gf_size := by
  refine CallD.mk ["m", "p"] (b_gf_size C hC) fun vs ws h M hv hr pm cd doc => ?_
  unfold g_gf_size at hv
  split at hv
  · obtain ⟨w0, w1, rfl⟩ := repLn2 hr
    rfl
  · exact absurd rfl hv

/-! gf_things -/
theorem df_gf_things : dlist.lookup ("gf_things" : Str) = some (recAt 28) := by rw [dl]; kernel_rfl
def g_gf_things : List Val → Option (Out Unit)
  | [a_m, a_p] => ((((((((some a_m).bind fun v => ((some a_p).bind fun v => (some []).bind fun l => some (v :: l)).bind fun l => some (v :: l)).bind m_gf_size).bind fun v => (some []).bind fun l => some (v :: l)).bind rangeF).bind fun vs => compL (fun v1 => (some true)) (fun v1 => (((some v1).bind fun v => ((some a_p).bind fun v => (some []).bind fun l => some (v :: l)).bind fun l => some (v :: l)).bind m_counted)) vs).bind fun l => some (.list l)).bind fun v => some (.ret v))
  | _ => none
def m_gf_things (vs : List Val) : Option Val := (g_gf_things vs).bind outV
theorem b_gf_things (C : Cx) (hC : C.defs = fun x => dlist.lookup x) : ∀ vs, Bk C 2 (recAt 28).scope (lcOfArgs ["m", "p"] vs) (recAt 28).body emb0 (g_gf_things vs) := by
  intro vs
  unfold g_gf_things
  split
  · rename_i a_m a_p
    exact (Bk.ret (EvN.sh (EvN.comp1 [("p", .sh a_p)] (It.range (EvL.cons (Ev.callD ((c_gf_size C hC).more (by decide)) (df_of hC df_gf_size) (EvL.cons (Ev.var rfl) (EvL.cons (Ev.var rfl) EvL.nil))) EvL.nil)) (fun v1 => TstL.nil) (fun v1 => (Ev.callD ((c_counted C hC).more (by decide)) (df_of hC df_counted) (EvL.cons (Ev.var rfl) (EvL.cons (Ev.var rfl) EvL.nil)))) (.cons .nil))))
  · exact Bk.nothing
theorem c_gf_things (C : Cx) (hC : C.defs = fun x => dlist.lookup x) : CallD C 3 (recAt 28) m_gf_things := by
  refine CallD.mk ["m", "p"] (b_gf_things C hC) fun vs ws h M hv hr pm cd doc => ?_
  unfold g_gf_things at hv
  split at hv
  · obtain ⟨w0, w1, rfl⟩ := repLn2 hr
    rfl
  · exact absurd rfl hv

/-! gf_multiply -/
theorem df_gf_multiply : dlist.lookup ("gf_multiply" : Str) = some (recAt 29) := by rw [dl]; kernel_rfl
def g_gf_multiply : List Val → Option (Out Unit)
  | [a_a, a_b, a_m, a_p] => ((((((some a_a).bind fun v => ((some a_b).bind fun v => ((some a_p).bind fun v => (some []).bind fun l => some (v :: l)).bind fun l => some (v :: l)).bind fun l => some (v :: l)).bind m_mmul).bind fun v => ((some a_m).bind fun v => ((some a_p).bind fun v => (some []).bind fun l => some (v :: l)).bind fun l => some (v :: l)).bind fun l => some (v :: l)).bind m_mrest).bind fun v => some (.ret v))
  | _ => none
def m_gf_multiply (vs : List Val) : Option Val := (g_gf_multiply vs).bind outV
theorem b_gf_multiply (C : Cx) (hC : C.defs = fun x => dlist.lookup x) : ∀ vs, Bk C 4 (recAt 29).scope (lcOfArgs ["a", "b", "m", "p"] vs) (recAt 29).body emb0 (g_gf_multiply vs) := by
  intro vs
  unfold g_gf_multiply
  split
  · rename_i a_a a_b a_m a_p
    exact (Bk.ret (Ev.callD ((c_mrest C hC).more (by decide)) (df_of hC df_mrest) (EvL.cons (Ev.callD ((c_mmul C hC).more (by decide)) (df_of hC df_mmul) (EvL.cons (Ev.var rfl) (EvL.cons (Ev.var rfl) (EvL.cons (Ev.var rfl) EvL.nil)))) (EvL.cons (Ev.var rfl) (EvL.cons (Ev.var rfl) EvL.nil)))))
  · exact Bk.nothing
theorem c_gf_multiply (C : Cx) (hC : C.defs = fun x => dlist.lookup x) : CallD C 5 (recAt 29) m_gf_multiply := by
  refine CallD.mk ["a", "b", "m", "p"] (b_gf_multiply C hC) fun vs ws h M hv hr pm cd doc => ?_
  unfold g_gf_multiply at hv
  split at hv
  · obtain ⟨w0, w1, w2, w3, rfl⟩ := repLn4 hr
    rfl
  · exact absurd rfl hv

/-! gf_power -/
theorem df_gf_power : dlist.lookup ("gf_power" : Str) = some (recAt 31) := by rw [dl]; kernel_rfl
def g_gf_power : List Val → Option (Out Unit)
  | [a_a, a_n, a_m, a_p] => (((some a_n).bind fun x => (some (.int 0)).bind fun y => ltO x y).bind fun b => if b then none else (((((some (.int 1)).bind fun v => (some []).bind fun l => some (v :: l)).bind fun l => if Nat.ble l.length 16777216 then some l else none).bind fun l => some (.list l)).bind fun u1 => ((((some a_a).bind fun v => (some []).bind fun l => some (v :: l)).bind listF).bind fun l => some (.list l)).bind fun u2 => (seqO (whileO (fun (t3 : Val × Val × Val) => ((some t3.2.1).bind fun x => (some (.int 0)).bind fun y => gtO x y)) (fun (t3 : Val × Val × Val) => (seqO ((((some t3.2.1).bind fun x => (some (.int 2)).bind fun y => modO x y).bind fun x => (some (.int 1)).bind fun y => eqO x y).bind fun b => if b then ((((some t3.1).bind fun v => ((some t3.2.2).bind fun v => ((some a_m).bind fun v => ((some a_p).bind fun v => (some []).bind fun l => some (v :: l)).bind fun l => some (v :: l)).bind fun l => some (v :: l)).bind fun l => some (v :: l)).bind m_gf_multiply).bind fun u5 => some (.cont (u5))) else some (.cont (t3.1))) fun (t4 : Val) => (((some t3.2.1).bind fun x => (some (.int 2)).bind fun y => divO x y).bind fun u6 => (seqO (((some u6).bind fun x => (some (.int 0)).bind fun y => gtO x y).bind fun b => if b then ((((some t3.2.2).bind fun v => ((some t3.2.2).bind fun v => ((some a_m).bind fun v => ((some a_p).bind fun v => (some []).bind fun l => some (v :: l)).bind fun l => some (v :: l)).bind fun l => some (v :: l)).bind fun l => some (v :: l)).bind m_gf_multiply).bind fun u8 => some (.cont (u8))) else some (.cont (t3.2.2))) fun (t7 : Val) => some (.cont (t4, u6, t7)))))) 64 (u1, a_n, u2)) fun (t3 : Val × Val × Val) => ((some t3.1).bind fun v => some (.ret v)))))
  | _ => none
def m_gf_power (vs : List Val) : Option Val := (g_gf_power vs).bind outV
theorem b_gf_power (C : Cx) (hC : C.defs = fun x => dlist.lookup x) : ∀ vs, Bk C 5 (recAt 31).scope (lcOfArgs ["a", "n", "m", "p"] vs) (recAt 31).body emb0 (g_gf_power vs) := by
  intro vs
  unfold g_gf_power
  split
  · rename_i a_a a_n a_m a_p
    exact (Bk.ifno (Tst.cmp cmp_lt (Ev.var rfl) Ev.intC) (Bk.assign2 (EvN.sh (EvN.list (EvL.cons Ev.intC EvL.nil))) (EvN.sh (EvN.callT call_list (EvL.cons (Ev.var rfl) EvL.nil))) (fun u1 u2 => (Bk.whl (fun (t3 : Val × Val × Val) => [("found", .sh t3.1), ("square", .sh t3.2.2), ("a", .sh a_a), ("n", .sh t3.2.1), ("m", .sh a_m), ("p", .sh a_p)]) 64 (x0 := (u1, a_n, u2)) (.cons (.cons (.cons (.cons (.cons (.cons .nil)))))) (fun t3 => (Tst.cmp cmp_gt (Ev.var rfl) Ev.intC)) (fun t3 => (Bk.ifte (fun (t4 : Val) => [("found", .sh t4), ("square", .sh t3.2.2), ("a", .sh a_a), ("n", .sh t3.2.1), ("m", .sh a_m), ("p", .sh a_p)]) (Tst.cmp cmp_eq (Ev.bin bin_mod (Ev.var rfl) Ev.intC) Ev.intC) (Bk.assign (Ev.callD ((c_gf_multiply C hC).more (by decide)) (df_of hC df_gf_multiply) (EvL.cons (Ev.var rfl) (EvL.cons (Ev.var rfl) (EvL.cons (Ev.var rfl) (EvL.cons (Ev.var rfl) EvL.nil))))) fun u5 => (Bk.nil (.cons (.cons (.cons (.cons (.cons (.cons .nil)))))))) (Bk.nil (.cons (.cons (.cons (.cons (.cons (.cons .nil))))))) fun t4 => (Bk.assign (Ev.bin bin_div (Ev.var rfl) Ev.intC) fun u6 => (Bk.ifte (fun (t7 : Val) => [("n", .sh u6), ("found", .sh t4), ("square", .sh t7), ("a", .sh a_a), ("m", .sh a_m), ("p", .sh a_p)]) (Tst.cmp cmp_gt (Ev.var rfl) Ev.intC) (Bk.assign (Ev.callD ((c_gf_multiply C hC).more (by decide)) (df_of hC df_gf_multiply) (EvL.cons (Ev.var rfl) (EvL.cons (Ev.var rfl) (EvL.cons (Ev.var rfl) (EvL.cons (Ev.var rfl) EvL.nil))))) fun u8 => (Bk.nil (.cons (.cons (.cons (.cons (.cons (.cons .nil)))))))) (Bk.nil (.cons (.cons (.cons (.cons (.cons (.cons .nil))))))) fun t7 => (Bk.nil (.cons (.cons (.cons (.cons (.cons (.cons .nil))))))))))) fun t3 => (Bk.ret (Ev.var rfl)))) (by rintro ⟨⟩ rfl; rfl)))
  · exact Bk.nothing
theorem c_gf_power (C : Cx) (hC : C.defs = fun x => dlist.lookup x) : CallD C 6 (recAt 31) m_gf_power := by
  refine CallD.mk ["a", "n", "m", "p"] (b_gf_power C hC) fun vs ws h M hv hr pm cd doc => ?_
  unfold g_gf_power at hv
  split at hv
  · obtain ⟨w0, w1, w2, w3, rfl⟩ := repLn4 hr
    rfl
  · exact absurd rfl hv

/-! number_of -/
theorem df_number_of : dlist.lookup ("number_of" : Str) = some (recAt 32) := by rw [dl]; kernel_rfl
def g_number_of : List Val → Option (Out Unit)
  | [a_a] => ((((((some a_a).bind fun v => (some []).bind fun l => some (v :: l)).bind lenF).bind fun x => (some (.int 0)).bind fun y => gtO x y).bind fun x => if x then ((some a_a).bind fun x => (some (.int 0)).bind fun y => itemO x y) else (some (.int 0))).bind fun v => some (.ret v))
  | _ => none
def m_number_of (vs : List Val) : Option Val := (g_number_of vs).bind outV
theorem b_number_of (C : Cx) (hC : C.defs = fun x => dlist.lookup x) : ∀ vs, Bk C 0 (recAt 32).scope (lcOfArgs ["a"] vs) (recAt 32).body emb0 (g_number_of vs) := by
  intro vs
  unfold g_number_of
  split
  · rename_i a_a
    exact (Bk.ret (Ev.ifx (Tst.cmp cmp_gt (Ev.callB call_len (EvL.cons (Ev.var rfl) EvL.nil)) Ev.intC) (Ev.item (Ev.var rfl) Ev.intC) Ev.intC))
  · exact Bk.nothing
theorem c_number_of (C : Cx) (hC : C.defs = fun x => dlist.lookup x) : CallD C 1 (recAt 32) m_number_of := by
  refine CallD.mk ["a"] (b_number_of C hC) fun vs ws h M hv hr pm cd doc => ?_
  unfold g_number_of at hv
  split at hv
  · obtain ⟨w0, rfl⟩ := repLn1 hr
    rfl
  · exact absurd rfl hv

/-! gf_trace -/
theorem df_gf_trace : dlist.lookup ("gf_trace" : Str) = some (recAt 33) := by rw [dl]; kernel_rfl
def g_gf_trace : List Val → Option (Out Unit)
  | [a_a, a_m, a_p] => ((((some []).bind fun l => if Nat.ble l.length 16777216 then some l else none).bind fun l => some (.list l)).bind fun u1 => ((((some a_a).bind fun v => (some []).bind fun l => some (v :: l)).bind listF).bind fun l => some (.list l)).bind fun u2 => ((((((some a_m).bind fun v => (some []).bind fun l => some (v :: l)).bind m_mdegree).bind fun v => (some []).bind fun l => some (v :: l)).bind rangeF).bind fun vs => seqO (loopO (fun (v4 : Val) (t3 : Val × Val) => ((((some t3.1).bind fun v => ((some t3.2).bind fun v => ((some a_p).bind fun v => (some []).bind fun l => some (v :: l)).bind fun l => some (v :: l)).bind fun l => some (v :: l)).bind m_madd).bind fun u5 => ((((some t3.2).bind fun v => ((some a_p).bind fun v => ((some a_m).bind fun v => ((some a_p).bind fun v => (some []).bind fun l => some (v :: l)).bind fun l => some (v :: l)).bind fun l => some (v :: l)).bind fun l => some (v :: l)).bind m_gf_power).bind fun u6 => some (.cont (u5, u6))))) vs (u1, u2)) fun (t3 : Val × Val) => ((((some t3.1).bind fun v => (some []).bind fun l => some (v :: l)).bind m_number_of).bind fun v => some (.ret v))))
  | _ => none
def m_gf_trace (vs : List Val) : Option Val := (g_gf_trace vs).bind outV
theorem b_gf_trace (C : Cx) (hC : C.defs = fun x => dlist.lookup x) : ∀ vs, Bk C 6 (recAt 33).scope (lcOfArgs ["a", "m", "p"] vs) (recAt 33).body emb0 (g_gf_trace vs) := by
  intro vs
  unfold g_gf_trace
  split
  · rename_i a_a a_m a_p
    exact (Bk.assign2 (EvN.sh (EvN.list EvL.nil)) (EvN.sh (EvN.callT call_list (EvL.cons (Ev.var rfl) EvL.nil))) (fun u1 u2 => (Bk.for1 (fun (t3 : Val × Val) => [("found", .sh t3.1), ("here", .sh t3.2), ("a", .sh a_a), ("m", .sh a_m), ("p", .sh a_p)]) (x0 := (u1, u2)) (It.range (EvL.cons (Ev.callD ((c_mdegree C hC).more (by decide)) (df_of hC df_mdegree) (EvL.cons (Ev.var rfl) EvL.nil)) EvL.nil)) (.cons (.cons (.cons (.cons (.cons .nil))))) (fun v4 t3 => (Bk.assign (Ev.callD ((c_madd C hC).more (by decide)) (df_of hC df_madd) (EvL.cons (Ev.var rfl) (EvL.cons (Ev.var rfl) (EvL.cons (Ev.var rfl) EvL.nil)))) fun u5 => (Bk.assign (Ev.callD ((c_gf_power C hC).more (by decide)) (df_of hC df_gf_power) (EvL.cons (Ev.var rfl) (EvL.cons (Ev.var rfl) (EvL.cons (Ev.var rfl) (EvL.cons (Ev.var rfl) EvL.nil))))) fun u6 => (Bk.nil (.cons (.cons (.cons (.cons (.cons .nil))))))))) fun t3 => (Bk.ret (Ev.callD ((c_number_of C hC).more (by decide)) (df_of hC df_number_of) (EvL.cons (Ev.var rfl) EvL.nil))))) (by rintro ⟨⟩ rfl; rfl))
  · exact Bk.nothing
theorem c_gf_trace (C : Cx) (hC : C.defs = fun x => dlist.lookup x) : CallD C 7 (recAt 33) m_gf_trace := by
  refine CallD.mk ["a", "m", "p"] (b_gf_trace C hC) fun vs ws h M hv hr pm cd doc => ?_
  unfold g_gf_trace at hv
  split at hv
  · obtain ⟨w0, w1, w2, rfl⟩ := repLn3 hr
    rfl
  · exact absurd rfl hv

/-! gf_norm -/
theorem df_gf_norm : dlist.lookup ("gf_norm" : Str) = some (recAt 34) := by rw [dl]; kernel_rfl
def g_gf_norm : List Val → Option (Out Unit)
  | [a_a, a_m, a_p] => (((((some (.int 1)).bind fun v => (some []).bind fun l => some (v :: l)).bind fun l => if Nat.ble l.length 16777216 then some l else none).bind fun l => some (.list l)).bind fun u1 => ((((some a_a).bind fun v => (some []).bind fun l => some (v :: l)).bind listF).bind fun l => some (.list l)).bind fun u2 => ((((((some a_m).bind fun v => (some []).bind fun l => some (v :: l)).bind m_mdegree).bind fun v => (some []).bind fun l => some (v :: l)).bind rangeF).bind fun vs => seqO (loopO (fun (v4 : Val) (t3 : Val × Val) => ((((some t3.1).bind fun v => ((some t3.2).bind fun v => ((some a_m).bind fun v => ((some a_p).bind fun v => (some []).bind fun l => some (v :: l)).bind fun l => some (v :: l)).bind fun l => some (v :: l)).bind fun l => some (v :: l)).bind m_gf_multiply).bind fun u5 => ((((some t3.2).bind fun v => ((some a_p).bind fun v => ((some a_m).bind fun v => ((some a_p).bind fun v => (some []).bind fun l => some (v :: l)).bind fun l => some (v :: l)).bind fun l => some (v :: l)).bind fun l => some (v :: l)).bind m_gf_power).bind fun u6 => some (.cont (u5, u6))))) vs (u1, u2)) fun (t3 : Val × Val) => ((((some t3.1).bind fun v => (some []).bind fun l => some (v :: l)).bind m_number_of).bind fun v => some (.ret v))))
  | _ => none
def m_gf_norm (vs : List Val) : Option Val := (g_gf_norm vs).bind outV
theorem b_gf_norm (C : Cx) (hC : C.defs = fun x => dlist.lookup x) : ∀ vs, Bk C 6 (recAt 34).scope (lcOfArgs ["a", "m", "p"] vs) (recAt 34).body emb0 (g_gf_norm vs) := by
  intro vs
  unfold g_gf_norm
  split
  · rename_i a_a a_m a_p
    exact (Bk.assign2 (EvN.sh (EvN.list (EvL.cons Ev.intC EvL.nil))) (EvN.sh (EvN.callT call_list (EvL.cons (Ev.var rfl) EvL.nil))) (fun u1 u2 => (Bk.for1 (fun (t3 : Val × Val) => [("found", .sh t3.1), ("here", .sh t3.2), ("a", .sh a_a), ("m", .sh a_m), ("p", .sh a_p)]) (x0 := (u1, u2)) (It.range (EvL.cons (Ev.callD ((c_mdegree C hC).more (by decide)) (df_of hC df_mdegree) (EvL.cons (Ev.var rfl) EvL.nil)) EvL.nil)) (.cons (.cons (.cons (.cons (.cons .nil))))) (fun v4 t3 => (Bk.assign (Ev.callD ((c_gf_multiply C hC).more (by decide)) (df_of hC df_gf_multiply) (EvL.cons (Ev.var rfl) (EvL.cons (Ev.var rfl) (EvL.cons (Ev.var rfl) (EvL.cons (Ev.var rfl) EvL.nil))))) fun u5 => (Bk.assign (Ev.callD ((c_gf_power C hC).more (by decide)) (df_of hC df_gf_power) (EvL.cons (Ev.var rfl) (EvL.cons (Ev.var rfl) (EvL.cons (Ev.var rfl) (EvL.cons (Ev.var rfl) EvL.nil))))) fun u6 => (Bk.nil (.cons (.cons (.cons (.cons (.cons .nil))))))))) fun t3 => (Bk.ret (Ev.callD ((c_number_of C hC).more (by decide)) (df_of hC df_number_of) (EvL.cons (Ev.var rfl) EvL.nil))))) (by rintro ⟨⟩ rfl; rfl))
  · exact Bk.nothing
theorem c_gf_norm (C : Cx) (hC : C.defs = fun x => dlist.lookup x) : CallD C 7 (recAt 34) m_gf_norm := by
  refine CallD.mk ["a", "m", "p"] (b_gf_norm C hC) fun vs ws h M hv hr pm cd doc => ?_
  unfold g_gf_norm at hv
  split at hv
  · obtain ⟨w0, w1, w2, rfl⟩ := repLn3 hr
    rfl
  · exact absurd rfl hv

/-! first_prime_poly -/
theorem df_first_prime_poly : dlist.lookup ("first_prime_poly" : Str) = some (recAt 35) := by rw [dl]; kernel_rfl
def g_first_prime_poly : List Val → Option (Out Unit)
  | [a_p, a_k] => (((some a_p).bind fun x => (some a_k).bind fun y => powO x y).bind fun u1 => (seqO (whileO (fun (t2 : Val) => (((((((some t2).bind fun v => ((some a_p).bind fun v => (some []).bind fun l => some (v :: l)).bind fun l => some (v :: l)).bind m_counted).bind fun v => ((some a_p).bind fun v => (some []).bind fun l => some (v :: l)).bind fun l => some (v :: l)).bind m_is_prime_mod).bind boolO).bind fun x => some (!x))) (fun (t2 : Val) => (((some t2).bind fun x => (some (.int 1)).bind fun y => addO x y).bind fun u3 => some (.cont (u3)))) 64 (u1)) fun (t2 : Val) => ((((some t2).bind fun v => ((some a_p).bind fun v => (some []).bind fun l => some (v :: l)).bind fun l => some (v :: l)).bind m_counted).bind fun v => some (.ret v))))
  | _ => none
def m_first_prime_poly (vs : List Val) : Option Val := (g_first_prime_poly vs).bind outV
theorem b_first_prime_poly (C : Cx) (hC : C.defs = fun x => dlist.lookup x) : ∀ vs, Bk C 6 (recAt 35).scope (lcOfArgs ["p", "k"] vs) (recAt 35).body emb0 (g_first_prime_poly vs) := by
  intro vs
  unfold g_first_prime_poly
  split
  · rename_i a_p a_k
    exact (Bk.assign (Ev.bin bin_pow (Ev.var rfl) (Ev.var rfl)) fun u1 => (Bk.whl (fun (t2 : Val) => [("number", .sh t2), ("p", .sh a_p), ("k", .sh a_k)]) 64 (x0 := (u1)) (.cons (.cons (.cons .nil))) (fun t2 => (Tst.not (Tst.call (Ev.callD ((c_is_prime_mod C hC).more (by decide)) (df_of hC df_is_prime_mod) (EvL.cons (Ev.callD ((c_counted C hC).more (by decide)) (df_of hC df_counted) (EvL.cons (Ev.var rfl) (EvL.cons (Ev.var rfl) EvL.nil))) (EvL.cons (Ev.var rfl) EvL.nil)))))) (fun t2 => (Bk.assign (Ev.bin bin_add (Ev.var rfl) Ev.intC) fun u3 => (Bk.nil (.cons (.cons (.cons .nil)))))) fun t2 => (Bk.ret (Ev.callD ((c_counted C hC).more (by decide)) (df_of hC df_counted) (EvL.cons (Ev.var rfl) (EvL.cons (Ev.var rfl) EvL.nil))))))
  · exact Bk.nothing
theorem c_first_prime_poly (C : Cx) (hC : C.defs = fun x => dlist.lookup x) : CallD C 7 (recAt 35) m_first_prime_poly := by
  refine CallD.mk ["p", "k"] (b_first_prime_poly C hC) fun vs ws h M hv hr pm cd doc => ?_
  unfold g_first_prime_poly at hv
  split at hv
  · obtain ⟨w0, w1, rfl⟩ := repLn2 hr
    rfl
  · exact absurd rfl hv

/-! _law_cut -/
theorem df_law_cut : dlist.lookup ("_law_cut" : Str) = some (recAt 39) := by rw [dl]; kernel_rfl
def g_law_cut : List Val → Option (Out Unit)
  | [a_row] => (seqO (whileO (fun (t1 : Val) => (((some t1).bind fun x => (((some []).bind fun l => if Nat.ble l.length 16777216 then some l else none).bind fun l => some (.list l)).bind fun y => neO x y).bind fun x => if x then (((some t1).bind fun x => ((some (.int 1)).bind negO).bind fun y => itemO x y).bind fun x => (some (.int 0)).bind fun y => eqO x y) else some false)) (fun (t1 : Val) => ((((some t1).bind fun x => ((some (.int 1)).bind negO).bind fun y => sliceO x y).bind fun l => some (.list l)).bind fun u2 => some (.cont (u2)))) 64 (a_row)) fun (t1 : Val) => ((some t1).bind fun v => some (.ret v)))
  | _ => none
def m_law_cut (vs : List Val) : Option Val := (g_law_cut vs).bind outV
theorem b_law_cut (C : Cx) (hC : C.defs = fun x => dlist.lookup x) : ∀ vs, Bk C 0 (recAt 39).scope (lcOfArgs ["row"] vs) (recAt 39).body emb0 (g_law_cut vs) := by
  intro vs
  unfold g_law_cut
  split
  · rename_i a_row
    exact (Bk.whl (fun (t1 : Val) => [("row", .sh t1)]) 64 (x0 := (a_row)) (.cons .nil) (fun t1 => (Tst.and (Tst.cmp cmp_ne (Ev.var rfl) (EvN.sh (EvN.list EvL.nil))) (Tst.cmp cmp_eq (Ev.item (Ev.var rfl) (Ev.neg Ev.intC)) Ev.intC))) (fun t1 => (Bk.assign (EvN.sh (EvN.slice (Ev.var rfl) (Ev.neg Ev.intC))) fun u2 => (Bk.nil (.cons .nil)))) fun t1 => (Bk.ret (Ev.var rfl)))
  · exact Bk.nothing
theorem c_law_cut (C : Cx) (hC : C.defs = fun x => dlist.lookup x) : CallD C 1 (recAt 39) m_law_cut := by
  refine CallD.mk ["row"] (b_law_cut C hC) fun vs ws h M hv hr pm cd doc => ?_
  unfold g_law_cut at hv
  split at hv
  · obtain ⟨w0, rfl⟩ := repLn1 hr
    rfl
  · exact absurd rfl hv

/-! _law_times -/
theorem df_law_times : dlist.lookup ("_law_times" : Str) = some (recAt 40) := by rw [dl]; kernel_rfl
def g_law_times : List Val → Option (Out Unit)
  | [a_a, a_b, a_m, a_p] => ((((some (.int 2)).bind fun x => (((some a_m).bind fun v => (some []).bind fun l => some (v :: l)).bind lenF).bind fun y => mulO x y).bind (repO 0)).bind fun u1 => if allInt u1 then ((((some a_a).bind fun v => (some []).bind fun l => some (v :: l)).bind enumO).bind fun vs => seqO (loopO (tupF2 (fun (v3 v4 : Val) (t2 : List Val) => ((((some a_b).bind fun v => (some []).bind fun l => some (v :: l)).bind enumO).bind fun vs => seqO (loopO (tupF2 (fun (v6 v7 : Val) (t5 : List Val) => (((((some v3).bind fun x => (some v6).bind fun y => addO x y).bind fun y => itemO (.list t5) y).bind fun x => ((some v4).bind fun x => (some v7).bind fun y => mulO x y).bind fun y => addO x y).bind fun v => ((some v3).bind fun x => (some v6).bind fun y => addO x y).bind fun j => (setO t5 j v).bind fun u8 => some (.cont (u8))))) vs (t2)) fun (t5 : List Val) => some (.cont (t5))))) vs (u1)) fun (t2 : List Val) => (((((lenF [.list t2]).bind fun x => (some (.int 1)).bind fun y => subO x y).bind fun v => (((((some a_m).bind fun v => (some []).bind fun l => some (v :: l)).bind lenF).bind fun x => (some (.int 2)).bind fun y => subO x y).bind fun v => (((some (.int 1)).bind negO).bind fun v => (some []).bind fun l => some (v :: l)).bind fun l => some (v :: l)).bind fun l => some (v :: l)).bind rangeF).bind fun vs => seqO (loopO (fun (v10 : Val) (t9 : List Val) => ((((((some a_m).bind fun x => ((some (.int 1)).bind negO).bind fun y => sliceO x y).bind fun l => some (.list l)).bind fun v => (some []).bind fun l => some (v :: l)).bind enumO).bind fun vs => seqO (loopO (tupF2 (fun (v12 v13 : Val) (t11 : List Val) => (((((((some v10).bind fun x => (((some a_m).bind fun v => (some []).bind fun l => some (v :: l)).bind lenF).bind fun y => subO x y).bind fun x => (some (.int 1)).bind fun y => addO x y).bind fun x => (some v12).bind fun y => addO x y).bind fun y => itemO (.list t11) y).bind fun x => (((some v10).bind fun y => itemO (.list t11) y).bind fun x => (some v13).bind fun y => mulO x y).bind fun y => subO x y).bind fun v => ((((some v10).bind fun x => (((some a_m).bind fun v => (some []).bind fun l => some (v :: l)).bind lenF).bind fun y => subO x y).bind fun x => (some (.int 1)).bind fun y => addO x y).bind fun x => (some v12).bind fun y => addO x y).bind fun j => (setO t11 j v).bind fun u14 => some (.cont (u14))))) vs (t9)) fun (t11 : List Val) => ((some (.int 0)).bind fun v => (some v10).bind fun j => (setO t11 j v).bind fun u15 => some (.cont (u15))))) vs (t2)) fun (t9 : List Val) => (((((((some (.list t9)).bind itemsO).bind fun vs => compL (fun v16 => (some true)) (fun v16 => ((some v16).bind fun x => (some a_p).bind fun y => modO x y)) vs).bind fun l => some (.list l)).bind fun v => (some []).bind fun l => some (v :: l)).bind m_law_cut).bind fun v => some (.ret v)))) else none)
  | _ => none
def m_law_times (vs : List Val) : Option Val := (g_law_times vs).bind outV
theorem b_law_times (C : Cx) (hC : C.defs = fun x => dlist.lookup x) : ∀ vs, Bk C 1 (recAt 40).scope (lcOfArgs ["a", "b", "m", "p"] vs) (recAt 40).body emb0 (g_law_times vs) := by
  intro vs
  unfold g_law_times
  split
  · rename_i a_a a_b a_m a_p
    exact (Bk.assignOwn (EvN.rep' (Ev.bin bin_mul Ev.intC (Ev.callB call_len (EvL.cons (Ev.var rfl) EvL.nil)))) fun u1 => (Bk.for2 (fun (t2 : List Val) => [("found", .own t2), ("a", .sh a_a), ("b", .sh a_b), ("m", .sh a_m), ("p", .sh a_p)]) (x0 := (u1)) (ItT.enumerate (EvL.cons (Ev.var rfl) EvL.nil)) (.cons (.cons (.cons (.cons (.cons .nil))))) (fun v3 v4 t2 => (Bk.for2 (fun (t5 : List Val) => [("found", .own t5), ("a", .sh a_a), ("b", .sh a_b), ("m", .sh a_m), ("p", .sh a_p), ("at", .sh v3), ("one", .sh v4)]) (x0 := (t2)) (ItT.enumerate (EvL.cons (Ev.var rfl) EvL.nil)) (.cons (.cons (.cons (.cons (.cons (.cons (.cons .nil))))))) (fun v6 v7 t5 => (Bk.setitem rfl (Ev.bin bin_add (Ev.itemOwn rfl (Ev.bin bin_add (Ev.var rfl) (Ev.var rfl))) (Ev.bin bin_mul (Ev.var rfl) (Ev.var rfl))) (Ev.bin bin_add (Ev.var rfl) (Ev.var rfl)) fun u8 => (Bk.nil (.cons (.cons (.cons (.cons (.cons (.cons (.cons .nil)))))))))) fun t5 => (Bk.nil (.cons (.cons (.cons (.cons (.cons .nil)))))))) fun t2 => (Bk.for1 (fun (t9 : List Val) => [("found", .own t9), ("a", .sh a_a), ("b", .sh a_b), ("m", .sh a_m), ("p", .sh a_p)]) (x0 := (t2)) (It.range (EvL.cons (Ev.bin bin_sub (Ev.lenOwn rfl) Ev.intC) (EvL.cons (Ev.bin bin_sub (Ev.callB call_len (EvL.cons (Ev.var rfl) EvL.nil)) Ev.intC) (EvL.cons (Ev.neg Ev.intC) EvL.nil)))) (.cons (.cons (.cons (.cons (.cons .nil))))) (fun v10 t9 => (Bk.for2 (fun (t11 : List Val) => [("found", .own t11), ("a", .sh a_a), ("b", .sh a_b), ("m", .sh a_m), ("p", .sh a_p), ("at", .sh v10)]) (x0 := (t9)) (ItT.enumerate (EvL.cons (EvN.sh (EvN.slice (Ev.var rfl) (Ev.neg Ev.intC))) EvL.nil)) (.cons (.cons (.cons (.cons (.cons (.cons .nil)))))) (fun v12 v13 t11 => (Bk.setitem rfl (Ev.bin bin_sub (Ev.itemOwn rfl (Ev.bin bin_add (Ev.bin bin_add (Ev.bin bin_sub (Ev.var rfl) (Ev.callB call_len (EvL.cons (Ev.var rfl) EvL.nil))) Ev.intC) (Ev.var rfl))) (Ev.bin bin_mul (Ev.itemOwn rfl (Ev.var rfl)) (Ev.var rfl))) (Ev.bin bin_add (Ev.bin bin_add (Ev.bin bin_sub (Ev.var rfl) (Ev.callB call_len (EvL.cons (Ev.var rfl) EvL.nil))) Ev.intC) (Ev.var rfl)) fun u14 => (Bk.nil (.cons (.cons (.cons (.cons (.cons (.cons .nil))))))))) fun t11 => (Bk.setitem rfl Ev.intC (Ev.var rfl) fun u15 => (Bk.nil (.cons (.cons (.cons (.cons (.cons .nil))))))))) fun t9 => (Bk.freeze "found" rfl (Bk.ret (Ev.callD ((c_law_cut C hC).more (by decide)) (df_of hC df_law_cut) (EvL.cons (EvN.sh (EvN.comp1 [("p", .sh a_p)] (It.list (Ev.var rfl)) (fun v16 => TstL.nil) (fun v16 => (Ev.bin bin_mod (Ev.var rfl) (Ev.var rfl))) (.cons .nil))) EvL.nil)))))))
  · exact Bk.nothing
theorem c_law_times (C : Cx) (hC : C.defs = fun x => dlist.lookup x) : CallD C 2 (recAt 40) m_law_times := by
  refine CallD.mk ["a", "b", "m", "p"] (b_law_times C hC) fun vs ws h M hv hr pm cd doc => ?_
  unfold g_law_times at hv
  split at hv
  · obtain ⟨w0, w1, w2, w3, rfl⟩ := repLn4 hr
    rfl
  · exact absurd rfl hv

/-! _law_plus -/
theorem df_law_plus : dlist.lookup ("_law_plus" : Str) = some (recAt 41) := by rw [dl]; kernel_rfl
def g_law_plus : List Val → Option (Out Unit)
  | [a_a, a_b, a_p] => ((((((some a_a).bind fun v => (some []).bind fun l => some (v :: l)).bind lenF).bind fun v => ((((some a_b).bind fun v => (some []).bind fun l => some (v :: l)).bind lenF).bind fun v => (some []).bind fun l => some (v :: l)).bind fun l => some (v :: l)).bind maxF).bind fun u1 => ((((((((some u1).bind fun v => (some []).bind fun l => some (v :: l)).bind rangeF).bind fun vs => compL (fun v2 => (some true)) (fun v2 => (((((some a_a).bind fun x => (((some u1).bind (repO 0)).bind fun l => some (.list l)).bind fun y => addO x y).bind fun x => (some v2).bind fun y => itemO x y).bind fun x => (((some a_b).bind fun x => (((some u1).bind (repO 0)).bind fun l => some (.list l)).bind fun y => addO x y).bind fun x => (some v2).bind fun y => itemO x y).bind fun y => addO x y).bind fun x => (some a_p).bind fun y => modO x y)) vs).bind fun l => some (.list l)).bind fun v => (some []).bind fun l => some (v :: l)).bind m_law_cut).bind fun v => some (.ret v)))
  | _ => none
def m_law_plus (vs : List Val) : Option Val := (g_law_plus vs).bind outV
theorem b_law_plus (C : Cx) (hC : C.defs = fun x => dlist.lookup x) : ∀ vs, Bk C 1 (recAt 41).scope (lcOfArgs ["a", "b", "p"] vs) (recAt 41).body emb0 (g_law_plus vs) := by
  intro vs
  unfold g_law_plus
  split
  · rename_i a_a a_b a_p
    exact (Bk.assign (hx := .inr ⟨rfl, by decide⟩) (Ev.callB call_max (EvL.cons (Ev.callB call_len (EvL.cons (Ev.var rfl) EvL.nil)) (EvL.cons (Ev.callB call_len (EvL.cons (Ev.var rfl) EvL.nil)) EvL.nil))) fun u1 => (Bk.ret (Ev.callD ((c_law_cut C hC).more (by decide)) (df_of hC df_law_cut) (EvL.cons (EvN.sh (EvN.comp1 [("p", .sh a_p), ("a", .sh a_a), ("b", .sh a_b), ("wide", .sh u1)] (It.range (EvL.cons (Ev.var rfl) EvL.nil)) (fun v2 => TstL.nil) (fun v2 => (Ev.bin bin_mod (Ev.bin bin_add (Ev.item (Ev.bin bin_add (Ev.var rfl) (EvN.sh (EvN.rep' (Ev.var rfl)))) (Ev.var rfl)) (Ev.item (Ev.bin bin_add (Ev.var rfl) (EvN.sh (EvN.rep' (Ev.var rfl)))) (Ev.var rfl))) (Ev.var rfl))) (.cons (.cons (.cons (.cons .nil)))))) EvL.nil))))
  · exact Bk.nothing
theorem c_law_plus (C : Cx) (hC : C.defs = fun x => dlist.lookup x) : CallD C 2 (recAt 41) m_law_plus := by
  refine CallD.mk ["a", "b", "p"] (b_law_plus C hC) fun vs ws h M hv hr pm cd doc => ?_
  unfold g_law_plus at hv
  split at hv
  · obtain ⟨w0, w1, w2, rfl⟩ := repLn3 hr
    rfl
  · exact absurd rfl hv

/-! _law_raised -/
theorem df_law_raised : dlist.lookup ("_law_raised" : Str) = some (recAt 42) := by rw [dl]; kernel_rfl
def g_law_raised : List Val → Option (Out Unit)
  | [a_a, a_m, a_p] => (((((some (.int 1)).bind fun v => (some []).bind fun l => some (v :: l)).bind fun l => if Nat.ble l.length 16777216 then some l else none).bind fun l => some (.list l)).bind fun u1 => ((((some a_p).bind fun v => (some []).bind fun l => some (v :: l)).bind rangeF).bind fun vs => seqO (loopO (fun (v3 : Val) (t2 : Val) => ((((some t2).bind fun v => ((some a_a).bind fun v => ((some a_m).bind fun v => ((some a_p).bind fun v => (some []).bind fun l => some (v :: l)).bind fun l => some (v :: l)).bind fun l => some (v :: l)).bind fun l => some (v :: l)).bind m_law_times).bind fun u4 => some (.cont (u4)))) vs (u1)) fun (t2 : Val) => ((some t2).bind fun v => some (.ret v))))
  | _ => none
def m_law_raised (vs : List Val) : Option Val := (g_law_raised vs).bind outV
theorem b_law_raised (C : Cx) (hC : C.defs = fun x => dlist.lookup x) : ∀ vs, Bk C 2 (recAt 42).scope (lcOfArgs ["a", "m", "p"] vs) (recAt 42).body emb0 (g_law_raised vs) := by
  intro vs
  unfold g_law_raised
  split
  · rename_i a_a a_m a_p
    exact (Bk.assign (EvN.sh (EvN.list (EvL.cons Ev.intC EvL.nil))) fun u1 => (Bk.for1 (fun (t2 : Val) => [("found", .sh t2), ("a", .sh a_a), ("m", .sh a_m), ("p", .sh a_p)]) (x0 := (u1)) (It.range (EvL.cons (Ev.var rfl) EvL.nil)) (.cons (.cons (.cons (.cons .nil)))) (fun v3 t2 => (Bk.assign (Ev.callD ((c_law_times C hC).more (by decide)) (df_of hC df_law_times) (EvL.cons (Ev.var rfl) (EvL.cons (Ev.var rfl) (EvL.cons (Ev.var rfl) (EvL.cons (Ev.var rfl) EvL.nil))))) fun u4 => (Bk.nil (.cons (.cons (.cons (.cons .nil))))))) fun t2 => (Bk.ret (Ev.var rfl))))
  · exact Bk.nothing
theorem c_law_raised (C : Cx) (hC : C.defs = fun x => dlist.lookup x) : CallD C 3 (recAt 42) m_law_raised := by
  refine CallD.mk ["a", "m", "p"] (b_law_raised C hC) fun vs ws h M hv hr pm cd doc => ?_
  unfold g_law_raised at hv
  split at hv
  · obtain ⟨w0, w1, w2, rfl⟩ := repLn3 hr
    rfl
  · exact absurd rfl hv

/-! _law_counts_right -/
theorem df_law_counts_right : dlist.lookup ("_law_counts_right" : Str) = some (recAt 43) := by rw [dl]; kernel_rfl
def g_law_counts_right : List Val → Option (Out Unit)
  | [a_things, a_traces, a_norms, a_p] => ((((some a_things).bind fun v => (some []).bind fun l => some (v :: l)).bind lenF).bind fun u1 => ((((some a_p).bind fun v => (some []).bind fun l => some (v :: l)).bind rangeF).bind fun vs => seqO (loopO (fun (v3 : Val) (t2 : Unit) => (seqO (((((((((some a_traces).bind itemsO).bind fun vs => compL (fun v5 => ((some v5).bind fun x => (some v3).bind fun y => eqO x y)) (fun v5 => (some v5)) vs).bind fun l => some (.list l)).bind fun v => (some []).bind fun l => some (v :: l)).bind lenF).bind fun x => (some a_p).bind fun y => mulO x y).bind fun x => (some u1).bind fun y => neO x y).bind fun b => if b then ((some (.bool false)).bind fun v => some (.ret v)) else some (.cont ())) fun (t4 : Unit) => (seqO ((((some v3).bind fun x => (some (.int 0)).bind fun y => gtO x y).bind fun x => if x then ((((((((some a_norms).bind itemsO).bind fun vs => compL (fun v7 => ((some v7).bind fun x => (some v3).bind fun y => eqO x y)) (fun v7 => (some v7)) vs).bind fun l => some (.list l)).bind fun v => (some []).bind fun l => some (v :: l)).bind lenF).bind fun x => ((some a_p).bind fun x => (some (.int 1)).bind fun y => subO x y).bind fun y => mulO x y).bind fun x => ((some u1).bind fun x => (some (.int 1)).bind fun y => subO x y).bind fun y => neO x y) else some false).bind fun b => if b then ((some (.bool false)).bind fun v => some (.ret v)) else some (.cont ())) fun (t6 : Unit) => some (.cont ())))) vs ()) fun (t2 : Unit) => ((((((((some a_norms).bind itemsO).bind fun vs => compL (fun v8 => ((some v8).bind fun x => (some (.int 0)).bind fun y => eqO x y)) (fun v8 => (some v8)) vs).bind fun l => some (.list l)).bind fun v => (some []).bind fun l => some (v :: l)).bind lenF).bind fun x => (some (.int 1)).bind fun y => (eqO x y).bind fun c => some (.bool c)).bind fun v => some (.ret v))))
  | _ => none
def m_law_counts_right (vs : List Val) : Option Val := (g_law_counts_right vs).bind outV
theorem b_law_counts_right (C : Cx) (hC : C.defs = fun x => dlist.lookup x) : ∀ vs, Bk C 0 (recAt 43).scope (lcOfArgs ["things", "traces", "norms", "p"] vs) (recAt 43).body emb0 (g_law_counts_right vs) := by
  intro vs
  unfold g_law_counts_right
  split
  · rename_i a_things a_traces a_norms a_p
    exact (Bk.assign (Ev.callB call_len (EvL.cons (Ev.var rfl) EvL.nil)) fun u1 => (Bk.for1 (hx := .inr ⟨rfl, by decide⟩) (fun (t2 : Unit) => [("many", .sh u1), ("things", .sh a_things), ("traces", .sh a_traces), ("norms", .sh a_norms), ("p", .sh a_p)]) (x0 := ()) (It.range (EvL.cons (Ev.var rfl) EvL.nil)) (.cons (.cons (.cons (.cons (.cons .nil))))) (fun v3 t2 => (Bk.ifte (fun (t4 : Unit) => [("many", .sh u1), ("things", .sh a_things), ("traces", .sh a_traces), ("norms", .sh a_norms), ("p", .sh a_p), ("number", .sh v3)]) (Tst.cmp cmp_ne (Ev.bin bin_mul (Ev.callB call_len (EvL.cons (EvN.sh (EvN.comp1 [("number", .sh v3)] (It.list (Ev.var rfl)) (fun v5 => (TstL.one (Tst.cmp cmp_eq (Ev.var rfl) (Ev.var rfl)))) (fun v5 => (Ev.var rfl)) (.cons .nil))) EvL.nil)) (Ev.var rfl)) (Ev.var rfl)) (Bk.ret Ev.boolc) (Bk.nil (.cons (.cons (.cons (.cons (.cons (.cons .nil))))))) fun t4 => (Bk.ifte (fun (t6 : Unit) => [("many", .sh u1), ("things", .sh a_things), ("traces", .sh a_traces), ("norms", .sh a_norms), ("p", .sh a_p), ("number", .sh v3)]) (Tst.and (Tst.cmp cmp_gt (Ev.var rfl) Ev.intC) (Tst.cmp cmp_ne (Ev.bin bin_mul (Ev.callB call_len (EvL.cons (EvN.sh (EvN.comp1 [("number", .sh v3)] (It.list (Ev.var rfl)) (fun v7 => (TstL.one (Tst.cmp cmp_eq (Ev.var rfl) (Ev.var rfl)))) (fun v7 => (Ev.var rfl)) (.cons .nil))) EvL.nil)) (Ev.bin bin_sub (Ev.var rfl) Ev.intC)) (Ev.bin bin_sub (Ev.var rfl) Ev.intC))) (Bk.ret Ev.boolc) (Bk.nil (.cons (.cons (.cons (.cons (.cons (.cons .nil))))))) fun t6 => (Bk.nil (.cons (.cons (.cons (.cons (.cons .nil))))))))) fun t2 => (Bk.ret (Ev.cmp cmp_eq (Ev.callB call_len (EvL.cons (EvN.sh (EvN.comp1 [] (It.list (Ev.var rfl)) (fun v8 => (TstL.one (Tst.cmp cmp_eq (Ev.var rfl) Ev.intC))) (fun v8 => (Ev.var rfl)) .nil)) EvL.nil)) Ev.intC))))
  · exact Bk.nothing
theorem c_law_counts_right (C : Cx) (hC : C.defs = fun x => dlist.lookup x) : CallD C 1 (recAt 43) m_law_counts_right := by
  refine CallD.mk ["things", "traces", "norms", "p"] (b_law_counts_right C hC) fun vs ws h M hv hr pm cd doc => ?_
  unfold g_law_counts_right at hv
  split at hv
  · obtain ⟨w0, w1, w2, w3, rfl⟩ := repLn4 hr
    rfl
  · exact absurd rfl hv

/-! text MB2 -/
def pairT (f : Val → Val → Option Bool) (l : List Val) : Option Bool := match l with
  | [a, b] => f a b
  | _ => none
def pairE (f : Val → Val → Option Val) (l : List Val) : Option Val := match l with
  | [a, b] => f a b
  | _ => none

/-- one test of a comprehension, asked by itself or in the list of its tests: the same tree -/
theorem tests_one_eq (c : Expr) (env : Env) : (forIn [c] true fun c r => if r = true then do let ok ← isTrue c env (eval c env); pure (ForInStep.yield ok) else pure (ForInStep.yield r) : Sem Bool) = isTrue c env (eval c env) := by
  simp only [List.forIn_cons, List.forIn_nil, if_true, bind_assoc, pure_bind, bind_pure]

section
variable {C : Cx} {n : Nat} {sc scope : Scope} {ρ ρc : Lc} {x y z : Str} {px py pz tp pos spos ipos : Pos} {k1 : Nat} {elt iter tst : Expr}

theorem comp_core2 {oi : Option (List (List Val))} {ft : Val → Val → Option Bool} {fe : Val → Val → Option Val} {vs : List (List Val)} {l : List Val} (hi : ItT C n sc ρ iter oi) (hvs : oi = some vs) (hcs : CompScope sc scope ρ) (hci : CompIn sc scope ρ ρc)
    (ht : ∀ v u, TstL C n (relabelS scope sc) ((y, .sh u) :: (x, .sh v) :: ρc) [tst] (ft v u)) (he : ∀ v u, Ev C n (relabelS scope sc) ((y, .sh u) :: (x, .sh v) :: ρc) elt (fe v u)) (hl : compO (pairT ft) (pairE fe) vs = some l) (hlen : vs.length ≤ 16777216)
    (hx : scope.names.lookup x = some .local) (hxc : (relabelS scope sc).names.lookup x = some .local) (hyc : (relabelS scope sc).names.lookup y = some .local) (hs : ∀ env v, foldedSetIterable iter env v = pure v)
    {A : Around} {env : Env} {ad : Str → Addr} {M : Addr → Prop} {s : Shared} {E : Value → Shared → Prop} {use : Option (Value → Sem Unit)} {Q : Value → Shared → Prop} (ro : Room A n) (hsc : env.scope = sc) (S : Sat C M ad env ρ s.heap)
    (fin : ∀ D K ws s' m, Keeps s s' → s.heap.get? D = none → s.heap.get? K = none → D ≠ K → s'.heap.Ns K m → s'.heap.PlainList D (List.toArray ws) → RepL s'.heap (fun b => M b ∨ b = D ∨ b = K) l ws →
      compPost (model C.prog C.w) A E use Q (.ref D) K (.ok .next) s') :
    wpAny (model C.prog C.w) A (comprehension (.ListComp elt [⟨.Tuple [.Name x px, .Name y py] k1 tp, iter, [tst], 0⟩] scope pos) scope env ipos (newList []) false (eval iter env) use) Q E s := by
  obtain ⟨cl, hclos, hcl, hcl2⟩ := closure_cells (env := env) (scope := scope) fun p hp hk => by
    obtain ⟨h1, h2⟩ := hcs.free p hp hk
    obtain ⟨sl, hsl⟩ := Option.isSome_iff_exists.mp h2
    obtain ⟨w, hw, _⟩ := S.vars p.1 sl hsl
    rcases hw with ⟨k1, _⟩ | ⟨_, _, a, k3, _⟩
    · have : env.scope.names.lookup p.1 = some .local := k1
      rw [hsc, h1] at this; cases this
    · exact ⟨a, k3⟩
  refine wpAny_comprehension_free rfl (hs env) hclos hcs.kind hcs.names ?_
  refine hi vs hvs A env ad M s _ E ro hsc S fun I fp wr P St Mid s2 kp W hst hfr hfp hlv hlm hP => ?_
  refine wpAny_newObj_type (wpAny_newFunctionEnv hcs.cell (by intro y hy; simp at hy) (fun h₁ hns₁ hsb₁ => ?_) hcs.kind)
  dsimp only at hns₁ hsb₁ ⊢
  generalize hH2 : s2.heap.push { cls := .type "list", dict := none, data := .seq ([] : List Value).toArray } = H2 at hns₁ hsb₁ ⊢
  have hCs : H2.objs.size = s2.heap.objs.size + 1 := by rw [← hH2, Heap.size_push]
  generalize hD : s2.heap.objs.size = D at *
  have hDK : D ≠ H2.objs.size := by rw [hCs]; exact Nat.ne_of_lt (Nat.lt_succ_self _)
  have hD2 : s2.heap.get? D = none := get_none_of_size (Nat.le_of_eq hD)
  have hK2 : s2.heap.get? H2.objs.size = none := get_none_of_size (by rw [hCs, hD]; exact Nat.le_succ _)
  have ne2 : ∀ b o, s2.heap.get? b = some o → b ≠ D ∧ b ≠ H2.objs.size := fun b o e => ⟨(by rintro rfl; rw [hD2] at e; cases e), (by rintro rfl; rw [hK2] at e; cases e)⟩
  have old : ∀ b o, s2.heap.get? b = some o → h₁.get? b = some o := fun b o e => hsb₁.extBut b o (ne2 b o e).2 (Heap.get?_push_of_some _ (hH2 ▸ Heap.get?_push_of_some _ e))
  have hDf : D ∉ fp := fun h => by obtain ⟨o, e⟩ := (hfp D h).1; rw [hD2] at e; cases e
  have hKf : H2.objs.size ∉ fp := fun h => by obtain ⟨o, e⟩ := (hfp _ h).1; rw [hK2] at e; cases e
  have hacc : h₁.PlainList D (List.toArray []) := ⟨_, hsb₁.extBut _ _ hDK (Heap.get?_push_of_some _ (hH2 ▸ hD ▸ Heap.get?_push_size _ rfl))⟩
  -- the environment of the body
  have hcenv : ({ newEnv scope H2.objs.size env.globals cl env.qual none .none (some env) env.builtins with scope := relabel scope env } : Env) = compEnvC scope cl H2.objs.size env := rfl
  have hcsc : (compEnvC scope cl H2.objs.size env).scope = relabelS scope sc := relabelS_eq hsc
  have satI : ∀ {ρi : Lc} {St : Heap → Prop} {acc : List Val} {s' : Shared}, CI s s2 M wr fp D H2.objs.size St acc s' → (∀ h, St h → ∀ b, b ∈ wr → ∃ o, h.get? b = some o) →
      (∀ y sl, ρi.lookup y = some sl → ρc.lookup y = some sl ∨ ∃ w, Holds s'.heap (compEnvC scope cl H2.objs.size env) y w ∧ SlotOK s'.heap (fun b => M b ∨ b ∈ wr ∨ b = D ∨ b = H2.objs.size) (ad y) sl w) →
      Sat C (fun b => M b ∨ b ∈ wr ∨ b = D ∨ b = H2.objs.size) ad (compEnvC scope cl H2.objs.size env) ρi s'.heap := by
    intro ρi St acc s' c hlv' hv
    obtain ⟨h1, h2⟩ := c.sat (m := fun _ => none) kp S hsc hcs hci hfr hD2 hK2 hlv' hcl hcl2
    refine ⟨S.top.keeps h2, S.gl, S.bi, ?_, fun a ha => ?_, fun y sl e => ?_⟩
    · show (relabel scope env).kind = .function
      exact hcs.kind
    · rcases ha with h | h | h | h
      · obtain ⟨o, e⟩ := S.live a h; exact ⟨o, h2 a o e⟩
      · exact hlv' _ c.st a h
      · obtain ⟨ws, ⟨_, e⟩, _⟩ := c.lst; exact ⟨_, h ▸ e⟩
      · obtain ⟨m, o, _, _, e, _⟩ := c.ns; exact ⟨_, h ▸ e⟩
    · rcases hv y sl e with h | h
      · exact h1 y sl h
      · exact h
  have loop : ∀ s₃ : Shared, s₃ = { s2 with heap := h₁, toks := s2.toks + ([] : List (Str × Value)).length } →
      codeAny (model C.prog C.w) A (.compLoop (.ListComp elt [⟨.Tuple [.Name x px, .Name y py] k1 tp, iter, [tst], 0⟩] scope pos) 0 (.ref I) (.ref D) (compEnvC scope cl H2.objs.size env)) (compPost (model C.prog C.w) A E use Q (.ref D) H2.objs.size) s₃ := by
    rintro s₃ rfl
    refine kct_loop (fun kk s' => ∃ i acc rst, i ≤ vs.length ∧ kk = vs.length + 1 - i ∧ CI s s2 M wr fp D H2.objs.size (St i) acc s' ∧ compO (pairT ft) (pairE fe) (vs.drop i) = some rst ∧ l = acc ++ rst ∧ acc.length ≤ i) ?_ (vs.length + 1)
      ⟨0, [], l, Nat.zero_le _, rfl, ⟨⟨_, _, rfl⟩, fun b o _ e => old b o e, W.frame _ _ _ hst fun b _ o e => old b o e, ⟨_, hns₁⟩, [], hacc, .nil⟩, by simpa using hl, rfl, Nat.le_refl _⟩
    rintro kk s' ⟨i, acc, rst, hi, rfl, c, hr, rfl, hai⟩
    by_cases hlt : i < vs.length
    · refine W.item i _ _ _ hlt c.st fun T vals h2 tk2 hPt hT hmid up2 => ?_
      refine W.go _ k1 tp i T _ _ _ hmid fun h2' hst2 up2' => ?_
      obtain ⟨lv, ws, hlv', rfl, hrv⟩ := hP i vals hPt
      rw [drop_cons hlv'] at hr
      obtain ⟨m, hm⟩ := c.ns
      have hKw : H2.objs.size ∉ wr := fun h => hKf (W.sub _ h)
      have hDw : D ∉ wr := fun h => hDf (W.sub _ h)
      have hT3 : h2'.IsTuple T (List.toArray ws) := isTuple_agree hT fun o e => up2' T o (W.apart i T h2 hmid) e
      have key : ∃ v u, lv = [v, u] := by
        unfold compO at hr
        obtain ⟨b, hb, _⟩ := obind hr
        unfold pairT at hb
        split at hb
        · exact ⟨_, _, rfl⟩
        · cases hb
      obtain ⟨v, u, rfl⟩ := key
      obtain ⟨w, z, rfl, hw, hz⟩ := repL2 hrv
      refine wpAny_assign_Tuple ro.hd hT3 rfl rfl fun h2'' hx2 => ?_
      have upw : ∀ b o, b ∉ wr → s'.heap.get? b = some o → h2''.get? b = some o := fun b o hb e => by
        have e2 := up2' b o hb (up2 b o hb e)
        exact hx2 b o (Nat.ne_of_lt (Heap.lt_size e2)) e2
      have upf : ∀ b o, h2'.get? b = some o → h2''.get? b = some o := fun b o e => hx2 b o (Nat.ne_of_lt (Heap.lt_size e)) e
      show wpAny _ A (do holding [z] (PySem.assign (.Name x px) (compEnvC scope cl H2.objs.size env) w); holding [] (PySem.assign (.Name y py) (compEnvC scope cl H2.objs.size env) z); pure ()) _ _ _
      have hkc : (compEnvC scope cl H2.objs.size env).scope.kind = .function := hcs.kind
      refine wpAny_bind (wpAny_holding (wpAny_assign_Name (wpAny_storeName_local (by show (relabel scope env).names.lookup x = _; rw [relabelS_eq hsc]; exact hxc) (hm.at' fun o e => upw _ o hKw e) (fun h3a hn3a hs3a => ?_)
        (by rw [hkc]; rfl))))
      refine wpAny_bind (wpAny_holding (wpAny_assign_Name (wpAny_storeName_local (by show (relabel scope env).names.lookup y = _; rw [relabelS_eq hsc]; exact hyc) hn3a (fun h3 hn3 hs3 => wpAny_pure ?_)
        (by rw [hkc]; rfl))))
      replace hs3a : Heap.SameBut H2.objs.size h2'' h3a := hs3a
      replace hs3 : Heap.SameBut H2.objs.size h3a h3 := hs3
      replace hn3 : h3.Ns H2.objs.size (fun q => if q = y then some z else if q = x then some w else m q) := hn3
      have up3 : ∀ b o, b ≠ H2.objs.size → h2''.get? b = some o → h3.get? b = some o := fun b o hb e => (hs3.2 b hb).trans ((hs3a.2 b hb).trans e)
      have upM : ∀ b o, ¬ (M b ∨ b ∈ wr ∨ b = D ∨ b = H2.objs.size) → s'.heap.get? b = some o → h3.get? b = some o := fun b o hb e => up3 b o (fun h => hb (.inr (.inr (.inr h)))) (upw b o (fun h => hb (.inr (.inl h))) e)
      have c3 : CI s s2 M wr fp D H2.objs.size (St (i + 1)) acc { s' with heap := h3, toks := tk2 + 1 + 1 } := by
        refine ⟨?_, fun b o hb e => up3 b o (ne2 b o e).2 (upw b o hb (c.kept b o hb e)), W.frame _ _ _ hst2 fun b hb o e => up3 b o (fun h => hKf (h ▸ hb)) (upf b o e), ⟨_, hn3⟩, ?_⟩
        · obtain ⟨h, tk, e⟩ := c.same; exact ⟨h3, tk2 + 1 + 1, by rw [e]⟩
        · obtain ⟨ws, h4, h5⟩ := c.lst
          exact ⟨ws, isList_agree h4 fun o e => up3 _ o hDK (upw _ o hDw e), h5.mono upM fun _ _ hb _ => hb⟩
      have lift : ∀ {q : Val} {wq : Value}, Rep s2.heap (fun b => M b ∨ b ∈ wr) q wq → Rep h3 (fun b => M b ∨ b ∈ wr ∨ b = D ∨ b = H2.objs.size) q wq := fun hw => by
        refine hw.mono (fun b o hb e => c3.kept b o (fun h => hb (.inr h)) e) fun b o hb e h => ?_
        rcases h with h | h | h | h
        · exact hb (.inl h)
        · exact hb (.inr h)
        · exact (ne2 b o e).1 h
        · exact (ne2 b o e).2 h
      have hw3 := lift hw
      have hz3 := lift hz
      have SI := satI (ρi := (y, .sh u) :: (x, .sh v) :: ρc) c3 (fun h st b hb => hlv _ h st b hb) fun q sl e => by
        by_cases hy : q = y
        · subst hy
          rw [lookup_cons_self] at e; cases e
          refine .inr ⟨z, .inl ⟨?_, _, hn3, by simp⟩, hz3⟩
          show (relabel scope env).names.lookup q = _
          rw [relabelS_eq hsc]; exact hyc
        · rw [lookup_cons_ne hy] at e
          by_cases hx : q = x
          · subst hx
            rw [lookup_cons_self] at e; cases e
            refine .inr ⟨w, .inl ⟨?_, _, hn3, by simp [hy]⟩, hw3⟩
            show (relabel scope env).names.lookup q = _
            rw [relabelS_eq hsc]; exact hxc
          · rw [lookup_cons_ne hx] at e; exact .inl e
      unfold compO at hr
      obtain ⟨b, hb, hr⟩ := obind hr
      rw [← tests_one_eq]
      refine comp_body (ht v u) (ob := ft v u) hb (he v u) ro hcsc c3 SI (by omega) (fun h h' a b => W.frame _ h h' a b) hDf hDK hD2 (fun e s5 c5 => ?_) fun e => ?_
      · subst e
        simp only [Bool.false_eq_true, if_false] at hr
        exact ⟨vs.length + 1 - (i + 1), by omega, i + 1, acc, rst, hlt, rfl, c5, hr, rfl, Nat.le_succ_of_le hai⟩
      · subst e
        simp only [if_true] at hr
        obtain ⟨uu, hu, hr⟩ := obind hr
        obtain ⟨r', hr', hr⟩ := obind hr
        cases hr
        exact ⟨uu, hu, fun s5 c5 => ⟨vs.length + 1 - (i + 1), by omega, i + 1, acc ++ [uu], r', hlt, rfl, c5, hr', by simp, by simp; exact hai⟩⟩
    · have hin : i = vs.length := by omega
      subst hin
      rw [List.drop_length] at hr
      cases hr
      refine W.done _ _ _ c.st fun h2 tk2 up2 => ?_
      have hKw : H2.objs.size ∉ wr := fun h => hKf (W.sub _ h)
      have hDw : D ∉ wr := fun h => hDf (W.sub _ h)
      obtain ⟨m, hm⟩ := c.ns
      obtain ⟨ws, h4, h5⟩ := c.lst
      obtain ⟨hh, tk, e⟩ := c.same
      have dead : ∀ b o, s.heap.get? b = some o → b ∉ wr := fun b o e h => by rw [hfr b h] at e; cases e
      have kps : Keeps s { s' with heap := h2, toks := tk2 } := by
        obtain ⟨h₀, tk₀, e₀, _⟩ := id kp
        refine ⟨h2, tk2, by rw [e, e₀], fun b o eb => up2 b o (dead b o eb) (c.kept b o (dead b o eb) (kh kp b o eb))⟩
      refine fin D H2.objs.size ws _ m kps (none_back kp hD2) (none_back kp hK2) hDK (hm.at' fun o e => up2 _ o hKw e) (isList_agree h4 fun o e => up2 _ o hDw e) ?_
      rw [List.append_nil]
      exact h5.mono (fun b o hb e => up2 b o (fun h => hb (.inr (.inl h))) e) fun b o hb _ h => hb (by rcases h with h | h | h; exact .inl h; exact .inr (.inr (.inl h)); exact .inr (.inr (.inr h)))
  exact codeAny_compStart_list (loop _ rfl) (W.self 0 _ _ _ (W.frame _ _ _ hst fun b _ o e => old b o e) (loop _ rfl))


theorem Bk.assignComp2' {σ : Type} {emb : σ → Lc} {rest : List Stmt} {k : Val → Option (Out σ)} (ρc : Lc) {oi : Option (List (List Val))} {ft : Val → Val → Option Bool} {fe : Val → Val → Option Val} (hi : ItT C n sc ρ iter oi)
    (ht : ∀ v u, TstL C n (relabelS scope sc) ((y, .sh u) :: (x, .sh v) :: ρc) [tst] (ft v u)) (he : ∀ v u, Ev C n (relabelS scope sc) ((y, .sh u) :: (x, .sh v) :: ρc) elt (fe v u)) (hk : ∀ v, Bk C n sc ((z, .sh v) :: ρ) rest emb (k v))
    (hci : CompIn sc scope ρ ρc) (hsw : ∀ env : Env, env.scope = sc → swapsWith (.ListComp elt [⟨.Tuple [.Name x px, .Name y py] k1 tp, iter, [tst], 0⟩] scope pos) (some (.Name z pz)) spos.line env = pure true)
    (hcs : compScopeB sc scope ρ = true := by rfl) (hz : Bindable sc z := by exact .inl rfl) (hno : notOwn ρ z = true := by rfl)
    (hx : scope.names.lookup x = some .local := by rfl) (hxc : (relabelS scope sc).names.lookup x = some .local := by rfl) (hyc : (relabelS scope sc).names.lookup y = some .local := by rfl) (hs : ∀ env v, foldedSetIterable iter env v = pure v := by intro _ _; rfl) :
    Bk C n sc ρ (.Assign [.Name z pz] (.ListComp elt [⟨.Tuple [.Name x px, .Name y py] k1 tp, iter, [tst], 0⟩] scope pos) spos :: rest) emb (((oi.bind fun vs => compL (pairT ft) (pairE fe) vs).bind fun l => some (.list l)).bind k) := by
  intro r q A env ad M s₀ M₀ rs s Q E ro hsc S hQ
  obtain ⟨v, hv, q⟩ := obind q
  obtain ⟨l, hl, hv⟩ := obind hv
  cases hv
  obtain ⟨vs, hvs, hl⟩ := obind hl
  unfold compL at hl
  split at hl
  · rename_i hz'
    refine wpAny_execs_cons ?_
    rw [exec_Assign_Name_used _ _ _ _ (hsw env hsc)]
    refine wpAny_bind (wpAny_standAt (wpAny_bind ?_))
    show wpAny _ A (do let _ ← comprehension (.ListComp elt [⟨.Tuple [.Name x px, .Name y py] k1 tp, iter, [tst], 0⟩] scope pos) scope env _ (newList []) false (eval iter env) (some (PySem.assign (.Name z pz) env))) _ _ s
    refine wpAny_bind (wpAny_mono (comp_core2 (Q := fun _ s' => wpAny (model C.prog C.w) A (execs rest env) Q E s') hi hvs (compScope_of hcs) hci ht he hl (Nat.le_of_ble_eq_true hz') hx hxc hyc hs ro hsc S.sat fun D K ws s' m kp hD hK hDK hn hl hr => ?_) (fun _ s' hq => wpAny_pure (wpAny_pure hq)) fun _ _ e => e)
    exact comp_assign (σ := σ) (rest := rest) (emb := emb) (k := k) hsc S hz hno (fun M' ad' s' st S' => hk (.list l) r q A env ad' M' s₀ M₀ rs s' Q E ro hsc S' fun f M'' ad'' s'' st' => hQ f M'' ad'' s'' (st.trans st')) kp hD hK hDK hn hl hr
  · cases hl
end

/-! text MB3 -/
/-! lists of ints, one below the other -/
def ltI : List Int → List Int → Bool
  | [], [] => false
  | [], _ :: _ => true
  | _ :: _, [] => false
  | a :: l, b :: r => if a = b then ltI l r else decide (a < b)

open AutoSeq1 (wpAny_loadPart')

theorem ints_at : ∀ {ws : List Value} {xs : List Int} {i : Nat} {x : Int}, IntsAre ws xs → xs[i]? = some x → ∃ t, ws[i]? = some (.int x t)
  | _, _, _, _, .nil, e => by simp at e
  | _, _, 0, _, .cons n t h, e => by simp at e; subst e; exact ⟨t, rfl⟩
  | _, _, i + 1, _, .cons n t h, e => by
    obtain ⟨u, hu⟩ := ints_at h (by simpa using e)
    exact ⟨u, by simpa using hu⟩

theorem lt_loop (l b : Addr) (ws us : List Value) (xs ys : List Int) (hx : IntsAre ws xs) (hy : IntsAre us ys) (n n2 : Nat) (k : Nat) :
    ∀ i : Nat, ws.length - i = k → i ≤ ws.length → i ≤ us.length → Meets (Builtin.«list.__eq__.loop» ⟨[.ref l, .ref b, rawInt i, rawInt 0], []⟩)
      (fun A R s => s.heap.get? l = some { cls := .type "list", dict := none, data := .seq (List.toArray ws) n, slots := #[] } ∧ s.heap.get? b = some { cls := .type "list", dict := none, data := .seq (List.toArray us) n2, slots := #[] } ∧
        R (.ok (.ret (.bool (ltI (xs.drop i) (ys.drop i))))) s) := by
  have hlx := IntsAre.length hx
  have hly := IntsAre.length hy
  have nilr : ∀ l : List Int, ltI l [] = false := fun l => by cases l <;> rfl
  induction k with
  | zero =>
    intro i hk h1 h2 prog w A R s h
    obtain ⟨hp, g, d, tk, os⟩ := s; obtain ⟨hl, hb, h⟩ := h
    wp_walk using wpAny_loadPart' hl, wpAny_loadPart' hb
    have hi1 : (List.toArray ws)[((i : Nat) : Int).toNat]? = none := by simp; omega
    have hd : xs.drop i = [] := by simp; omega
    rw [hd] at h
    rw [hi1]
    wp_walk using wpAny_loadPart' hl, wpAny_loadPart' hb
    show R (.ok (.ret (.bool (decide ((List.toArray ws).size < (List.toArray us).size))))) _
    have e : decide ((List.toArray ws).size < (List.toArray us).size) = ltI [] (ys.drop i) := by
      rw [List.size_toArray, List.size_toArray]
      cases hq : ys.drop i with
      | nil =>
        have := List.drop_eq_nil_iff.mp hq
        show _ = false
        exact decide_eq_false (by omega)
      | cons y r =>
        have : i < ys.length := by
          have h3 := congrArg List.length hq
          rw [List.length_drop] at h3; simp at h3; omega
        show _ = true
        exact decide_eq_true (by omega)
    rw [e]; exact h
  | succ k ih =>
    intro i hk h1 h2 prog w A R s h
    obtain ⟨hp, g, d, tk, os⟩ := s; obtain ⟨hl, hb, h⟩ := h
    wp_walk using wpAny_loadPart' hl, wpAny_loadPart' hb
    have hlt : i < xs.length := by omega
    have hdx : xs.drop i = xs[i] :: xs.drop (i + 1) := List.drop_eq_getElem_cons hlt
    obtain ⟨t, hwi⟩ := ints_at hx (List.getElem?_eq_getElem hlt)
    have hi1 : (List.toArray ws)[((i : Nat) : Int).toNat]? = some (.int xs[i] t) := by simpa using hwi
    by_cases hlt2 : i < ys.length
    · have hdy : ys.drop i = ys[i] :: ys.drop (i + 1) := List.drop_eq_getElem_cons hlt2
      obtain ⟨u, hui⟩ := ints_at hy (List.getElem?_eq_getElem hlt2)
      have hi2 : (List.toArray us)[((i : Nat) : Int).toNat]? = some (.int ys[i] u) := by simpa using hui
      have hc : ((i : Int) + 1) = ((i + 1 : Nat) : Int) := by push_cast; rfl
      rw [hi1, hi2]
      rw [hdx, hdy] at h
      refine wpAny_bind (SeqAt.EqAt.int_int xs[i] t ys[i] u prog w _ _ ?_)
      by_cases he : xs[i] = ys[i]
      · have hb' : (xs[i] == ys[i]) = true := by simpa using he
        rw [hb']
        wp_walk
        rw [hc]
        refine ⟨plainId_quiet MeetsSeq3.plain_eq_loop _, codeAny_builtin MeetsSeq3.entry_eq_loop (by
          rw [Around.under_plainId MeetsSeq3.plain_eq_loop _]
          refine ih (i + 1) (by omega) (by omega) (by omega) prog w A R _ ⟨hl, hb, ?_⟩
          have e : ltI (xs[i] :: xs.drop (i + 1)) (ys[i] :: ys.drop (i + 1)) = ltI (xs.drop (i + 1)) (ys.drop (i + 1)) := by
            show (if xs[i] = ys[i] then _ else _) = _
            rw [if_pos he]
          rw [e] at h; exact h)⟩
      · have hb' : (xs[i] == ys[i]) = false := by simpa using he
        rw [hb']
        wp_walk using wpAny_loadPart' hl, wpAny_loadPart' hb
        rw [hi1, hi2]
        have e : ltI (xs[i] :: xs.drop (i + 1)) (ys[i] :: ys.drop (i + 1)) = decide (xs[i] < ys[i]) := by
          show (if xs[i] = ys[i] then _ else _) = _
          rw [if_neg he]
        rw [e] at h
        refine wpAny_bind (show wpAny _ _ (richCompare .Lt (.int xs[i] t) (.int ys[i] u)) _ _ _ from PyProof.Rows.lt_int ?_)
        wp_walk
        exact h
    · have hi2 : (List.toArray us)[((i : Nat) : Int).toNat]? = none := by simp; omega
      have hdy : ys.drop i = [] := by simp; omega
      rw [hi1, hi2]
      rw [hdy, nilr] at h
      wp_walk using wpAny_loadPart' hl, wpAny_loadPart' hb
      show R (.ok (.ret (.bool (decide ((List.toArray ws).size < (List.toArray us).size))))) _
      rw [List.size_toArray, List.size_toArray, decide_eq_false (by omega)]
      exact h

theorem list_lt (l b : Addr) (ws us : List Value) (xs ys : List Int) (hx : IntsAre ws xs) (hy : IntsAre us ys) (n n2 : Nat) : Meets (Builtin.«list.__lt__» ⟨[.ref l, .ref b], []⟩)
      (fun A R s => s.heap.get? l = some { cls := .type "list", dict := none, data := .seq (List.toArray ws) n, slots := #[] } ∧ s.heap.get? b = some { cls := .type "list", dict := none, data := .seq (List.toArray us) n2, slots := #[] } ∧
        R (.ok (.ret (.bool (ltI xs ys)))) s) := by
  intro prog w A R s h
  obtain ⟨hp, g, d, tk, os⟩ := s; obtain ⟨hl, hb, h⟩ := h
  have f3 := AutoSeq1.sub_list_list
  wp_walk using wpAny_loadPart' hl, wpAny_loadPart' hb
  exact ⟨plainId_quiet MeetsSeq3.plain_eq_loop _, codeAny_builtin MeetsSeq3.entry_eq_loop (by
    rw [Around.under_plainId MeetsSeq3.plain_eq_loop _]
    exact lt_loop l b ws us xs ys hx hy n n2 _ 0 rfl (Nat.zero_le _) (Nat.zero_le _) prog w A R _ ⟨hl, hb, by simpa using h⟩)⟩

theorem key_lt {prog : Program} {w : World} {A : Around} {E : Value → Shared → Prop} {s : Shared} {l b : Addr} {ws us : List Value} {xs ys : List Int} {Q : Bool → Shared → Prop} (hu : A.units < cLine) (hl : s.heap.PlainList l (List.toArray ws)) (hb : s.heap.PlainList b (List.toArray us))
    (hx : IntsAre ws xs) (hy : IntsAre us ys) (h : Q (ltI xs ys) s) : wpAny (model prog w) A (keyLt' oneType' (.ref l) (.ref b)) Q E s := by
  obtain ⟨n, ho⟩ := hl
  obtain ⟨n2, ho2⟩ := hb
  rw [keyLt'_oneType, oneLt'_eq]
  simp only [if_true]
  refine wpAny_bind (wpAny_cRoomFor hu ?_)
  refine wpAny_bind (wpAny_callSpecialIfBound?_slot (name := "__lt__") (id := "list.__lt__") ⟨_, ho, rfl⟩ PySem.F.slot_list_lt ?_)
  refine call_meets PySem.F.slot_list_lt ⟨_, ho, rfl⟩ PySem.F.entry_list_lt (PySem.F.args_list_lt_2 _ _) (list_lt l b ws us xs ys hx hy n n2) ⟨ho, ho2, ?_⟩
  exact wpAny_truthy_bool h

/-! a sort, by an answer for each question -/
def kRun {α : Type} (lt : Nat → Nat → Bool) : PySem.W.KasT α → α
  | .ret a => a
  | .ask i j k => kRun lt (k (lt i j))
theorem kRun_wp {α : Type} {cmp : Nat → Nat → (Bool → Shared → Prop) → Shared → Prop} {lt : Nat → Nat → Bool} {s : Shared} (hc : ∀ i j (C : Bool → Shared → Prop), C (lt i j) s → cmp i j C s) {Q : α → Shared → Prop} : ∀ (t : PySem.W.KasT α), Q (kRun lt t) s → t.kasWp cmp Q s
  | .ret _, h => h
  | .ask i j k, h => hc i j _ (kRun_wp hc (k (lt i j)) h)

/-! text MB4 -/
/-! sorted, over lists of ints: it keeps all but that the frame's own dict stands only as a dict -/
structure Moved (L : Addr) (h h' : Heap) : Prop where
  up : ∀ b o, b ≠ L → h.get? b = some o → h'.get? b = some o
  ns : ∀ m, h.Ns L m → h'.Ns L m

theorem ns_unique {h : Heap} {a : Addr} {m m' : Str → Option Value} (x : h.Ns a m) (y : h.Ns a m') : m = m' := by
  obtain ⟨o, es, ep, ho1, hd1, _, hm1⟩ := x
  obtain ⟨o', es', ep', ho2, hd2, _, hm2⟩ := y
  rw [ho1] at ho2; cases ho2
  rw [hd1] at hd2; cases hd2
  funext z
  rw [← hm1, ← hm2]

theorem SatF.moved {C : Cx} {M : Addr → Prop} {ad : Str → Addr} {env : Env} {s₀ : Shared} {M₀ rs : Addr → Prop} {ρ : Lc} {s : Shared} (S : SatF C M ad env s₀ M₀ rs ρ s) {h' : Heap} {tk : Nat} (hm : Moved env.locals s.heap h') :
    Step M rs s M { s with heap := h', toks := tk } ∧ SatF C M ad env s₀ M₀ rs ρ { s with heap := h', toks := tk } := by
  have keep' : ∀ b o, s₀.heap.get? b = some o → h'.get? b = some o := fun b o e => hm.up b o (fun h => by rw [h, S.loc.2.1] at e; cases e) (S.keep b o e)
  have holds : ∀ x w, Holds s.heap env x w → Holds h' env x w := by
    rintro x w (⟨k1, m, k2, k3⟩ | ⟨k1, k2, c, k3, k4⟩)
    · exact .inl ⟨k1, m, hm.ns m k2, k3⟩
    · obtain ⟨m, q⟩ := S.loc.2.2
      have hne := ns_ne_cell q k4
      obtain ⟨o, ho, hd⟩ := k4
      exact .inr ⟨k1, k2, c, k3, o, hm.up _ o hne.symm ho, hd⟩
  have ag : Agree M s.heap h' := fun b o hb e => hm.up b o (fun h => hb (h ▸ S.loc.1)) e
  have sub : ∀ b o, ¬ M b → s.heap.get? b = some o → ¬ M b := fun _ _ h _ => h
  refine ⟨⟨fun _ m => .inl m, fun b o hb e => hm.up b o (fun h => ?_) e⟩, ⟨S.top0.keeps keep', S.sat.gl, S.sat.bi, S.sat.kd, fun a ha => ?_, fun x sl e => ?_⟩, S.top0, ?_, keep', S.base, ⟨S.loc.1, S.loc.2.1, ?_⟩, fun x c e => ⟨(S.cel x c e).1, (S.cel x c e).2.1, ?_⟩, S.cels, S.apart, S.own, S.ownA, S.res⟩
  · subst h
    exact hb.elim (fun k => k S.loc.1) fun k => (S.res _ k).2.2.1 rfl
  · by_cases h : a = env.locals
    · subst h
      obtain ⟨m, q⟩ := S.loc.2.2
      obtain ⟨o, _, _, e, _⟩ := hm.ns m q
      exact ⟨o, e⟩
    · obtain ⟨o, e⟩ := S.sat.live a ha; exact ⟨o, hm.up a o h e⟩
  · obtain ⟨w, h1, h2⟩ := S.sat.vars x sl e
    refine ⟨w, holds x w h1, ?_⟩
    cases sl with
    | sh v => exact Rep.mono (v := v) ag sub h2
    | own l =>
      obtain ⟨rfl, hM, ws, hl, hr⟩ := h2
      have hne : ad x ≠ env.locals := by obtain ⟨m, q⟩ := S.loc.2.2; exact (ns_ne_list q hl).symm
      exact ⟨rfl, hM, ws, isList_agree hl fun o e => hm.up _ o hne e, hr.mono ag sub⟩
    | raw w' => exact h2
  · obtain ⟨h, tk', e⟩ := S.same
    exact ⟨h', tk, by rw [e]⟩
  · obtain ⟨m, q⟩ := S.loc.2.2; exact ⟨m, hm.ns m q⟩
  · obtain ⟨_, _, v, o, ho, hd⟩ := S.cel x c e
    obtain ⟨m, q⟩ := S.loc.2.2
    exact ⟨v, o, hm.up _ o (ns_ne_cell q ⟨o, ho, hd⟩).symm ho, hd⟩

def intsO : List Val → Option (List Int)
  | [] => some []
  | .int i :: l => (intsO l).bind fun r => some (i :: r)
  | _ :: _ => none
theorem ints_are {h : Heap} {M : Addr → Prop} : ∀ {l : List Val} {xs : List Int} {ws : List Value}, intsO l = some xs → RepL h M l ws → IntsAre ws xs
  | [], _, _, e, x => by cases e; simp only [RepL] at x; subst x; exact .nil
  | .int i :: l, _, _, e, x => by
    unfold intsO at e
    obtain ⟨r, hr, e⟩ := obind e
    cases e
    simp only [RepL, Rep] at x
    obtain ⟨w, q, rfl, ⟨t, rfl⟩, x⟩ := x
    exact .cons i t (ints_are hr x)
  | .bool _ :: _, _, _, e, _ => by cases e
  | .none :: _, _, _, e, _ => by cases e
  | .list _ :: _, _, _, e, _ => by cases e
  | .tup _ :: _, _, _, e, _ => by cases e

def ltAt (l : List Val) (i j : Nat) : Option Bool := match nthV l i, nthV l j with
  | some (.list a), some (.list b) => (intsO a).bind fun x => (intsO b).bind fun y => some (ltI x y)
  | _, _ => none
def kRunO {α : Type} (lt : Nat → Nat → Option Bool) : PySem.W.KasT α → Option α
  | .ret a => some a
  | .ask i j k => (lt i j).bind fun b => kRunO lt (k b)
theorem kRunO_wp {α : Type} {cmp : Nat → Nat → (Bool → Shared → Prop) → Shared → Prop} {lt : Nat → Nat → Option Bool} {s : Shared} (hc : ∀ i j b (C : Bool → Shared → Prop), lt i j = some b → C b s → cmp i j C s) {Q : α → Shared → Prop} :
    ∀ (t : PySem.W.KasT α) (a : α), kRunO lt t = some a → Q a s → t.kasWp cmp Q s
  | .ret _, _, e, h => by cases e; exact h
  | .ask i j k, a, e, h => by
    unfold kRunO at e
    obtain ⟨b, hb, e⟩ := obind e
    exact hc i j b _ hb (kRunO_wp hc (k b) a e h)
def allLists : List Val → Bool
  | [] => true
  | .list _ :: l => allLists l
  | _ :: _ => false
def getDV (l : List Val) (i : Nat) : Val := match nthV l i with
  | some v => v
  | none => .none
def sortL (l : List Val) : Option (List Val) :=
  if Nat.ble 2 l.length && (Nat.blt l.length 64 && allLists l) then (kRunO (ltAt l) (PySem.W.kas_sort l.length)).bind fun p => some (p.toList.map (getDV l)) else none

theorem allLists_mem : ∀ {l : List Val} {v : Val}, allLists l = true → v ∈ l → ∃ a, v = .list a
  | [], _, _, h => by cases h
  | .list a :: l, v, e, h => by
    rcases List.mem_cons.mp h with rfl | h
    · exact ⟨a, rfl⟩
    · exact allLists_mem (l := l) (by simpa [allLists] using e) h
  | .int _ :: _, _, e, _ => by cases e
  | .bool _ :: _, _, e, _ => by cases e
  | .none :: _, _, e, _ => by cases e
  | .tup _ :: _, _, e, _ => by cases e

theorem RepL.getD' {h : Heap} {M : Addr → Prop} {l : List Val} {ws : List Value} (x : RepL h M l ws) (i : Nat) : Rep h M (getDV l i) (ws.getD i Value.none) := by
  unfold getDV
  rw [nthV_eq]
  cases e : l[i]? with
  | some v =>
    obtain ⟨w, hw, r⟩ := x.get e
    simp only [List.getD_eq_getElem?_getD, hw, Option.getD_some]
    exact r
  | none =>
    have hlen := x.length
    have : ws[i]? = none := by
      rw [List.getElem?_eq_none_iff] at e ⊢; omega
    simp only [List.getD_eq_getElem?_getD, this, Option.getD_none]
    exact rep_none
theorem RepL.picks {h : Heap} {M : Addr → Prop} {l : List Val} {ws : List Value} (x : RepL h M l ws) : ∀ p : List Nat, RepL h M (p.map (getDV l)) (p.map fun i => ws.getD i Value.none)
  | [] => .nil
  | i :: p => .cons (x.getD' i) (RepL.picks x p)

theorem call_sorted_sat {C : Cx} {M : Addr → Prop} {ad : Str → Addr} {env : Env} {s₀ : Shared} {M₀ rs : Addr → Prop} {ρ : Lc} {s : Shared} (S : SatF C M ad env s₀ M₀ rs ρ s) {A : Around} {n : Nat} (ro : Room A n) {a : Addr} {ws : List Value} {l l' : List Val}
    (hl : s.heap.PlainList a (List.toArray ws)) (hr : RepL s.heap M l ws) (he : sortL l = some l') {Q E : Value → Shared → Prop}
    (hQ : ∀ D us h', Moved env.locals s.heap h' → s.heap.get? D = none → h'.PlainList D (List.toArray us) → RepL h' M l' us → Q (.ref D) { s with heap := h' }) :
    wpAny (model C.prog C.w) A (call (.builtin "sorted") [.ref a]) Q E s := by
  unfold sortL at he
  split at he
  · rename_i hz
    simp only [Bool.and_eq_true] at hz
    obtain ⟨p, hp, he⟩ := obind he
    cases he
    have hlen := hr.length
    have h2 := Nat.le_of_ble_eq_true hz.1
    have h64 := blt_lt hz.2.1
    obtain ⟨m, hn⟩ := S.loc.2.2
    generalize hh0 : ({ objs := #[] } : Heap) = h₀
    have hnone : ∀ b, h₀.get? b = none := fun b => get_none_of_size (by rw [← hh0]; exact Nat.zero_le _)
    have F : Fr h₀ env.locals s.heap m := ⟨hn, fun b o e => (by rw [hnone] at e; cases e), (by rw [← hh0]; exact Nat.zero_le _)⟩
    generalize hnews : ((List.range s.heap.objs.size).filterMap fun b => if b = env.locals then none else (s.heap.get? b).map fun o => (b, o)) = news
    have hin : ∀ b o, b ≠ env.locals → s.heap.get? b = some o → (b, o) ∈ news := fun b o hb e => by
      rw [← hnews, List.mem_filterMap]
      exact ⟨b, List.mem_range.mpr (Heap.lt_size e), by rw [if_neg hb, e]; rfl⟩
    have N : News h₀ env.locals s.heap news := fun p hp => by
      rw [← hnews, List.mem_filterMap] at hp
      obtain ⟨b, _, e⟩ := hp
      by_cases hb : b = env.locals
      · rw [if_pos hb] at e; cases e
      · rw [if_neg hb] at e
        cases h1 : s.heap.get? b with
        | none => rw [h1] at e; cases e
        | some o => rw [h1] at e; cases e; exact ⟨h1, hb, hnone b⟩
    have moved : ∀ h', Fr h₀ env.locals h' m → News h₀ env.locals h' news → Moved env.locals s.heap h' := fun h' F' N' => by
      refine ⟨fun b o hb e => ?_, fun m' hm' => ns_unique hn hm' ▸ F'.ns⟩
      exact (N' _ (hin b o hb e)).1
    have ag : ∀ h', Moved env.locals s.heap h' → Agree M s.heap h' := fun h' mv b o hb e => mv.up b o (fun h => hb (h ▸ S.loc.1)) e
    have rep : ∀ h', Moved env.locals s.heap h' → RepL h' M l ws := fun h' mv => hr.mono (ag h' mv) fun _ _ h _ => h
    have tail : ∀ h' q, News h₀ env.locals h' (q :: news) → News h₀ env.locals h' news := fun h' q N' p hp => N' p (.tail _ hp)
    have kinds : ∀ h', Moved env.locals s.heap h' → ∀ v ∈ ws, ∃ b us, v = .ref b ∧ ∃ c, c ∈ l ∧ c = Val.list us ∧ ∃ vs, h'.PlainList b (List.toArray vs) ∧ RepL h' M us vs := fun h' mv v hv => by
      obtain ⟨i, hi⟩ := List.getElem?_of_mem hv
      obtain ⟨c, hc, rc⟩ := (rep h' mv).getr hi
      obtain ⟨us, rfl⟩ := allLists_mem hz.2.2 (List.mem_of_getElem? hc)
      simp only [Rep] at rc
      obtain ⟨b, vs, rfl, _, h1, h2⟩ := rc
      exact ⟨b, us, rfl, _, List.mem_of_getElem? hc, rfl, vs, h1, h2⟩
    refine PySem.W.kas_sorted (T := .type "list") F N hl.isList (by omega) (by omega) (fun h' F' N' v hv => ?_) (by decide) fun D e1 h' F' N' hlow => ?_
    · obtain ⟨b, us, rfl, _, _, _, vs, ⟨k, ho⟩, _⟩ := kinds h' (moved h' F' N') v hv
      exact (Looks.ld ho).andThen .now
    · have mv := moved h' F' (tail h' _ N')
      have hD0 : s.heap.get? D = none := by
        cases e : s.heap.get? D with
        | none => rfl
        | some o =>
          exfalso
          by_cases hDL : D = env.locals
          · exact (N' _ List.mem_cons_self).2.1 hDL
          · exact Nat.lt_irrefl _ (hlow _ (hin D o hDL e))
      rw [hlen]
      refine kRunO_wp (lt := ltAt l) (fun i j b Cc hb hC => ?_) _ p hp ?_
      · unfold ltAt at hb
        rw [nthV_eq, nthV_eq] at hb
        split at hb
        · rename_i x y hx hy
          obtain ⟨xs, hxs, hb⟩ := obind hb
          obtain ⟨ys, hys, hb⟩ := obind hb
          cases hb
          obtain ⟨w, hw, rw'⟩ := (rep h' mv).get hx
          obtain ⟨z, hz', rz⟩ := (rep h' mv).get hy
          simp only [Rep] at rw' rz
          obtain ⟨b1, us1, rfl, _, q1, q2⟩ := rw'
          obtain ⟨b2, us2, rfl, _, q3, q4⟩ := rz
          show wpAny _ _ (keyLt' oneType' (ws.getD i Value.none) (ws.getD j Value.none)) _ _ _
          rw [List.getD_eq_getElem?_getD, List.getD_eq_getElem?_getD, hw, hz']
          refine key_lt (by have := ro.un; show A.units + 1 + 1 < _; omega) q1 q3 (ints_are hxs q2) (ints_are hys q4) hC
        · cases hb
      · refine PySem.W.KasFin.intro F' N' (.head fun q hq => Nat.ne_of_lt (hlow q hq)) fun h'' c F'' N'' => ?_
        have mv' := moved h'' F'' (tail h'' _ N'')
        have hD := (N'' _ List.mem_cons_self).1
        exact hQ D _ h'' mv' hD0 ⟨c, hD⟩ ((rep h'' mv').picks p.toList)
  · cases he


/-! tests that change no more than that -/
def TstS (C : Cx) (n : Nat) (sc : Scope) (ρ : Lc) (e : Expr) (o : Option Bool) : Prop :=
  ∀ b, o = some b → ∀ (A : Around) (env : Env) (ad : Str → Addr) (M : Addr → Prop) (s₀ : Shared) (M₀ rs : Addr → Prop) (s : Shared) (Q : Bool → Shared → Prop) (E : Value → Shared → Prop),
    Room A n → env.scope = sc → SatF C M ad env s₀ M₀ rs ρ s →
    (∀ s', Step M rs s M s' → SatF C M ad env s₀ M₀ rs ρ s' → Q b s') → wpAny (model C.prog C.w) A (isTrue e env (eval e env)) Q E s
theorem TstS.of {C : Cx} {n : Nat} {sc : Scope} {ρ : Lc} {e : Expr} {o : Option Bool} (h : Tst C n sc ρ e o) : TstS C n sc ρ e o := by
  intro b q A env ad M s₀ M₀ rs s Q E ro hsc S hQ
  exact h b q A env ad M s Q E ro hsc S.sat fun s' k => hQ s' (Step.keeps k) (S.keeps k)
theorem TstS.or {C : Cx} {n : Nat} {sc : Scope} {ρ : Lc} {a b : Expr} {pos : Pos} {oa ob : Option Bool} (ha : TstS C n sc ρ a oa) (hb : TstS C n sc ρ b ob) :
    TstS C n sc ρ (.BoolOp .Or [a, b] pos) (oa.bind fun x => if x then some true else ob) := by
  intro c e A env ad M s₀ M₀ rs s Q E ro hs S hQ
  obtain ⟨x, hx, e⟩ := obind e
  refine PyProof.Rows.isTrue_or (ha x hx A env ad M s₀ M₀ rs s _ E ro hs S fun s1 st1 S1 => ?_)
  cases x with
  | true => cases e; exact hQ s1 st1 S1
  | false =>
    refine PyProof.Rows.isTrue_or (hb c e A env ad M s₀ M₀ rs s1 _ E ro hs S1 fun s2 st2 S2 => ?_)
    cases c with
    | true => exact hQ s2 (st1.trans st2) S2
    | false => exact PyProof.Rows.isTrue_or_nil (hQ s2 (st1.trans st2) S2)

def sortedO : Val → Option Val
  | .list l => (sortL l).bind fun r => some (.list r)
  | _ => none
theorem eval_sorted {C : Cx} {n : Nat} {sc : Scope} {ρ : Lc} {x : Str} {v r : Val} {p px pos : Pos} (h : ρ.lookup x = some (.sh v)) (hr : sortedO v = some r) (hx : sc.names.lookup ("sorted" : Str) = some .globalImplicit) (hd : (x == ("__debug__" : Str)) = false)
    (hp : PlainArgs (.Name x px) []) {A : Around} {env : Env} {ad : Str → Addr} {M : Addr → Prop} {s₀ : Shared} {M₀ rs : Addr → Prop} {s : Shared} {Q E : Value → Shared → Prop} (ro : Room A n) (hs : env.scope = sc) (S : SatF C M ad env s₀ M₀ rs ρ s)
    (hQ : ∀ w s', Step M rs s M s' → SatF C M ad env s₀ M₀ rs ρ s' → Rep s'.heap M r w → Q w s') : wpAny (model C.prog C.w) A (eval (.Call (.Name "sorted" p) [.Name x px] [] pos) env) Q E s := by
  refine wpAny_Call_NameR (load_builtin S.sat (by show env.scope.names.lookup _ = _; rw [hs]; exact hx) (fv := .builtin "sorted") (by simp [builtinNames]) (by decide) ?_)
  obtain ⟨w, hw, hq⟩ := S.sat.vars x _ h
  refine PyProof.Rows.callWith_builtin1 (args_cons (wpAny_Name (wpAny_holds S.sat.kd hw ?_) hd) (hp.1 env)) (hp.1 env) (hp.2 env pos)
  refine args_nil ?_
  unfold sortedO at hr
  split at hr
  · obtain ⟨l', hl', hr⟩ := obind hr
    cases hr
    simp only [SlotOK, Rep] at hq
    obtain ⟨a, ws, rfl, hM, hl, hrw⟩ := hq
    refine call_sorted_sat S ro hl hrw hl' fun D us h' mv hD hlD hrD => ?_
    obtain ⟨st, S'⟩ := S.moved (tk := s.toks) mv
    refine hQ _ _ st S' ?_
    simp only [Rep]
    refine ⟨D, us, rfl, fun hm => ?_, hlD, hrD⟩
    obtain ⟨o, e⟩ := S.sat.live D hm
    rw [hD] at e; cases e
  · cases hr

theorem TstS.sortedNe {C : Cx} {n : Nat} {sc : Scope} {ρ : Lc} {x y : Str} {u v : Val} {p1 p2 p3 p4 p5 p6 pos : Pos} (hx : ρ.lookup x = some (.sh u)) (hy : ρ.lookup y = some (.sh v))
    (hg : sc.names.lookup ("sorted" : Str) = some .globalImplicit := by rfl) (hdx : (x == ("__debug__" : Str)) = false := by decide) (hdy : (y == ("__debug__" : Str)) = false := by decide)
    (hpx : PlainArgs (.Name x p2) [] := by exact ⟨fun _ => rfl, fun _ _ => rfl⟩) (hpy : PlainArgs (.Name y p5) [] := by exact ⟨fun _ => rfl, fun _ _ => rfl⟩) :
    TstS C n sc ρ (.Compare (.Call (.Name "sorted" p1) [.Name x p2] [] p3) [.NotEq] [.Call (.Name "sorted" p4) [.Name y p5] [] p6] pos) ((sortedO u).bind fun a => (sortedO v).bind fun b => neO a b) := by
  intro c e A env ad M s₀ M₀ rs s Q E ro hs S hQ
  obtain ⟨a, ha, e⟩ := obind e
  obtain ⟨b, hb, e⟩ := obind e
  refine wpAny_isTrue_Compare1 (eval_sorted hx ha hg hdx hpx ro hs S fun wx s1 st1 S1 r1 => ?_) rfl
  refine eval_sorted hy hb hg hdy hpy ro hs S1 fun wy s2 st2 S2 r2 => ?_
  exact cmp_ne a b c e _ _ A n M s2 wx wy _ E ro (st2.rep r1) r2 (wpAny_truthy_bool (hQ s2 (st1.trans st2) S2))

theorem Bk.ifteS {σ τ : Type} {C : Cx} {n : Nat} {sc : Scope} {ρ : Lc} {emb : σ → Lc} (embt : τ → Lc) {c : Expr} {b1 b2 rest : List Stmt} {pos : Pos} {oc : Option Bool} {o1 o2 : Option (Out τ)} {k : τ → Option (Out σ)}
    (hc : TstS C n sc ρ c oc) (h1 : Bk C n sc ρ b1 embt o1) (h2 : Bk C n sc ρ b2 embt o2) (hk : ∀ x, Bk C n sc (embt x) rest emb (k x)) :
    Bk C n sc ρ (.If c b1 b2 pos :: rest) emb (seqO (oc.bind fun b => if b then o1 else o2) k) := by
  refine Bk.seq (embt := embt) (fun r q A env ad M s₀ M₀ rs s Q E ro hs S hQ => ?_) hk
  obtain ⟨b, hb, q⟩ := obind q
  refine wpAny_If (hc b hb A env ad M s₀ M₀ rs s _ E ro hs S fun s1 st1 S1 => ?_)
  cases b with
  | true => exact h1 r q A env ad M s₀ M₀ rs s1 Q E ro hs S1 fun f M' ad' s' st => hQ f M' ad' s' (st1.trans st)
  | false => exact h2 r q A env ad M s₀ M₀ rs s1 Q E ro hs S1 fun f M' ad' s' st => hQ f M' ad' s' (st1.trans st)

/-! text MB5 -/
/-! zip over three lists of one length: the three sources by their number -/
def tri (c : Nat → Value) : Array Value := #[c 0, c 1, c 2]
def put (c : Nat → Value) (j : Nat) (x : Value) : Nat → Value := fun i => if i = j then x else c i
theorem tri_put {c : Nat → Value} {j : Nat} {x : Value} (hj : j < 3) : (tri c).setIfInBounds j x = tri (put c j x) := by
  obtain rfl | rfl | rfl : j = 0 ∨ j = 1 ∨ j = 2 := by omega
  all_goals simp [tri, put]
abbrev IsTrip (h : Heap) (T : Addr) (c : Nat → Value) : Prop := h.get? T = some { cls := .type "tuple", data := .seq (tri c) }
structure Apart3 (z TI TO : Addr) (it ls : Nat → Addr) : Prop where
  tz : TI ≠ z
  oz : TO ≠ z
  ot : TO ≠ TI
  iz : ∀ j, j < 3 → it j ≠ z
  io : ∀ j, j < 3 → it j ≠ TO
  ti : ∀ j, j < 3 → TI ≠ it j
  ii : ∀ i j, i < 3 → j < 3 → i ≠ j → it i ≠ it j
  lz : ∀ j, j < 3 → ls j ≠ z
  lo : ∀ j, j < 3 → ls j ≠ TO
  li : ∀ i j, i < 3 → j < 3 → ls i ≠ it j
/-- the sources: the iterator `it i` stands at place `p i` of the list `ls i` -/
def Feed (h : Heap) (it ls : Nat → Addr) (xs : Nat → Array Value) (p : Nat → Nat) : Prop := ∀ i, i < 3 → h.IsListIter (it i) (ls i) (p i) ∧ h.IsList (ls i) (xs i)
theorem Feed.but {h h' : Heap} {it ls : Nat → Addr} {xs : Nat → Array Value} {p : Nat → Nat} {a : Addr} (f : Feed h it ls xs p) (e : Heap.ExtBut a h h') (h1 : ∀ j, j < 3 → it j ≠ a) (h2 : ∀ j, j < 3 → ls j ≠ a) : Feed h' it ls xs p :=
  fun i hi => ⟨(f i hi).1.extBut e (h1 i hi), (f i hi).2.extBut e (h2 i hi)⟩
theorem Feed.next {h h' : Heap} {z TI TO : Addr} {it ls : Nat → Addr} {xs : Nat → Array Value} {k j : Nat} (D : Apart3 z TI TO it ls) (hj : j < 3) (f : Feed h it ls xs fun i => if i < j then k + 1 else k) (e : Heap.ExtBut (it j) h h') (n : h'.IsListIter (it j) (ls j) (k + 1)) :
    Feed h' it ls xs fun i => if i < j + 1 then k + 1 else k := fun i hi => by
  refine ⟨?_, (f i hi).2.extBut e (D.li i j hi hj)⟩
  by_cases hij : i = j
  · subst hij
    simpa using n
  · have := (f i hi).1.extBut e (D.ii i j hi hj hij)
    by_cases hl : i < j
    · simpa [hl, Nat.lt_succ_of_lt hl] using this
    · have h2 : ¬ i < j + 1 := by omega
      simpa only [if_neg hl, if_neg h2] using this

theorem typeCall_zip_3 (a b c : Value) : checkTypeCall "zip" ⟨[a, b, c], []⟩ = pure () := by kernel_rfl
theorem newCall_zip_3 (a b c : Value) : checkBuiltinCall "zip.__new__" ⟨[.type "zip", a, b, c], []⟩ = pure () := by kernel_rfl

section
variable {prog : Program} {w : World} {A : Around} {E : Value → Shared → Prop} {s : Shared} {z TI TO : Addr} {it ls : Nat → Addr} {xs : Nat → Array Value} {k : Nat}

theorem put_in {T : Addr} {c : Nat → Value} {x : Value} {j : Nat} {Q : Unit → Shared → Prop} (hj : j < 3) (hT : IsTrip s.heap T c)
    (h : ∀ h', IsTrip h' T (put c j x) → Heap.SameBut T s.heap h' → Q () { s with heap := h' }) : wpAny (model prog w) A (updateSeq T (·.setIfInBounds j x)) Q E s := by
  refine wpAny_updateSeq hT rfl (h _ ?_ (Heap.SameBut.update ..)) (by simp [tri, sizeLine_eq]) (by simp [tri, sizeLine_eq])
  show (s.heap.update T _).get? T = _
  rw [Heap.get?_update_self _ hT rfl, ← tri_put hj]
  simp [Obj.mapSeq]

/-- the loop of a draw, up to source `j` -/
structure Drawn3 (s s' : Shared) (z TI TO : Addr) (it ls : Nat → Addr) (xs : Nat → Array Value) (k j : Nat) (c : Nat → Value) : Prop where
  same : ∃ h', s' = { s with heap := h' }
  sz : s'.heap.objs.size = s.heap.objs.size
  zip : IsZip s'.heap z TI TO .ellipsis
  out : IsTrip s'.heap TO c
  feed : Feed s'.heap it ls xs fun i => if i < j then k + 1 else k
  got : ∀ i, i < j → (xs i)[k]? = some (c i)
  kept : ∀ a o, a ≠ z → a ≠ TO → (∀ i, i < 3 → a ≠ it i) → s.heap.get? a = some o → s'.heap.get? a = some o

theorem Drawn3.step {s s' : Shared} {j : Nat} {c : Nat → Value} {h2 h3 : Heap} {x : Value} (D : Apart3 z TI TO it ls) (hj : j < 3) (W : Drawn3 s s' z TI TO it ls xs k j c) (b2 : Heap.SameBut (it j) s'.heap h2) (n2 : h2.IsListIter (it j) (ls j) (k + 1))
    (b3 : Heap.SameBut TO h2 h3) (out : IsTrip h3 TO (put c j x)) (hx : (xs j)[k]? = some x) : Drawn3 s { s' with heap := h3 } z TI TO it ls xs k (j + 1) (put c j x) where
  same := by obtain ⟨q, e⟩ := W.same; exact ⟨h3, by rw [e]⟩
  sz := b3.1.trans (b2.1.trans W.sz)
  zip := b3.extBut _ _ D.oz.symm (b2.extBut _ _ (D.iz j hj).symm W.zip)
  out := out
  feed := (Feed.next D hj W.feed b2.extBut n2).but b3.extBut D.io D.lo
  got := fun i hi => by
    by_cases e : i = j
    · subst e; rw [hx]; simp [put]
    · rw [W.got i (by omega)]; simp [put, e]
  kept := fun a o a1 a2 a3 e => b3.extBut _ _ a2 (b2.extBut _ _ (a3 j hj) (W.kept a o a1 a2 a3 e))

/-- one draw: the three items, or the end that the first source tells -/
theorem zip3_draw {c : Nat → Value} {F : Fin → Shared → Prop} (hh : A.handled = none) (D : Apart3 z TI TO it ls)
    (hz : IsZip s.heap z TI TO .none) (hTI : IsTrip s.heap TI fun j => .ref (it j)) (hTO : IsTrip s.heap TO c) (hf : Feed s.heap it ls xs fun _ => k)
    (hx : (∃ x : Nat → Value, (∀ i, i < 3 → (xs i)[k]? = some (x i)) ∧
        ∀ h', IsZip h' z TI TO (rawInt s.heap.objs.size) → IsTrip h' TO x → Feed h' it ls xs (fun _ => k + 1) → IsTrip h' s.heap.objs.size x →
          (∀ a o, a ≠ z → a ≠ TO → (∀ i, i < 3 → a ≠ it i) → s.heap.get? a = some o → h'.get? a = some o) → F (.done (.ret (.ref s.heap.objs.size))) { s with heap := h' }) ∨
      ((xs 0)[k]? = none ∧ ∀ h' e, (∀ a o, a ≠ z → a ≠ TO → (∀ i, i < 3 → a ≠ it i) → s.heap.get? a = some o → h'.get? a = some o) → (∃ o, h'.get? e = some o ∧ o.cls = .type "StopIteration") → E (.ref e) { s with heap := h' })) :
    wpAny (model prog w) A (Builtin.«zip.__next__» ⟨[.ref z], []⟩) F E s := by
  have len : (tri fun j => Value.ref (it j)).toList.zipIdx.length = 3 := by simp [tri]
  unfold Builtin.«zip.__next__»
  wp_walk using wpAny_field hz rfl (x := .bool false) rfl, wpAny_field hz rfl (x := .ref TI) rfl, wpAny_forIn_list _ (fun rest b s' => b.1 = none ∧ ∃ j c, j ≤ 3 ∧ rest = ((tri fun j => .ref (it j)).toList.zipIdx).drop j ∧ Drawn3 s s' z TI TO it ls xs k j c) _
  case turn =>
    rintro ⟨a, n⟩ rest ⟨r, u⟩ s' ⟨_, j, c', hj, hrest, W⟩
    have hj3 : j < 3 := by
      rcases Nat.lt_or_ge j 3 with h | h
      · exact h
      · rw [List.drop_of_length_le (by rw [len]; exact h)] at hrest; cases hrest
    have hit : (tri fun j => Value.ref (it j)).toList.zipIdx[j]'(by rw [len]; exact hj3) = (Value.ref (it j), j) := by
      obtain rfl | rfl | rfl : j = 0 ∨ j = 1 ∨ j = 2 := by omega
      all_goals rfl
    rw [List.drop_eq_getElem_cons (by rw [len]; exact hj3), hit] at hrest
    obtain ⟨h1, rfl⟩ := List.cons.inj hrest
    obtain ⟨rfl, rfl⟩ := Prod.mk.inj h1
    obtain ⟨hi, hl⟩ := W.feed n hj3
    simp only [Nat.lt_irrefl, if_false] at hi
    refine wpAny_bind (wpAny_onRaise ?_)
    show wpAny _ _ (Builtin.SmallTypes.nextOf (.ref (it n)) >>= _) _ _ _
    refine wpAny_bind ?_
    rcases hx with ⟨x, hx, _⟩ | ⟨hx, hE⟩
    · refine wpAny_nextOf_list_item hi hl (hx n hj3) fun h2 n2 b2 => wpAny_pure ?_
      have out2 : IsTrip h2 TO c' := b2.extBut _ _ (D.io n hj3).symm W.out
      refine wpAny_bind (wpAny_seqItems out2 rfl (wpAny_bind (put_in hj3 out2 fun h3 out3 b3 => wpAny_bind (wpAny_letGo (wpAny_pure ?_)))))
      have W' := W.step D hj3 b2 n2 b3 out3 (hx n hj3)
      exact ⟨rfl, n + 1, _, hj3, rfl, W'⟩
    · obtain rfl : n = 0 := by
        rcases Nat.eq_zero_or_pos n with h | h
        · exact h
        · rw [W.got 0 h] at hx; cases hx
      refine wpAny_nextOf_list_end hh hi hl hx fun h2 e b2 he => ?_
      obtain ⟨oe, ho, hc⟩ := he
      have zip2 : IsZip h2 z TI TO .ellipsis := b2 _ _ (D.iz 0 hj3).symm W.zip
      have hez : e ≠ z := by
        rintro rfl
        rw [zip2] at ho; cases ho; simp at hc
      refine wpAny_setField_rec zip2 (by simp) fun h3 _ b3 => ?_
      obtain ⟨hp, rfl⟩ := W.same
      exact hE h3 e (fun a o a1 a2 a3 ha => b3.extBut _ _ a1 (b2 _ _ (a3 0 hj3) (W.kept a o a1 a2 a3 ha))) ⟨oe, b3.extBut _ _ hez ho, hc⟩
  case fin =>
    rintro ⟨r, u⟩ s' ⟨hr, j, c', hj, hrest, W⟩
    obtain rfl : j = 3 := by
      have := congrArg List.length hrest
      rw [List.length_drop, len] at this
      simp at this; omega
    simp only at hr
    subst hr
    rcases hx with ⟨x, hx, hQ⟩ | ⟨hx, _⟩
    · have hcx : tri c' = tri x := by
        have e : ∀ i, i < 3 → c' i = x i := fun i hi => Option.some.inj ((W.got i hi).symm.trans (hx i hi))
        unfold tri
        rw [e 0 (by decide), e 1 (by decide), e 2 (by decide)]
      have out := W.out
      unfold IsTrip at out
      rw [hcx] at out
      show wpAny _ _ (seqItems? (.ref TO) >>= _) _ _ _
      refine wpAny_bind (wpAny_seqItems out rfl (wpAny_bind (wpAny_newTuple ?_ (by simp [tri, sizeLine_eq]))))
      have feed : Feed s'.heap it ls xs fun _ => k + 1 := fun i hi => by simpa [hi] using W.feed i hi
      have zipP : IsZip (s'.heap.push { cls := .type "tuple", data := .seq (tri x).toList.toArray }) z TI TO .ellipsis := Heap.get?_push_of_some _ W.zip
      have zlt : s'.heap.objs.size ≠ z := Nat.ne_of_gt (Heap.lt_size W.zip)
      unfold Builtin.SmallTypes.ownedTupleHandOut
      refine wpAny_bind (wpAny_bind (wpAny_setField_rec zipP (by simp) fun h4 zip4 b4 => wpAny_setField_rec zip4 (by simp) fun h5 zip5 b5 => wpAny_pure ?_))
      have up : Heap.ExtBut z s'.heap h5 := fun a o ha e => b5.extBut _ _ ha (b4.extBut _ _ ha (Heap.get?_push_of_some _ e))
      have out5 : IsTrip h5 s'.heap.objs.size x := b5.extBut _ _ zlt (b4.extBut _ _ zlt (by simpa using Heap.get?_push_size _ rfl))
      replace zip5 : IsZip h5 z TI TO (rawInt s'.heap.objs.size) := zip5
      obtain ⟨hp, rfl⟩ := W.same
      have sz := W.sz
      rw [sz] at zip5 out5 ⊢
      exact hQ h5 zip5 (up _ _ D.oz out) (feed.but up D.iz D.lz) out5 fun a o a1 a2 a3 e => up _ _ a1 (W.kept a o a1 a2 a3 e)
    · rw [W.got 0 (by decide)] at hx; cases hx
  case h =>
    have b1 : Heap.SameBut z s.heap (s.heap.update z (Obj.mapFields fun x => x.setIfInBounds 0 .ellipsis)) := Heap.SameBut.update ..
    exact ⟨rfl, 0, c, Nat.zero_le _, rfl, ⟨⟨_, rfl⟩, b1.1, Heap.get?_update_self _ hz rfl, b1.extBut _ _ D.oz hTO, fun i hi => by simpa using Feed.but hf b1.extBut D.iz D.lz i hi, fun i hi => absurd hi (Nat.not_lt_zero i), fun a o a1 _ _ e => b1.extBut _ _ a1 e⟩⟩

theorem zip3_next {c : Nat → Value} {Q : Option Value → Shared → Prop} (hh : A.handled = none) (D : Apart3 z TI TO it ls)
    (hz : IsZip s.heap z TI TO .none) (hTI : IsTrip s.heap TI fun j => .ref (it j)) (hTO : IsTrip s.heap TO c) (hf : Feed s.heap it ls xs fun _ => k)
    (hx : (∃ x : Nat → Value, (∀ i, i < 3 → (xs i)[k]? = some (x i)) ∧
        ∀ h', IsZip h' z TI TO (rawInt s.heap.objs.size) → IsTrip h' TO x → Feed h' it ls xs (fun _ => k + 1) → IsTrip h' s.heap.objs.size x →
          (∀ a o, a ≠ z → a ≠ TO → (∀ i, i < 3 → a ≠ it i) → s.heap.get? a = some o → h'.get? a = some o) → Q (some (.ref s.heap.objs.size)) { s with heap := h' }) ∨
      ((xs 0)[k]? = none ∧ ∀ h', (∀ a o, a ≠ z → a ≠ TO → (∀ i, i < 3 → a ≠ it i) → s.heap.get? a = some o → h'.get? a = some o) → Q none { s with heap := h' })) :
    wpAny (model prog w) A (pyNext (.ref z)) Q E s := by
  have ty : s.TypeIs (.ref z) "zip" := ⟨_, hz, rfl⟩
  unfold pyNext
  refine wpAny_bind (wpAny_attempt (wpAny_callSpecial?_slot (name := Str.ofString "__next__") ty PySem.F.slot_zip_next (wpAny_call_entry PySem.F.slot_zip_next ty PySem.F.entry_zip_next ?draw (PySem.F.args_zip_next_1 _))))
  refine zip3_draw hh D hz hTI hTO hf ?_
  rcases hx with ⟨x, hx, h⟩ | ⟨hx, h⟩
  · exact .inl ⟨x, hx, fun h' a1 a2 a3 a4 a5 => ⟨_, rfl, wpAny_pure (h h' a1 a2 a3 a4 a5)⟩⟩
  · exact .inr ⟨hx, fun h' e kept ⟨o, ho, hc⟩ => wpAny_bind (wpAny_isInstance (T := "StopIteration") (b := true) ⟨o, ho, hc⟩ isSubtype_stop (wpAny_pure (h h' kept)))⟩
end

/-! the walk -/
def wr3 (z TO : Addr) (it : Nat → Addr) : List Addr := [z, TO, it 0, it 1, it 2]
def fp3 (z TI TO : Addr) (it ls : Nat → Addr) : List Addr := [TI, ls 0, ls 1, ls 2] ++ wr3 z TO it
theorem three {P : Nat → Prop} (h0 : P 0) (h1 : P 1) (h2 : P 2) : ∀ i, i < 3 → P i := fun i hi => by
  obtain rfl | rfl | rfl : i = 0 ∨ i = 1 ∨ i = 2 := by omega
  all_goals assumption
theorem mem_wr3 {z TO : Addr} {it : Nat → Addr} {b : Addr} : b ∈ wr3 z TO it ↔ b = z ∨ b = TO ∨ ∃ i, i < 3 ∧ b = it i := by
  unfold wr3
  simp only [List.mem_cons, List.not_mem_nil, or_false]
  constructor
  · rintro (h | h | h | h | h)
    · exact .inl h
    · exact .inr (.inl h)
    · exact .inr (.inr ⟨0, by decide, h⟩)
    · exact .inr (.inr ⟨1, by decide, h⟩)
    · exact .inr (.inr ⟨2, by decide, h⟩)
  · rintro (h | h | ⟨i, hi, h⟩)
    · exact .inl h
    · exact .inr (.inl h)
    · obtain rfl | rfl | rfl : i = 0 ∨ i = 1 ∨ i = 2 := by omega
      all_goals simp [h]
theorem mem_fp3 {z TI TO : Addr} {it ls : Nat → Addr} {b : Addr} : b ∈ fp3 z TI TO it ls ↔ b = TI ∨ (∃ i, i < 3 ∧ b = ls i) ∨ b ∈ wr3 z TO it := by
  unfold fp3
  rw [List.mem_append]
  simp only [List.mem_cons, List.not_mem_nil, or_false]
  constructor
  · rintro ((h | h | h | h) | h)
    · exact .inl h
    · exact .inr (.inl ⟨0, by decide, h⟩)
    · exact .inr (.inl ⟨1, by decide, h⟩)
    · exact .inr (.inl ⟨2, by decide, h⟩)
    · exact .inr (.inr h)
  · rintro (h | ⟨i, hi, h⟩ | h)
    · exact .inl (.inl h)
    · obtain rfl | rfl | rfl : i = 0 ∨ i = 1 ∨ i = 2 := by omega
      all_goals simp [h]
    · exact .inr h
theorem out3 {z TO : Addr} {it : Nat → Addr} {h h' : Heap} (k : ∀ a o, a ≠ z → a ≠ TO → (∀ i, i < 3 → a ≠ it i) → h.get? a = some o → h'.get? a = some o) : ∀ b o, b ∉ wr3 z TO it → h.get? b = some o → h'.get? b = some o :=
  fun b o hb e => k b o (fun x => hb (mem_wr3.mpr (.inl x))) (fun x => hb (mem_wr3.mpr (.inr (.inl x)))) (fun i hi x => hb (mem_wr3.mpr (.inr (.inr ⟨i, hi, x⟩)))) e

/-- between two draws, with the first field of the zip -/
structure Zip3 (h : Heap) (z TI TO : Addr) (it ls : Nat → Addr) (xs : Nat → Array Value) (f : Value) (k : Nat) : Prop where
  zip : IsZip h z TI TO f
  its : IsTrip h TI fun j => .ref (it j)
  out : ∃ c, IsTrip h TO c
  feed : Feed h it ls xs fun _ => k
theorem Zip3.live {h : Heap} {z TI TO : Addr} {it ls : Nat → Addr} {xs : Nat → Array Value} {f : Value} {k : Nat} (S : Zip3 h z TI TO it ls xs f k) : ∀ b, b ∈ fp3 z TI TO it ls → ∃ o, h.get? b = some o := fun b hb => by
  rcases mem_fp3.mp hb with rfl | ⟨i, hi, rfl⟩ | hb
  · exact ⟨_, S.its⟩
  · obtain ⟨o, e, _⟩ := (S.feed i hi).2; exact ⟨o, e⟩
  · rcases mem_wr3.mp hb with rfl | rfl | ⟨i, hi, rfl⟩
    · exact ⟨_, S.zip⟩
    · obtain ⟨c, e⟩ := S.out; exact ⟨_, e⟩
    · obtain ⟨o, e, _⟩ := (S.feed i hi).1; exact ⟨o, e⟩

theorem walk_zip3 {prog : Program} {w : World} {A : Around} (hh : A.handled = none) {z TI TO : Addr} {it ls : Nat → Addr} (D : Apart3 z TI TO it ls) {xs : Nat → Array Value} {n : Nat} (hn : ∀ i, i < 3 → (xs i).size = n) :
    WalksU prog w A z (fp3 z TI TO it ls) (wr3 z TO it) n (fun i vals => ∃ x : Nat → Value, (∀ j, j < 3 → (xs j)[i]? = some (x j)) ∧ vals = tri x) (fun i h => Zip3 h z TI TO it ls xs .none i)
      (fun i T h => Zip3 h z TI TO it ls xs (rawInt T) (i + 1) ∧ T ∉ wr3 z TO it) where
  sub := fun b hb => mem_fp3.mpr (.inr (.inr hb))
  frame := fun i h h' S hk => by
    have hw : ∀ b, b ∈ wr3 z TO it → b ∈ fp3 z TI TO it ls := fun b hb => mem_fp3.mpr (.inr (.inr hb))
    obtain ⟨c, hc⟩ := S.out
    exact ⟨hk z (hw z (mem_wr3.mpr (.inl rfl))) _ S.zip, hk TI (mem_fp3.mpr (.inl rfl)) _ S.its, ⟨c, hk TO (hw TO (mem_wr3.mpr (.inr (.inl rfl)))) _ hc⟩,
      fun j hj => ⟨(S.feed j hj).1.at fun o e => hk _ (hw _ (mem_wr3.mpr (.inr (.inr ⟨j, hj, rfl⟩)))) o e, (S.feed j hj).2.at fun o e => hk _ (mem_fp3.mpr (.inr (.inl ⟨j, hj, rfl⟩))) o e⟩⟩
  item := fun i s Q E hi S hQ => by
    obtain ⟨c, hc⟩ := S.out
    have hx : ∀ j, j < 3 → (xs j)[i]? = some ((xs j).getD i .none) := fun j hj => by
      have : i < (xs j).size := by rw [hn j hj]; exact hi
      simp [this]
    refine zip3_next hh D S.zip S.its hc S.feed (.inl ⟨_, hx, fun h' a1 a2 a3 a4 kept => ?_⟩)
    have fresh : s.heap.objs.size ∉ wr3 z TO it := fun hb => by
      obtain ⟨o, e⟩ := S.live _ (mem_fp3.mpr (.inr (.inr hb)))
      exact absurd (Heap.lt_size e) (Nat.lt_irrefl _)
    refine hQ _ _ h' s.toks ⟨_, hx, rfl⟩ ⟨_, a4, rfl, _, rfl⟩ ⟨⟨a1, ?_, ⟨_, a2⟩, a3⟩, fresh⟩ (out3 kept)
    exact kept TI _ D.tz D.ot.symm D.ti S.its
  go := fun elts kk pos i T s Q E hm hQ => by
    obtain ⟨S, _⟩ := hm
    obtain ⟨c, hc⟩ := S.out
    exact wpAny_letOwnedTupleGo_zip S.zip fun h' hz' b => hQ h' ⟨hz', b.extBut _ _ D.tz S.its, ⟨c, b.extBut _ _ D.oz hc⟩, S.feed.but b.extBut D.iz D.lz⟩
      fun a o ha e => b.extBut _ _ (fun x => ha (mem_wr3.mpr (.inl x))) e
  apart := fun i T h hm => hm.2
  done := fun s Q E S hQ => by
    obtain ⟨c, hc⟩ := S.out
    exact zip3_next hh D S.zip S.its hc S.feed (.inr ⟨by have := hn 0 (by decide); simp [this], fun h' kept => hQ h' s.toks (out3 kept)⟩)
  self := fun i s Q E S hQ => wpAny_pyIter_zip S.zip hQ

/-! the zip is made: six new objects -/
def pushAll : Heap → List Obj → Heap
  | h, [] => h
  | h, o :: r => pushAll (h.push o) r
theorem pushAll_old : ∀ {os : List Obj} {h : Heap} {a : Addr} {o : Obj}, h.get? a = some o → (pushAll h os).get? a = some o
  | [], _, _, _, e => e
  | p :: r, h, _, _, e => pushAll_old (os := r) (h := h.push p) (Heap.get?_push_of_some p e)
theorem pushAll_new : ∀ {os : List Obj} {h : Heap} {i : Nat} {o : Obj}, os[i]? = some o → o.isFreed = false → (pushAll h os).get? (h.objs.size + i) = some o
  | [], _, _, _, e, _ => by simp at e
  | p :: r, h, 0, o, e, hf => by
    obtain rfl : p = o := by simpa using e
    exact pushAll_old (os := r) (h := h.push p) (Heap.get?_push_size h hf)
  | p :: r, h, i + 1, o, e, hf => by
    have := pushAll_new (h := h.push p) (i := i) (o := o) (by simpa using e) hf
    rw [Heap.size_push] at this
    rw [show h.objs.size + (i + 1) = h.objs.size + 1 + i by omega]
    exact this
abbrev iterObj (l : Addr) : Obj := { cls := .type "list_iterator", data := .fields #[.ref l, .int 0 0] }
def zipObjs (n : Nat) (l : Nat → Addr) : List Obj := [iterObj (l 0), iterObj (l 1), iterObj (l 2), { cls := .type "tuple", data := .seq (tri fun i => .ref (n + i)) }, { cls := .type "tuple", data := .seq (tri fun _ => .none) },
  { cls := .type "zip", data := .fields #[.none, .bool false, .bool false, .ref (n + 3), .ref (n + 4)] }]

theorem new_zip3 (l : Nat → Addr) (xs : Nat → Array Value) :
    Meets (Builtin.«zip.__new__» ⟨[.type "zip", .ref (l 0), .ref (l 1), .ref (l 2)], []⟩) (fun _ R s => (∀ i, i < 3 → s.heap.IsList (l i) (xs i)) ∧ R (.ok (.ret (.ref (s.heap.objs.size + 5)))) { s with heap := pushAll s.heap (zipObjs s.heap.objs.size l) }) :=
  .of_wp fun prog w A R s h => by
    obtain ⟨H, g, d, tk, os⟩ := s
    obtain ⟨hl, h⟩ := h
    have sub := sub_zip
    have at0 : Heap.IsList (Shared.heap ⟨H, g, d, tk, os⟩) (l 0) (xs 0) := hl 0 (by decide)
    have at1 : Heap.IsList (Shared.heap ⟨H.push (iterObj (l 0)), g, d, tk, os⟩) (l 1) (xs 1) := (hl 1 (by decide)).at fun o e => pushAll_old (os := [_]) e
    have at2 : Heap.IsList (Shared.heap ⟨(H.push (iterObj (l 0))).push (iterObj (l 1)), g, d, tk, os⟩) (l 2) (xs 2) := (hl 2 (by decide)).at fun o e => pushAll_old (os := [_, _]) e
    wp_walk using wpAny_pyIter_list at0, wpAny_pyIter_list at1, wpAny_pyIter_list at2
    refine ⟨_, rfl, ?_⟩
    simp [pushAll, zipObjs, tri] at h ⊢
    exact h
theorem init_zip_3 (z a b c : Value) : argsOk "object.__init__" ⟨[z, a, b, c], []⟩ := by
  unfold argsOk
  rw [signature?_of (id := "object.__init__") (n := ['_', '_', 't', 'i', 'n', 'i', '_', '_']) (o := ['t', 'c', 'e', 'j', 'b', 'o']) (by kernel_rfl) PySem.F.owner_object]
  kernel_rfl
theorem call_zip3 {prog : Program} {w : World} {A : Around} {E : Value → Shared → Prop} {s : Shared} {l : Nat → Addr} {xs : Nat → Array Value} {Q : Value → Shared → Prop} (hl : ∀ i, i < 3 → s.heap.IsList (l i) (xs i))
    (h : ∀ h', Zip3 h' (s.heap.objs.size + 5) (s.heap.objs.size + 3) (s.heap.objs.size + 4) (fun i => s.heap.objs.size + i) l xs .none 0 → (∀ a o, s.heap.get? a = some o → h'.get? a = some o) → Q (.ref (s.heap.objs.size + 5)) { s with heap := h' }) :
    wpAny (model prog w) A (call (.type "zip") [.ref (l 0), .ref (l 1), .ref (l 2)]) Q E s := by
  refine callType_new PySem.F.called_zip (by decide) (typeCall_zip_3 _ _ _) (newCall_zip_3 _ _ _) (fun z => init_zip_3 z _ _ _) PySem.F.entry_zip_new (new_zip3 l xs) ⟨hl, ?_⟩
  have new : ∀ i o, (zipObjs s.heap.objs.size l)[i]? = some o → o.isFreed = false → (pushAll s.heap (zipObjs s.heap.objs.size l)).get? (s.heap.objs.size + i) = some o := fun i o e f => pushAll_new e f
  have z5 := new 5 _ rfl rfl
  refine ⟨⟨_, z5, rfl⟩, h _ ⟨z5, new 3 _ rfl rfl, ⟨fun _ => .none, new 4 _ rfl rfl⟩, ?_⟩ fun a o e => pushAll_old e⟩
  have old : ∀ i, i < 3 → (pushAll s.heap (zipObjs s.heap.objs.size l)).IsList (l i) (xs i) := fun i hi => (hl i hi).at fun o e => pushAll_old e
  exact three ⟨⟨_, new 0 _ rfl rfl, rfl, rfl⟩, old 0 (by decide)⟩ ⟨⟨_, new 1 _ rfl rfl, rfl, rfl⟩, old 1 (by decide)⟩ ⟨⟨_, new 2 _ rfl rfl, rfl, rfl⟩, old 2 (by decide)⟩

/-! the mirror -/
def zip3V : List Val → List Val → List Val → List (List Val)
  | a :: l, b :: m, c :: r => [a, b, c] :: zip3V l m r
  | _, _, _ => []
theorem zip3V_get {a b c : Val} : ∀ {l m r : List Val} {j : Nat}, l[j]? = some a → m[j]? = some b → r[j]? = some c → (zip3V l m r)[j]? = some [a, b, c]
  | _ :: _, _ :: _, _ :: _, 0, e, f, g => by simp at e f g; subst e f g; rfl
  | _ :: _, _ :: _, _ :: _, j + 1, e, f, g => by
    have := zip3V_get (j := j) (by simpa using e) (by simpa using f) (by simpa using g)
    simpa [zip3V] using this
  | [], _, _, _, e, _, _ => by simp at e
  | _, [], _, _, _, f, _ => by simp at f
  | _, _, [], _, _, _, g => by simp at g
theorem zip3V_length : ∀ {l m r : List Val}, m.length = l.length → r.length = l.length → (zip3V l m r).length = l.length
  | [], _, _, _, _ => by simp [zip3V]
  | _ :: _, [], _, h, _ => by simp at h
  | _ :: _, _ :: _, [], _, h => by simp at h
  | _ :: l, _ :: m, _ :: r, h, h' => congrArg (· + 1) (zip3V_length (l := l) (m := m) (r := r) (Nat.succ.inj h) (Nat.succ.inj h'))
def zip3O : List Val → Option (List (List Val))
  | [.list l, .list m, .list r] => if Nat.beq m.length l.length && Nat.beq r.length l.length then some (zip3V l m r) else none
  | _ => none
def sel {α : Type} (a b c : α) : Nat → α
  | 0 => a
  | 1 => b
  | _ => c

theorem ItT.zip3 {C : Cx} {n : Nat} {sc : Scope} {ρ : Lc} {e1 e2 e3 : Expr} {p pos : Pos} {oa : Option (List Val)}
    (ha : EvL C n sc ρ [e1, e2, e3] oa) (hx : sc.names.lookup ("zip" : Str) = some .globalImplicit := by rfl)
    (hp : PlainArgs e1 [e2, e3] := by exact ⟨fun _ => rfl, fun _ _ => rfl⟩) : ItT C n sc ρ (.Call (.Name "zip" p) [e1, e2, e3] [] pos) (oa.bind zip3O) := by
  intro vs q A env ad M s Q E ro hsc S hQ
  obtain ⟨as, hv, q⟩ := obind q
  refine wpAny_Call_NameR (load_builtin S (by show env.scope.names.lookup _ = _; rw [hsc]; exact hx) (fv := .type "zip") (by simp [builtinNames]) (by decide) ?_)
  refine callWith_typeM hp (ha as hv A env ad M s pos _ E ro hsc S fun ws s1 k1 q1 => ?_)
  unfold zip3O at q
  split at q
  case h_2 => cases q
  rename_i l m r
  split at q
  case isFalse => cases q
  rename_i hz
  simp only [Bool.and_eq_true] at hz
  obtain ⟨hm, hr⟩ := hz
  replace hm := Nat.eq_of_beq_eq_true hm
  replace hr := Nat.eq_of_beq_eq_true hr
  cases q
  obtain ⟨w0, w1, w2, rfl, r0, r1, r2⟩ := repL3 q1
  simp only [Rep] at r0 r1 r2
  obtain ⟨a0, u0, rfl, m0, p0, r0⟩ := r0
  obtain ⟨a1, u1, rfl, m1, p1, r1⟩ := r1
  obtain ⟨a2, u2, rfl, m2, p2, r2⟩ := r2
  have hM : ∀ i, i < 3 → ¬ M (sel a0 a1 a2 i) := three m0 m1 m2
  have hP : ∀ i, i < 3 → s1.heap.PlainList (sel a0 a1 a2 i) (List.toArray (sel u0 u1 u2 i)) := three p0 p1 p2
  have hR : ∀ i, i < 3 → RepL s1.heap M (sel l m r i) (sel u0 u1 u2 i) := three r0 r1 r2
  have hL : ∀ i, i < 3 → (sel l m r i).length = l.length := three rfl hm hr
  have below : ∀ i, i < 3 → sel a0 a1 a2 i < s1.heap.objs.size := fun i hi => by obtain ⟨_, e⟩ := hP i hi; exact Heap.lt_size e
  refine call_zip3 (l := sel a0 a1 a2) (xs := fun i => List.toArray (sel u0 u1 u2 i)) (fun i hi => (hP i hi).isList) fun h2 Z up => wpAny_pyIter_zip Z.zip ?_
  have k2 : Keeps s1 { s1 with heap := h2 } := ⟨h2, s1.toks, rfl, up⟩
  have D : Apart3 (s1.heap.objs.size + 5) (s1.heap.objs.size + 3) (s1.heap.objs.size + 4) (fun i => s1.heap.objs.size + i) (sel a0 a1 a2) :=
    ⟨off_ne (by decide), off_ne (by decide), off_ne (by decide), fun i hi => by show s1.heap.objs.size + i ≠ _; omega, fun i hi => by show s1.heap.objs.size + i ≠ _; omega, fun i hi => by show _ ≠ s1.heap.objs.size + i; omega, fun i j hi hj h => by show s1.heap.objs.size + i ≠ s1.heap.objs.size + j; omega,
      fun i hi => below_ne 5 (below i hi), fun i hi => below_ne 4 (below i hi), fun i j hi hj => below_ne j (below i hi)⟩
  have W := walk_zip3 (prog := C.prog) (w := C.w) ro.hd D (xs := fun i => List.toArray (sel u0 u1 u2 i)) (n := (zip3V l m r).length) fun i hi => by rw [List.size_toArray, (hR i hi).length, hL i hi, zip3V_length hm hr]
  have young : ∀ b, b ∈ wr3 (s1.heap.objs.size + 5) (s1.heap.objs.size + 4) (fun i => s1.heap.objs.size + i) → s1.heap.get? b = none := fun b hb => by
    rcases mem_wr3.mp hb with rfl | rfl | ⟨i, _, rfl⟩ <;> exact get_none_of_size (by omega)
  refine hQ _ _ _ _ _ _ _ (kt k1 k2) W Z (fun b hb => none_back k1 (young b hb)) (fun b hb => ⟨Z.live b hb, ?_⟩) (fun i h' st b hb => st.live b (W.sub b hb)) (fun i T h' st b hb => st.1.live b (W.sub b hb)) (fun i vals hw => ?_)
  · rcases mem_fp3.mp hb with rfl | ⟨i, hi, rfl⟩ | hb
    · refine .inr fun h => ?_
      obtain ⟨o, e⟩ := S.live _ h
      rw [none_back k1 (get_none_of_size (by omega))] at e; cases e
    · exact .inr (hM i hi)
    · exact .inl hb
  · obtain ⟨x, hx, rfl⟩ := hw
    have got : ∀ j, j < 3 → ∃ v, (sel l m r j)[i]? = some v ∧ Rep h2 (fun b => M b ∨ b ∈ wr3 (s1.heap.objs.size + 5) (s1.heap.objs.size + 4) (fun i => s1.heap.objs.size + i)) v (x j) := fun j hj =>
      ((hR j hj).mono (h' := h2) (fun b o _ e => up b o e) fun b o hb e h => h.elim hb fun h => by rw [young b h] at e; cases e).getr (by simpa using hx j hj)
    obtain ⟨v0, e0, q0⟩ := got 0 (by decide)
    obtain ⟨v1, e1, q1⟩ := got 1 (by decide)
    obtain ⟨v2, e2, q2⟩ := got 2 (by decide)
    exact ⟨_, [x 0, x 1, x 2], zip3V_get e0 e1 e2, rfl, RepL.cons q0 (RepL.cons q1 (RepL.cons q2 .nil))⟩

/-! text MG3 -/
/-! _law_images_right -/
theorem df_law_images_right : dlist.lookup ("_law_images_right" : Str) = some (recAt 44) := by rw [dl]; kernel_rfl
def g_law_images_right : List Val → Option (Out Unit)
  | [a_things, a_raised, a_traces, a_norms, a_p, a_m] => (((some []).bind fun l => if Nat.ble l.length 16777216 then some l else none).bind fun u1 => if allInt u1 then ((some []).bind fun l => if Nat.ble l.length 16777216 then some l else none).bind fun u2 => if allInt u2 then ((((some a_things).bind fun v => ((some a_raised).bind fun v => (some []).bind fun l => some (v :: l)).bind fun l => some (v :: l)).bind zipO).bind fun vs => seqO (loopO (tupF2 (fun (v4 v5 : Val) (t3 : List Val × List Val) => ((((some v5).bind fun v => (((((some v4).bind itemsO).bind fun vs => compL (fun v6 => (some true)) (fun v6 => (((some a_p).bind fun x => (some v6).bind fun y => subO x y).bind fun x => (some a_p).bind fun y => modO x y)) vs).bind fun l => some (.list l)).bind fun v => ((some a_p).bind fun v => (some []).bind fun l => some (v :: l)).bind fun l => some (v :: l)).bind fun l => some (v :: l)).bind m_law_plus).bind fun v => (appO t3.1 v).bind fun u7 => (seqO (((some v4).bind fun x => (((some []).bind fun l => if Nat.ble l.length 16777216 then some l else none).bind fun l => some (.list l)).bind fun y => neO x y).bind fun b => if b then ((((some a_p).bind fun x => (some (.int 2)).bind fun y => eqO x y).bind fun x => if x then (some v4) else (((some v4).bind fun v => ((some v4).bind fun v => ((some a_m).bind fun v => ((some a_p).bind fun v => (some []).bind fun l => some (v :: l)).bind fun l => some (v :: l)).bind fun l => some (v :: l)).bind fun l => some (v :: l)).bind m_law_times)).bind fun v => (appO t3.2 v).bind fun u9 => some (.cont (u9))) else some (.cont (t3.2))) fun (t8 : List Val) => some (.cont (u7, t8)))))) vs (u1, u2)) fun (t3 : List Val × List Val) => ((((some a_things).bind fun v => ((some a_traces).bind fun v => ((some a_norms).bind fun v => (some []).bind fun l => some (v :: l)).bind fun l => some (v :: l)).bind fun l => some (v :: l)).bind zip3O).bind fun vs => seqO (loopO (tupF3 (fun (v11 v12 v13 : Val) (t10 : Unit) => (seqO (((((some v12).bind fun x => (some (.int 0)).bind fun y => (eqO x y).bind fun c => some (.bool c)).bind fun x => ((some v11).bind fun x => (some (.list t3.1)).bind fun y => (inO x y).bind fun c => some (.bool c)).bind fun y => neO x y).bind fun x => if x then some true else (((some v13).bind fun x => (some (.int 1)).bind fun y => (eqO x y).bind fun c => some (.bool c)).bind fun x => ((some v11).bind fun x => (some (.list t3.2)).bind fun y => (inO x y).bind fun c => some (.bool c)).bind fun y => neO x y)).bind fun b => if b then ((some (.bool false)).bind fun v => some (.ret v)) else some (.cont ())) fun (t14 : Unit) => some (.cont ())))) vs ()) fun (t10 : Unit) => ((some (.bool true)).bind fun v => some (.ret v)))) else none else none)
  | _ => none
def m_law_images_right (vs : List Val) : Option Val := (g_law_images_right vs).bind outV
theorem b_law_images_right (C : Cx) (hC : C.defs = fun x => dlist.lookup x) : ∀ vs, Bk C 2 (recAt 44).scope (lcOfArgs ["things", "raised", "traces", "norms", "p", "m"] vs) (recAt 44).body emb0 (g_law_images_right vs) := by
  intro vs
  unfold g_law_images_right
  split
  · rename_i a_things a_raised a_traces a_norms a_p a_m
    exact (Bk.assign2oo (EvN.list EvL.nil) (EvN.list EvL.nil) (fun u1 u2 => (Bk.for2 (fun (t3 : List Val × List Val) => [("less", .own t3.1), ("over", .own t3.2), ("things", .sh a_things), ("raised", .sh a_raised), ("traces", .sh a_traces), ("norms", .sh a_norms), ("p", .sh a_p), ("m", .sh a_m)]) (x0 := (u1, u2)) (ItT.zip2 (EvL.cons (Ev.var rfl) (EvL.cons (Ev.var rfl) EvL.nil))) (.cons (.cons (.cons (.cons (.cons (.cons (.cons (.cons .nil)))))))) (fun v4 v5 t3 => (Bk.append' rfl (Ev.callD ((c_law_plus C hC).more (by decide)) (df_of hC df_law_plus) (EvL.cons (Ev.var rfl) (EvL.cons (EvN.sh (EvN.comp1 [("p", .sh a_p)] (It.list (Ev.var rfl)) (fun v6 => TstL.nil) (fun v6 => (Ev.bin bin_mod (Ev.bin bin_sub (Ev.var rfl) (Ev.var rfl)) (Ev.var rfl))) (.cons .nil))) (EvL.cons (Ev.var rfl) EvL.nil)))) fun u7 => (Bk.ifte (fun (t8 : List Val) => [("less", .own u7), ("over", .own t8), ("things", .sh a_things), ("raised", .sh a_raised), ("traces", .sh a_traces), ("norms", .sh a_norms), ("p", .sh a_p), ("m", .sh a_m), ("b", .sh v4), ("high", .sh v5)]) (Tst.cmp cmp_ne (Ev.var rfl) (EvN.sh (EvN.list EvL.nil))) (Bk.append' rfl (Ev.ifx (Tst.cmp cmp_eq (Ev.var rfl) Ev.intC) (Ev.var rfl) (Ev.callD ((c_law_times C hC).more (by decide)) (df_of hC df_law_times) (EvL.cons (Ev.var rfl) (EvL.cons (Ev.var rfl) (EvL.cons (Ev.var rfl) (EvL.cons (Ev.var rfl) EvL.nil)))))) fun u9 => (Bk.nil (.cons (.cons (.cons (.cons (.cons (.cons (.cons (.cons (.cons (.cons .nil)))))))))))) (Bk.nil (.cons (.cons (.cons (.cons (.cons (.cons (.cons (.cons (.cons (.cons .nil))))))))))) fun t8 => (Bk.nil (.cons (.cons (.cons (.cons (.cons (.cons (.cons (.cons .nil)))))))))))) fun t3 => (Bk.freeze "less" rfl (Bk.freeze "over" rfl (Bk.for3 (fun (t10 : Unit) => [("less", .sh (.list t3.1)), ("over", .sh (.list t3.2)), ("things", .sh a_things), ("raised", .sh a_raised), ("traces", .sh a_traces), ("norms", .sh a_norms), ("p", .sh a_p), ("m", .sh a_m)]) (x0 := ()) (ItT.zip3 (EvL.cons (Ev.var rfl) (EvL.cons (Ev.var rfl) (EvL.cons (Ev.var rfl) EvL.nil)))) (.cons (.cons (.cons (.cons (.cons (.cons (.cons (.cons .nil)))))))) (fun v11 v12 v13 t10 => (Bk.ifte (fun (t14 : Unit) => [("less", .sh (.list t3.1)), ("over", .sh (.list t3.2)), ("things", .sh a_things), ("raised", .sh a_raised), ("traces", .sh a_traces), ("norms", .sh a_norms), ("p", .sh a_p), ("m", .sh a_m), ("a", .sh v11), ("one", .sh v12), ("other", .sh v13)]) (Tst.or (Tst.cmp cmp_ne (Ev.cmp cmp_eq (Ev.var rfl) Ev.intC) (Ev.cmp cmp_in (Ev.var rfl) (Ev.var rfl))) (Tst.cmp cmp_ne (Ev.cmp cmp_eq (Ev.var rfl) Ev.intC) (Ev.cmp cmp_in (Ev.var rfl) (Ev.var rfl)))) (Bk.ret Ev.boolc) (Bk.nil (.cons (.cons (.cons (.cons (.cons (.cons (.cons (.cons (.cons (.cons (.cons .nil)))))))))))) fun t14 => (Bk.nil (.cons (.cons (.cons (.cons (.cons (.cons (.cons (.cons .nil))))))))))) fun t10 => (Bk.ret Ev.boolc)))))) (by rintro ⟨⟩ rfl; rfl))
  · exact Bk.nothing
theorem c_law_images_right (C : Cx) (hC : C.defs = fun x => dlist.lookup x) : CallD C 3 (recAt 44) m_law_images_right := by
  refine CallD.mk ["things", "raised", "traces", "norms", "p", "m"] (b_law_images_right C hC) fun vs ws h M hv hr pm cd doc => ?_
  unfold g_law_images_right at hv
  split at hv
  · obtain ⟨w0, w1, w2, w3, w4, w5, rfl⟩ := repLn6 hr
    rfl
  · exact absurd rfl hv

/-! _law_ways_right -/
theorem df_law_ways_right : dlist.lookup ("_law_ways_right" : Str) = some (recAt 45) := by rw [dl]; kernel_rfl
def g_law_ways_right : List Val → Option (Out Unit)
  | [a_things, a_raised, a_k, a_p] => ((((((some a_things).bind fun v => ((some a_raised).bind fun v => (some []).bind fun l => some (v :: l)).bind fun l => some (v :: l)).bind zipO).bind fun vs => compL (pairT (fun v2 v3 => ((some v2).bind fun x => (some v3).bind fun y => eqO x y))) (pairE (fun v2 v3 => (some v2))) vs).bind fun l => some (.list l)).bind fun u1 => (seqO ((((sortedO a_raised).bind fun a => (sortedO a_things).bind fun b => neO a b).bind fun x => if x then some true else ((some u1).bind fun x => ((((some a_things).bind itemsO).bind fun vs => compL (fun v5 => ((((some v5).bind fun v => (some []).bind fun l => some (v :: l)).bind lenF).bind fun x => (some (.int 2)).bind fun y => ltO x y)) (fun v5 => (some v5)) vs).bind fun l => some (.list l)).bind fun y => neO x y)).bind fun b => if b then ((some (.bool false)).bind fun v => some (.ret v)) else some (.cont ())) fun (t4 : Unit) => (((((some a_things).bind fun v => (some []).bind fun l => some (v :: l)).bind listF).bind fun l => some (.list l)).bind fun u6 => ((((some (.int 1)).bind fun v => (((some a_k).bind fun x => (some (.int 1)).bind fun y => addO x y).bind fun v => (some []).bind fun l => some (v :: l)).bind fun l => some (v :: l)).bind rangeF).bind fun vs => seqO (loopO (fun (v8 : Val) (t7 : Val) => (((((some t7).bind itemsO).bind fun vs => compL (fun v10 => (some true)) (fun v10 => ((some a_raised).bind fun x => ((some a_things).bind fun x => (some v10).bind fun y => indexO x y).bind fun y => itemO x y)) vs).bind fun l => some (.list l)).bind fun u9 => (seqO ((((some u9).bind fun x => (some a_things).bind fun y => (eqO x y).bind fun c => some (.bool c)).bind fun x => ((some v8).bind fun x => (some a_k).bind fun y => (eqO x y).bind fun c => some (.bool c)).bind fun y => neO x y).bind fun b => if b then ((some (.bool false)).bind fun v => some (.ret v)) else some (.cont ())) fun (t11 : Unit) => some (.cont (u9))))) vs (u6)) fun (t7 : Val) => ((some (.bool true)).bind fun v => some (.ret v))))))
  | _ => none
def m_law_ways_right (vs : List Val) : Option Val := (g_law_ways_right vs).bind outV
theorem b_law_ways_right (C : Cx) (hC : C.defs = fun x => dlist.lookup x) : ∀ vs, Bk C 0 (recAt 45).scope (lcOfArgs ["things", "raised", "k", "p"] vs) (recAt 45).body emb0 (g_law_ways_right vs) := by
  intro vs
  unfold g_law_ways_right
  split
  · rename_i a_things a_raised a_k a_p
    exact (Bk.assignComp2' [] (ItT.zip2 (EvL.cons (Ev.var rfl) (EvL.cons (Ev.var rfl) EvL.nil))) (fun v2 v3 => (TstL.one (Tst.cmp cmp_eq (Ev.var rfl) (Ev.var rfl)))) (fun v2 v3 => (Ev.var rfl)) (fun u1 => (Bk.ifteS (fun (t4 : Unit) => [("fixed", .sh u1), ("things", .sh a_things), ("raised", .sh a_raised), ("k", .sh a_k), ("p", .sh a_p)]) (TstS.or (TstS.sortedNe rfl rfl) (TstS.of (Tst.cmp cmp_ne (Ev.var rfl) (EvN.sh (EvN.comp1 [] (It.list (Ev.var rfl)) (fun v5 => (TstL.one (Tst.cmp cmp_lt (Ev.callB call_len (EvL.cons (Ev.var rfl) EvL.nil)) Ev.intC))) (fun v5 => (Ev.var rfl)) .nil))))) (Bk.ret Ev.boolc) (Bk.nil (.cons (.cons (.cons (.cons (.cons .nil)))))) fun t4 => (Bk.assign (EvN.sh (EvN.callT call_list (EvL.cons (Ev.var rfl) EvL.nil))) fun u6 => (Bk.for1 (fun (t7 : Val) => [("row", .sh t7), ("fixed", .sh u1), ("things", .sh a_things), ("raised", .sh a_raised), ("k", .sh a_k), ("p", .sh a_p)]) (x0 := (u6)) (It.range (EvL.cons Ev.intC (EvL.cons (Ev.bin bin_add (Ev.var rfl) Ev.intC) EvL.nil))) (.cons (.cons (.cons (.cons (.cons (.cons .nil)))))) (fun v8 t7 => (Bk.assignComp1' [("raised", .sh a_raised), ("things", .sh a_things)] (It.list (Ev.var rfl)) (fun v10 => TstL.nil) (fun v10 => (Ev.item (Ev.var rfl) (Ev.index (Ev.var rfl) (Ev.var rfl)))) (fun u9 => (Bk.ifte (fun (t11 : Unit) => [("row", .sh u9), ("fixed", .sh u1), ("things", .sh a_things), ("raised", .sh a_raised), ("k", .sh a_k), ("p", .sh a_p), ("turn", .sh v8)]) (Tst.cmp cmp_ne (Ev.cmp cmp_eq (Ev.var rfl) (Ev.var rfl)) (Ev.cmp cmp_eq (Ev.var rfl) (Ev.var rfl))) (Bk.ret Ev.boolc) (Bk.nil (.cons (.cons (.cons (.cons (.cons (.cons (.cons .nil)))))))) fun t11 => (Bk.nil (.cons (.cons (.cons (.cons (.cons (.cons .nil))))))))) (.cons (.cons .nil)) (by rintro ⟨⟩ rfl; rfl))) fun t7 => (Bk.ret Ev.boolc))))) .nil (by rintro ⟨⟩ rfl; rfl))
  · exact Bk.nothing
theorem c_law_ways_right (C : Cx) (hC : C.defs = fun x => dlist.lookup x) : CallD C 1 (recAt 45) m_law_ways_right := by
  refine CallD.mk ["things", "raised", "k", "p"] (b_law_ways_right C hC) fun vs ws h M hv hr pm cd doc => ?_
  unfold g_law_ways_right at hv
  split at hv
  · obtain ⟨w0, w1, w2, w3, rfl⟩ := repLn4 hr
    rfl
  · exact absurd rfl hv

/-! text MG4 -/
theorem df_law : dlist.lookup ("law" : Str) = some (recAt 46) := by rw [dl]; kernel_rfl
abbrev lawSc : Scope := (recAt 46).scope
abbrev midBody : List Stmt := ((recAt 46).body.drop 2).take 6
abbrev tailBody : List Stmt := (recAt 46).body.drop 9
def mid (a_p a_k : Val) : Option (Out (Val × Val × Val × Val × Val)) := ((((some a_p).bind fun v => ((some a_k).bind fun v => (some []).bind fun l => some (v :: l)).bind fun l => some (v :: l)).bind m_first_prime_poly).bind fun u1 => ((((some u1).bind fun v => ((some a_p).bind fun v => (some []).bind fun l => some (v :: l)).bind fun l => some (v :: l)).bind m_gf_things).bind fun u2 => (((((some u2).bind itemsO).bind fun vs => compL (fun v4 => (some true)) (fun v4 => (((some v4).bind fun v => ((some a_p).bind fun v => ((some u1).bind fun v => ((some a_p).bind fun v => (some []).bind fun l => some (v :: l)).bind fun l => some (v :: l)).bind fun l => some (v :: l)).bind fun l => some (v :: l)).bind m_gf_power)) vs).bind fun l => some (.list l)).bind fun u3 => (((((some u2).bind itemsO).bind fun vs => compL (fun v10 => (some true)) (fun v10 => (((some v10).bind fun v => ((some u1).bind fun v => ((some a_p).bind fun v => (some []).bind fun l => some (v :: l)).bind fun l => some (v :: l)).bind fun l => some (v :: l)).bind m_gf_trace)) vs).bind fun l => some (.list l)).bind fun u5 => ((((some u2).bind itemsO).bind fun vs => compL (fun v11 => (some true)) (fun v11 => (((some v11).bind fun v => ((some u1).bind fun v => ((some a_p).bind fun v => (some []).bind fun l => some (v :: l)).bind fun l => some (v :: l)).bind fun l => some (v :: l)).bind m_gf_norm)) vs).bind fun l => some (.list l)).bind fun u6 => (seqO ((((some u3).bind fun x => ((((some u2).bind itemsO).bind fun vs => compL (fun v8 => (some true)) (fun v8 => (((some v8).bind fun v => ((some u1).bind fun v => ((some a_p).bind fun v => (some []).bind fun l => some (v :: l)).bind fun l => some (v :: l)).bind fun l => some (v :: l)).bind m_law_raised)) vs).bind fun l => some (.list l)).bind fun y => neO x y).bind fun x => if x then some true else (((((some u2).bind fun v => ((some u3).bind fun v => ((some a_k).bind fun v => ((some a_p).bind fun v => (some []).bind fun l => some (v :: l)).bind fun l => some (v :: l)).bind fun l => some (v :: l)).bind fun l => some (v :: l)).bind m_law_ways_right).bind boolO).bind fun x => some (!x))).bind fun b => if b then ((some (.bool false)).bind fun v => some (.ret v)) else some (.cont ())) fun (t7 : Unit) => (seqO (((((((some u2).bind fun v => ((some u5).bind fun v => ((some u6).bind fun v => ((some a_p).bind fun v => (some []).bind fun l => some (v :: l)).bind fun l => some (v :: l)).bind fun l => some (v :: l)).bind fun l => some (v :: l)).bind m_law_counts_right).bind boolO).bind fun x => some (!x)).bind fun x => if x then some true else (((((some u2).bind fun v => ((some u3).bind fun v => ((some u5).bind fun v => ((some u6).bind fun v => ((some a_p).bind fun v => ((some u1).bind fun v => (some []).bind fun l => some (v :: l)).bind fun l => some (v :: l)).bind fun l => some (v :: l)).bind fun l => some (v :: l)).bind fun l => some (v :: l)).bind fun l => some (v :: l)).bind m_law_images_right).bind boolO).bind fun x => some (!x))).bind fun b => if b then ((some (.bool false)).bind fun v => some (.ret v)) else some (.cont ())) fun (t9 : Unit) => some (.cont (u1, u2, u3, u5, u6))))))))
def embMid (w : Value) (a_p a_k : Val) (t : Val × Val × Val × Val × Val) : Lc := [("m", .sh t.1), ("things", .sh t.2.1), ("raised", .sh t.2.2.1), ("traces", .sh t.2.2.2.1), ("norms", .sh t.2.2.2.2), ("k", .sh a_k), ("p", .sh a_p), ("box", .raw w)]
theorem b_mid (C : Cx) (hC : C.defs = fun x => dlist.lookup x) (w : Value) (a_p a_k : Val) : Bk C 9 lawSc [("k", .sh a_k), ("p", .sh a_p), ("box", .raw w)] midBody (embMid w a_p a_k) (mid a_p a_k) := by
  unfold mid
  exact (Bk.assign (hx := .inr ⟨rfl, by decide⟩) (Ev.callD ((c_first_prime_poly C hC).more (by decide)) (df_of hC df_first_prime_poly) (EvL.cons (Ev.var rfl) (EvL.cons (Ev.var rfl) EvL.nil))) fun u1 => (Bk.assign (Ev.callD ((c_gf_things C hC).more (by decide)) (df_of hC df_gf_things) (EvL.cons (Ev.var rfl) (EvL.cons (Ev.var rfl) EvL.nil))) fun u2 => (Bk.assignComp1' [("p", .sh a_p), ("m", .sh u1)] (It.list (Ev.var rfl)) (fun v4 => TstL.nil) (fun v4 => (Ev.callD ((c_gf_power C hC).more (by decide)) (df_of hC df_gf_power) (EvL.cons (Ev.var rfl) (EvL.cons (Ev.var rfl) (EvL.cons (Ev.var rfl) (EvL.cons (Ev.var rfl) EvL.nil)))))) (fun u3 => (Bk.assign2 (EvN.sh (EvN.comp1 [("m", .sh u1), ("p", .sh a_p)] (It.list (Ev.var rfl)) (fun v10 => TstL.nil) (fun v10 => (Ev.callD ((c_gf_trace C hC).more (by decide)) (df_of hC df_gf_trace) (EvL.cons (Ev.var rfl) (EvL.cons (Ev.var rfl) (EvL.cons (Ev.var rfl) EvL.nil))))) (.cons (.cons .nil)))) (EvN.sh (EvN.comp1 [("m", .sh u1), ("p", .sh a_p)] (It.list (Ev.var rfl)) (fun v11 => TstL.nil) (fun v11 => (Ev.callD ((c_gf_norm C hC).more (by decide)) (df_of hC df_gf_norm) (EvL.cons (Ev.var rfl) (EvL.cons (Ev.var rfl) (EvL.cons (Ev.var rfl) EvL.nil))))) (.cons (.cons .nil)))) (fun u5 u6 => (Bk.ifte (fun (t7 : Unit) => [("traces", .sh u5), ("norms", .sh u6), ("raised", .sh u3), ("things", .sh u2), ("m", .sh u1), ("k", .sh a_k), ("p", .sh a_p), ("box", .raw w)]) (Tst.or (Tst.cmp cmp_ne (Ev.var rfl) (EvN.sh (EvN.comp1 [("m", .sh u1), ("p", .sh a_p)] (It.list (Ev.var rfl)) (fun v8 => TstL.nil) (fun v8 => (Ev.callD ((c_law_raised C hC).more (by decide)) (df_of hC df_law_raised) (EvL.cons (Ev.var rfl) (EvL.cons (Ev.var rfl) (EvL.cons (Ev.var rfl) EvL.nil))))) (.cons (.cons .nil))))) (Tst.not (Tst.call (Ev.callD ((c_law_ways_right C hC).more (by decide)) (df_of hC df_law_ways_right) (EvL.cons (Ev.var rfl) (EvL.cons (Ev.var rfl) (EvL.cons (Ev.var rfl) (EvL.cons (Ev.var rfl) EvL.nil)))))))) (Bk.ret Ev.boolc) (Bk.nil (.cons (.cons (.cons (.cons (.cons (.cons (.cons (.cons .nil))))))))) fun t7 => (Bk.ifte (fun (t9 : Unit) => [("traces", .sh u5), ("norms", .sh u6), ("raised", .sh u3), ("things", .sh u2), ("m", .sh u1), ("k", .sh a_k), ("p", .sh a_p), ("box", .raw w)]) (Tst.or (Tst.not (Tst.call (Ev.callD ((c_law_counts_right C hC).more (by decide)) (df_of hC df_law_counts_right) (EvL.cons (Ev.var rfl) (EvL.cons (Ev.var rfl) (EvL.cons (Ev.var rfl) (EvL.cons (Ev.var rfl) EvL.nil))))))) (Tst.not (Tst.call (Ev.callD ((c_law_images_right C hC).more (by decide)) (df_of hC df_law_images_right) (EvL.cons (Ev.var rfl) (EvL.cons (Ev.var rfl) (EvL.cons (Ev.var rfl) (EvL.cons (Ev.var rfl) (EvL.cons (Ev.var rfl) (EvL.cons (Ev.var rfl) EvL.nil)))))))))) (Bk.ret Ev.boolc) (Bk.nil (.cons (.cons (.cons (.cons (.cons (.cons (.cons (.cons .nil))))))))) fun t9 => (Bk.nil (.cons (.cons (.cons (.cons (.cons (.cons (.cons (.cons .nil)))))))))))) (by rintro ⟨⟩ rfl; rfl))) (.cons (.cons .nil)) (by rintro ⟨⟩ rfl; rfl))))
def tailO (a_c a_number a_m a_things a_raised a_traces a_norms a_k a_p : Val) : Option (Out Unit) := (((some a_things).bind fun x => (some a_c).bind fun y => indexO x y).bind fun u12 => (seqO (((((some a_traces).bind fun x => ((some a_things).bind fun x => ((some a_raised).bind fun x => (some u12).bind fun y => itemO x y).bind fun y => indexO x y).bind fun y => itemO x y).bind fun x => ((some a_traces).bind fun x => (some u12).bind fun y => itemO x y).bind fun y => neO x y).bind fun x => if x then some true else (((some a_norms).bind fun x => ((some a_things).bind fun x => ((some a_raised).bind fun x => (some u12).bind fun y => itemO x y).bind fun y => indexO x y).bind fun y => itemO x y).bind fun x => ((some a_norms).bind fun x => (some u12).bind fun y => itemO x y).bind fun y => neO x y)).bind fun b => if b then ((some (.bool false)).bind fun v => some (.ret v)) else some (.cont ())) fun (t13 : Unit) => ((((some a_things).bind fun v => (some []).bind fun l => some (v :: l)).bind enumO).bind fun vs => seqO (loopO (tupF2 (fun (v15 v16 : Val) (t14 : Unit) => (seqO ((((some a_traces).bind fun x => ((some a_things).bind fun x => (((some v16).bind fun v => ((some a_c).bind fun v => ((some a_p).bind fun v => (some []).bind fun l => some (v :: l)).bind fun l => some (v :: l)).bind fun l => some (v :: l)).bind m_law_plus).bind fun y => indexO x y).bind fun y => itemO x y).bind fun x => ((((some a_traces).bind fun x => (some v15).bind fun y => itemO x y).bind fun x => ((some a_traces).bind fun x => (some u12).bind fun y => itemO x y).bind fun y => addO x y).bind fun x => (some a_p).bind fun y => modO x y).bind fun y => neO x y).bind fun b => if b then ((some (.bool false)).bind fun v => some (.ret v)) else some (.cont ())) fun (t17 : Unit) => (seqO ((((some a_norms).bind fun x => ((some a_things).bind fun x => (((some v16).bind fun v => ((some a_c).bind fun v => ((some a_m).bind fun v => ((some a_p).bind fun v => (some []).bind fun l => some (v :: l)).bind fun l => some (v :: l)).bind fun l => some (v :: l)).bind fun l => some (v :: l)).bind m_law_times).bind fun y => indexO x y).bind fun y => itemO x y).bind fun x => ((((some a_norms).bind fun x => (some v15).bind fun y => itemO x y).bind fun x => ((some a_norms).bind fun x => (some u12).bind fun y => itemO x y).bind fun y => mulO x y).bind fun x => (some a_p).bind fun y => modO x y).bind fun y => neO x y).bind fun b => if b then ((some (.bool false)).bind fun v => some (.ret v)) else some (.cont ())) fun (t18 : Unit) => (seqO ((((some a_traces).bind fun x => ((some a_things).bind fun x => (((some v16).bind fun v => (((((((some a_number).bind fun v => (some []).bind fun l => some (v :: l)).bind fun l => if Nat.ble l.length 16777216 then some l else none).bind fun l => some (.list l)).bind fun v => (some []).bind fun l => some (v :: l)).bind m_law_cut).bind fun v => ((some a_m).bind fun v => ((some a_p).bind fun v => (some []).bind fun l => some (v :: l)).bind fun l => some (v :: l)).bind fun l => some (v :: l)).bind fun l => some (v :: l)).bind m_law_times).bind fun y => indexO x y).bind fun y => itemO x y).bind fun x => ((((some a_traces).bind fun x => (some v15).bind fun y => itemO x y).bind fun x => (some a_number).bind fun y => mulO x y).bind fun x => (some a_p).bind fun y => modO x y).bind fun y => neO x y).bind fun b => if b then ((some (.bool false)).bind fun v => some (.ret v)) else some (.cont ())) fun (t19 : Unit) => some (.cont ())))))) vs ()) fun (t14 : Unit) => ((((some a_norms).bind fun x => ((some a_things).bind fun x => ((((((some a_number).bind fun v => (some []).bind fun l => some (v :: l)).bind fun l => if Nat.ble l.length 16777216 then some l else none).bind fun l => some (.list l)).bind fun v => (some []).bind fun l => some (v :: l)).bind m_law_cut).bind fun y => indexO x y).bind fun y => itemO x y).bind fun x => (((some a_number).bind fun x => (some a_k).bind fun y => powO x y).bind fun x => (some a_p).bind fun y => modO x y).bind fun y => (eqO x y).bind fun c => some (.bool c)).bind fun v => some (.ret v)))))
theorem b_tail (C : Cx) (hC : C.defs = fun x => dlist.lookup x) (a_c a_number a_m a_things a_raised a_traces a_norms a_k a_p : Val) : Bk C 9 lawSc [("number", .sh a_number), ("c", .sh a_c), ("m", .sh a_m), ("things", .sh a_things), ("raised", .sh a_raised), ("traces", .sh a_traces), ("norms", .sh a_norms), ("k", .sh a_k), ("p", .sh a_p)] tailBody emb0 (tailO a_c a_number a_m a_things a_raised a_traces a_norms a_k a_p) := by
  unfold tailO
  exact (Bk.assign (Ev.index (Ev.var rfl) (Ev.var rfl)) fun u12 => (Bk.ifte (fun (t13 : Unit) => [("at", .sh u12), ("number", .sh a_number), ("c", .sh a_c), ("m", .sh a_m), ("things", .sh a_things), ("raised", .sh a_raised), ("traces", .sh a_traces), ("norms", .sh a_norms), ("k", .sh a_k), ("p", .sh a_p)]) (Tst.or (Tst.cmp cmp_ne (Ev.item (Ev.var rfl) (Ev.index (Ev.var rfl) (Ev.item (Ev.var rfl) (Ev.var rfl)))) (Ev.item (Ev.var rfl) (Ev.var rfl))) (Tst.cmp cmp_ne (Ev.item (Ev.var rfl) (Ev.index (Ev.var rfl) (Ev.item (Ev.var rfl) (Ev.var rfl)))) (Ev.item (Ev.var rfl) (Ev.var rfl)))) (Bk.ret Ev.boolc) (Bk.nil (.cons (.cons (.cons (.cons (.cons (.cons (.cons (.cons (.cons (.cons .nil))))))))))) fun t13 => (Bk.for2 (fun (t14 : Unit) => [("at", .sh u12), ("number", .sh a_number), ("c", .sh a_c), ("m", .sh a_m), ("things", .sh a_things), ("raised", .sh a_raised), ("traces", .sh a_traces), ("norms", .sh a_norms), ("k", .sh a_k), ("p", .sh a_p)]) (x0 := ()) (ItT.enumerate (EvL.cons (Ev.var rfl) EvL.nil)) (.cons (.cons (.cons (.cons (.cons (.cons (.cons (.cons (.cons (.cons .nil)))))))))) (fun v15 v16 t14 => (Bk.ifte (fun (t17 : Unit) => [("at", .sh u12), ("number", .sh a_number), ("c", .sh a_c), ("m", .sh a_m), ("things", .sh a_things), ("raised", .sh a_raised), ("traces", .sh a_traces), ("norms", .sh a_norms), ("k", .sh a_k), ("p", .sh a_p), ("spot", .sh v15), ("b", .sh v16)]) (Tst.cmp cmp_ne (Ev.item (Ev.var rfl) (Ev.index (Ev.var rfl) (Ev.callD ((c_law_plus C hC).more (by decide)) (df_of hC df_law_plus) (EvL.cons (Ev.var rfl) (EvL.cons (Ev.var rfl) (EvL.cons (Ev.var rfl) EvL.nil)))))) (Ev.bin bin_mod (Ev.bin bin_add (Ev.item (Ev.var rfl) (Ev.var rfl)) (Ev.item (Ev.var rfl) (Ev.var rfl))) (Ev.var rfl))) (Bk.ret Ev.boolc) (Bk.nil (.cons (.cons (.cons (.cons (.cons (.cons (.cons (.cons (.cons (.cons (.cons (.cons .nil))))))))))))) fun t17 => (Bk.ifte (fun (t18 : Unit) => [("at", .sh u12), ("number", .sh a_number), ("c", .sh a_c), ("m", .sh a_m), ("things", .sh a_things), ("raised", .sh a_raised), ("traces", .sh a_traces), ("norms", .sh a_norms), ("k", .sh a_k), ("p", .sh a_p), ("spot", .sh v15), ("b", .sh v16)]) (Tst.cmp cmp_ne (Ev.item (Ev.var rfl) (Ev.index (Ev.var rfl) (Ev.callD ((c_law_times C hC).more (by decide)) (df_of hC df_law_times) (EvL.cons (Ev.var rfl) (EvL.cons (Ev.var rfl) (EvL.cons (Ev.var rfl) (EvL.cons (Ev.var rfl) EvL.nil))))))) (Ev.bin bin_mod (Ev.bin bin_mul (Ev.item (Ev.var rfl) (Ev.var rfl)) (Ev.item (Ev.var rfl) (Ev.var rfl))) (Ev.var rfl))) (Bk.ret Ev.boolc) (Bk.nil (.cons (.cons (.cons (.cons (.cons (.cons (.cons (.cons (.cons (.cons (.cons (.cons .nil))))))))))))) fun t18 => (Bk.ifte (fun (t19 : Unit) => [("at", .sh u12), ("number", .sh a_number), ("c", .sh a_c), ("m", .sh a_m), ("things", .sh a_things), ("raised", .sh a_raised), ("traces", .sh a_traces), ("norms", .sh a_norms), ("k", .sh a_k), ("p", .sh a_p), ("spot", .sh v15), ("b", .sh v16)]) (Tst.cmp cmp_ne (Ev.item (Ev.var rfl) (Ev.index (Ev.var rfl) (Ev.callD ((c_law_times C hC).more (by decide)) (df_of hC df_law_times) (EvL.cons (Ev.var rfl) (EvL.cons (Ev.callD ((c_law_cut C hC).more (by decide)) (df_of hC df_law_cut) (EvL.cons (EvN.sh (EvN.list (EvL.cons (Ev.var rfl) EvL.nil))) EvL.nil)) (EvL.cons (Ev.var rfl) (EvL.cons (Ev.var rfl) EvL.nil))))))) (Ev.bin bin_mod (Ev.bin bin_mul (Ev.item (Ev.var rfl) (Ev.var rfl)) (Ev.var rfl)) (Ev.var rfl))) (Bk.ret Ev.boolc) (Bk.nil (.cons (.cons (.cons (.cons (.cons (.cons (.cons (.cons (.cons (.cons (.cons (.cons .nil))))))))))))) fun t19 => (Bk.nil (.cons (.cons (.cons (.cons (.cons (.cons (.cons (.cons (.cons (.cons .nil))))))))))))))) fun t14 => (Bk.ret (Ev.cmp cmp_eq (Ev.item (Ev.var rfl) (Ev.index (Ev.var rfl) (Ev.callD ((c_law_cut C hC).more (by decide)) (df_of hC df_law_cut) (EvL.cons (EvN.sh (EvN.list (EvL.cons (Ev.var rfl) EvL.nil))) EvL.nil)))) (Ev.bin bin_mod (Ev.bin bin_pow (Ev.var rfl) (Ev.var rfl)) (Ev.var rfl)))))))

/-! text MT1 -/
/-! the box: a list that holds a list of ints and an int -/
structure BoxAt (h : Heap) (b l : Addr) (xs : List Int) (n : Int) : Prop where
  out : ∃ t, h.PlainList b (List.toArray [.ref l, .int n t])
  inn : ∃ ws, h.PlainList l (List.toArray ws) ∧ RepL h (fun _ => False) (xs.map Val.int) ws
  ne : b ≠ l
  small : xs.length ≤ 16777216

theorem allInt_map : ∀ xs : List Int, allInt (xs.map Val.int) = true
  | [] => rfl
  | _ :: r => allInt_map r

theorem BoxAt.keeps {h h' : Heap} {b l : Addr} {xs : List Int} {n : Int} (B : BoxAt h b l xs n) (k : ∀ a o, h.get? a = some o → h'.get? a = some o) : BoxAt h' b l xs n where
  out := by obtain ⟨t, q⟩ := B.out; exact ⟨t, isList_agree q (k _)⟩
  inn := by obtain ⟨ws, q, r⟩ := B.inn; exact ⟨ws, isList_agree q (k _), r.keep k⟩
  ne := B.ne
  small := B.small

theorem BoxAt.rep {h : Heap} {b l : Addr} {xs : List Int} {n : Int} {M : Addr → Prop} (B : BoxAt h b l xs n) (hb : ¬ M b) (hl : ¬ M l) : Rep h M (.list [.list (xs.map .int), .int n]) (.ref b) := by
  obtain ⟨t, q⟩ := B.out
  obtain ⟨ws, q', r⟩ := B.inn
  simp only [Rep, RepL]
  exact ⟨b, _, rfl, hb, q, _, _, rfl, ⟨l, ws, rfl, hl, q', r.ints (allInt_map xs)⟩, _, _, rfl, ⟨t, rfl⟩, rfl⟩

def takeR (xs : List Int) (n many : Int) : Int := match xs with
  | [] => (7 * (n + 1) + (n + 1).fdiv 3).fmod many
  | x :: _ => x.fmod many

abbrev takeLc (xs : List Int) (n many : Int) : Lc := [("box", .sh (.list [.list (xs.map .int), .int n])), ("many", .sh (.int many))]

theorem take_sat {C : Cx} {h₀ h : Heap} {b l : Addr} {xs : List Int} {n many : Int} {t : Tok} {env : Env} {m : Str → Option Value} (T : TopOK C h₀) (kp : ∀ x o, h₀.get? x = some o → h.get? x = some o)
    (hg : env.globals = mainGlobals) (hbi : env.builtins = builtinsNs) (hkd : env.scope.kind = .function) (hns : h.Ns env.locals m) (kb : env.kindOf "box" = some .local) (km : env.kindOf "many" = some .local)
    (h1 : m "box" = some (.ref b)) (h2 : m "many" = some (.int many t)) (B : BoxAt h b l xs n) : Sat C (fun x => x = env.locals) (fun _ => 0) env (takeLc xs n many) h where
  top := T.keeps kp
  gl := hg
  bi := hbi
  kd := hkd
  live := fun a e => by subst e; obtain ⟨o, _, _, e, _⟩ := hns; exact ⟨o, e⟩
  vars := fun x sl e => by
    have hb : ¬ b = env.locals := fun e => by obtain ⟨t, q⟩ := B.out; exact ns_ne_list hns q e.symm
    have hl : ¬ l = env.locals := fun e => by obtain ⟨ws, q, _⟩ := B.inn; exact ns_ne_list hns q e.symm
    by_cases hx : x = "box"
    · subst hx
      rw [lookup_cons_self] at e; cases e
      exact ⟨_, .inl ⟨kb, m, hns, h1⟩, B.rep hb hl⟩
    · rw [lookup_cons_ne hx] at e
      by_cases hx : x = "many"
      · subst hx
        rw [lookup_cons_self] at e; cases e
        exact ⟨.int many t, .inl ⟨km, m, hns, h2⟩, (rep_int : Rep h (fun x => x = env.locals) (.int many) (.int many t))⟩
      · rw [lookup_cons_ne hx] at e
        cases e

theorem pop0 {prog : Program} {w : World} {A : Around} {E : Value → Shared → Prop} {s : Shared} {l : Addr} {y : Value} {ws : List Value} {u : Tok} {Q : Value → Shared → Prop} (hl : s.heap.PlainList l (List.toArray (y :: ws))) (hz : (y :: ws).length ≤ sizeLine)
    (h : ∀ h', Heap.SameBut l s.heap h' → h'.PlainList l (List.toArray ws) → Q y { s with heap := h' }) : wpAny (model prog w) A (call (.builtin "list.pop") [.ref l, .int 0 u]) Q E s := by
  obtain ⟨k, ho⟩ := id hl
  have hz' : (y :: ws).toArray.size ≤ sizeLine := by rw [List.size_toArray]; exact hz
  refine call_meets PySem.F.slot_list_pop ⟨_, ho, rfl⟩ PySem.F.entry_list_pop (PySem.F.args_list_pop_2 _ _) (PySem.MeetsSeq.list_pop_at l _ k 0 u 0 y rfl (by simp [seqIndex?]) (by simp) hz') ⟨ho, h _ (Heap.SameBut.update ..) ?_⟩
  have q := PySem.IsL.update ho (fun xs => xs.eraseIdxIfInBounds 0)
  have e : (List.toArray (y :: ws)).eraseIdxIfInBounds 0 = List.toArray ws := kl_erase [] ws y
  rw [e] at q
  exact ⟨_, q⟩

theorem df_law_take : dlist.lookup ("_law_take" : Str) = some (recAt 38) := by rw [dl]; kernel_rfl

/-! text MT2 -/
theorem BoxAt.sameBut {h h' : Heap} {b l a : Addr} {xs : List Int} {n : Int} (B : BoxAt h b l xs n) (hs : Heap.SameBut a h h') (hb : b ≠ a) (hl : l ≠ a) : BoxAt h' b l xs n where
  out := by obtain ⟨t, q⟩ := B.out; exact ⟨t, isList_same q hs hb⟩
  inn := by obtain ⟨ws, q, r⟩ := B.inn; exact ⟨ws, isList_same q hs hl, r.ints (allInt_map xs)⟩
  ne := B.ne
  small := B.small

def Same (s s' : Shared) : Prop := ∃ h tk, s' = { s with heap := h, toks := tk }
theorem Same.refl (s : Shared) : Same s s := ⟨s.heap, s.toks, rfl⟩
theorem Same.trans {s s' s'' : Shared} (a : Same s s') (b : Same s' s'') : Same s s'' := by
  obtain ⟨h, t, rfl⟩ := a
  obtain ⟨h', t', rfl⟩ := b
  exact ⟨h', t', rfl⟩
theorem Same.keeps {s s' : Shared} (k : Keeps s s') : Same s s' := by obtain ⟨h, t, e, _⟩ := k; exact ⟨h, t, e⟩
theorem Same.heap (s : Shared) (h : Heap) : Same s { s with heap := h } := ⟨h, s.toks, rfl⟩

theorem okDs_ints (n : Nat) : ∀ xs : List Int, okDs n (xs.map Val.int) = true
  | [] => by cases n <;> rfl
  | x :: r => by cases n <;> simp [okDs, okD, okDs_ints _ r]
theorem neO_ints (x : Int) (r : List Int) : neO (.list ((x :: r).map .int)) (.list []) = some true := by
  have h := okDs_ints 7 (x :: r)
  show (if okDs 7 ((x :: r).map Val.int) && okDs 7 [] then some (!eqVs ((x :: r).map Val.int) []) else none) = some true
  rw [h]
  rfl
section
variable {C : Cx} {xs : List Int} {n many : Int} {pos p0 p1 p2 p3 p4 p5 p6 p7 q0 q1 q2 q3 : Pos}
theorem tk_item1 : Ev C 1 (recAt 38).scope (takeLc xs n many) (.Subscript (.Name "box" p0) (.Constant (.int 1) 0 p1) pos) (some (.int n)) :=
  Ev.item (ρ := takeLc xs n many) (pos := pos) (Ev.var (x := "box") (pos := p0) rfl) (Ev.intC (i := 1) (k := 0) (pos := p1))
theorem tk_item0 : Ev C 1 (recAt 38).scope (takeLc xs n many) (.Subscript (.Name "box" p0) (.Constant (.int 0) 0 p1) pos) (some (.list (xs.map .int))) :=
  Ev.item (ρ := takeLc xs n many) (pos := pos) (Ev.var (x := "box") (pos := p0) rfl) (Ev.intC (i := 0) (k := 0) (pos := p1))
theorem tk_many : Ev C 1 (recAt 38).scope (takeLc xs n many) (.Name "many" p0) (some (.int many)) := Ev.var (x := "many") (ρ := takeLc xs n many) (pos := p0) rfl
theorem tk_add : Ev C 1 (recAt 38).scope (takeLc xs n many) (.BinOp (.Subscript (.Name "box" p0) (.Constant (.int 1) 0 p1) p2) .Add (.Constant (.int 1) 0 p3) pos) (some (.int (n + 1))) :=
  Ev.bin (pos := pos) bin_add (tk_item1 (pos := p2) (p0 := p0) (p1 := p1)) (Ev.intC (i := 1) (k := 0) (pos := p3))
theorem tk_ne : Tst C 1 (recAt 38).scope (takeLc xs n many) (.Compare (.Subscript (.Name "box" p0) (.Constant (.int 0) 0 p1) p2) [.NotEq] [.List [] p3] pos) (neO (.list (xs.map .int)) (.list [])) :=
  Tst.cmp (pos := pos) cmp_ne (tk_item0 (pos := p2) (p0 := p0) (p1 := p1)) (EvN.sh (EvN.list (pos := p3) EvL.nil))
theorem tk_res : Ev C 1 (recAt 38).scope (takeLc xs n many) (.BinOp (.BinOp (.BinOp (.Constant (.int 7) 0 p0) .Mult (.Subscript (.Name "box" p1) (.Constant (.int 1) 0 p2) p3) p4) .Add
        (.BinOp (.Subscript (.Name "box" q1) (.Constant (.int 1) 0 q2) q3) .FloorDiv (.Constant (.int 3) 0 p5) p6) p7) .Mod (.Name "many" q0) pos)
        (modO (.int (7 * n + n.fdiv 3)) (.int many)) :=
  Ev.bin (pos := pos) bin_mod (Ev.bin (pos := p7) bin_add (Ev.bin (pos := p4) bin_mul (Ev.intC (i := 7) (k := 0) (pos := p0)) (tk_item1 (pos := p3) (p0 := p1) (p1 := p2))) (Ev.bin (pos := p6) bin_div (tk_item1 (pos := q3) (p0 := q1) (p1 := q2)) (Ev.intC (i := 3) (k := 0) (pos := p5)))) (tk_many (p0 := q0))
end

theorem take_call {C : Cx} {A : Around} {s : Shared} {h₀ : Heap} {a b l : Addr} {xs : List Int} {n many : Int} {t : Tok} {Q E : Value → Shared → Prop} (ro : Room A 2) (T : TopOK C h₀)
    (kp : ∀ x o, h₀.get? x = some o → s.heap.get? x = some o) (hb : h₀.get? b = none) (hl : h₀.get? l = none) (hfn : FnAt C s.heap (recAt 38) a) (B : BoxAt s.heap b l xs n) (hm : many ≠ 0)
    (hQ : ∀ u s', (∃ h tk, s' = { s with heap := h, toks := tk }) → (∀ x o, x ≠ b → x ≠ l → s.heap.get? x = some o → s'.heap.get? x = some o) → BoxAt s'.heap b l xs.tail (n + 1) → Q (.int (takeR xs n many) u) s') :
    wpAny (model C.prog C.w) A (call (.ref a) [.ref b, .int many t]) Q E s := by
  obtain ⟨o, pm, cd, doc, ho, hod, hcr⟩ := hfn.obj
  have TS := T.keeps kp
  refine wpAny_call (call_cells (binds := [("box", .ref b), ("many", .int many t)]) (by have := ro.dep; omega) ho hod TS.lim hcr rfl (names_kind (xs := ["box", "many"]) (ws := [.ref b, .int many t]) rfl) (fun h₁ tk F X => ?_) rfl rfl rfl)
  have ro1 : Room (A.deeper (envOfC (recAt 38).name (recAt 38).scope s.heap.objs.size a cd)) 1 := ro.deeper _
  have hns := F.ns
  generalize hE : envOfC (recAt 38).name (recAt 38).scope s.heap.objs.size a cd = env at *
  have hsc : env.scope = (recAt 38).scope := by rw [← hE]; rfl
  have hloc : env.locals = s.heap.objs.size := by rw [← hE]; rfl
  have hg : env.globals = mainGlobals := by rw [← hE]; rfl
  have hbi : env.builtins = builtinsNs := by rw [← hE]; rfl
  have hkd : env.scope.kind = .function := by rw [hsc]; rfl
  have kb : env.kindOf "box" = some .local := by rw [← hE]; rfl
  have km : env.kindOf "many" = some .local := by rw [← hE]; rfl
  rw [← hloc] at hns
  have h1 : bindL env.kindOf [("box", Value.ref b), ("many", .int many t)] (fun _ => none) "box" = some (.ref b) := by
    unfold bindL; rw [if_pos kb]; unfold bindL; rw [if_pos km]; rfl
  have h2 : bindL env.kindOf [("box", Value.ref b), ("many", .int many t)] (fun _ => none) "many" = some (.int many t) := by
    unfold bindL; rw [if_pos kb]; unfold bindL; rw [if_pos km]; rfl
  generalize bindL env.kindOf [("box", Value.ref b), ("many", .int many t)] (fun _ => none) = m at h1 h2 hns
  have B1 : BoxAt h₁ b l xs n := B.keeps F.keep
  have kp1 : ∀ x o, h₀.get? x = some o → h₁.get? x = some o := fun x o e => F.keep x o (kp x o e)
  have nb : ∀ {h : Heap} {xs n}, BoxAt h b l xs n → h.Ns env.locals m → b ≠ env.locals ∧ l ≠ env.locals := fun B hns =>
    ⟨fun e => by obtain ⟨t, q⟩ := B.out; exact ns_ne_list hns q e.symm, fun e => by obtain ⟨ws, q, _⟩ := B.inn; exact ns_ne_list hns q e.symm⟩
  have n0 : ∀ x o, h₀.get? x = some o → x ≠ b ∧ x ≠ l := fun x o e => ⟨fun h => (by subst h; rw [hb] at e; cases e), fun h => (by subst h; rw [hl] at e; cases e)⟩
  -- the store
  have S1 := take_sat (C := C) (t := t) T kp1 hg hbi hkd hns kb km h1 h2 B1
  generalize hs1 : ({ heap := h₁, gens := s.gens, drawn := s.drawn, toks := tk, os := s.os } : Shared) = s1
  have hh1 : s1.heap = h₁ := by rw [← hs1]
  have same1 : ∃ h tk, s1 = { s with heap := h, toks := tk } := ⟨h₁, tk, hs1.symm⟩
  subst hh1
  refine wpAny_execs_cons (wpAny_Assign_Subscript (tk_add _ rfl _ env _ _ s1 _ _ ro1 hsc S1 fun w s2 k2 q2 => ?_) rfl)
  simp only [Rep] at q2
  obtain ⟨u, rfl⟩ := q2
  have B2 := B1.keeps (kh k2)
  have hns2 := hns.keeps (kh k2)
  obtain ⟨t0, o1⟩ := B2.out
  refine wpAny_Name (wpAny_loadName_local hkd kb hns2 h1 ?_) (by decide)
  refine (Ev.intC (C := C) (n := 1) (sc := (recAt 38).scope) (ρ := takeLc xs n many)) _ rfl _ env _ _ s2 _ _ ro1 hsc (S1.keeps (kh k2)) fun wj s2' k2' qj => ?_
  simp only [Rep] at qj
  obtain ⟨uj, rfl⟩ := qj
  have o1 := isList_agree o1 (kh k2' _)
  have B2 := B2.keeps (kh k2')
  have hns2 := hns2.keeps (kh k2')
  have k2 := kt k2 k2'
  clear k2'
  obtain ⟨k, o1'⟩ := id o1
  refine ki_setAt (k := 1) o1' (by decide) (by decide) (by show (1 : Int) < ((2 : Nat) : Int); decide) ?_
  have so : Heap.SameBut b s2'.heap (s2'.heap.update b (Obj.mapSeq (·.setIfInBounds (1 : Int).toNat (.int (n + 1) u)))) := Heap.SameBut.update ..
  have lo : (s2'.heap.update b (Obj.mapSeq (·.setIfInBounds (1 : Int).toNat (.int (n + 1) u)))).PlainList b (List.toArray [.ref l, .int (n + 1) u]) := ⟨_, PySem.IsL.update o1' (·.setIfInBounds (1 : Int).toNat (.int (n + 1) u))⟩
  generalize s2'.heap.update b (Obj.mapSeq (·.setIfInBounds (1 : Int).toNat (.int (n + 1) u))) = h3 at so lo
  have B3 : BoxAt h3 b l xs (n + 1) := by
    refine ⟨⟨u, lo⟩, ?_, B2.ne, B2.small⟩
    obtain ⟨ws, q, r⟩ := B2.inn
    exact ⟨ws, isList_same q so (fun e => B2.ne e.symm), r.ints (allInt_map xs)⟩
  have hns3 : h3.Ns env.locals m := hns2.at' fun o e => (so.2 _ (fun e => (nb B2 hns2).1 e.symm)).trans e
  have kp3 : ∀ x o, h₀.get? x = some o → h3.get? x = some o := fun x o e => (so.2 x (n0 x o e).1).trans (kh k2 x o (kp1 x o e))
  have fr3 : ∀ x o, x ≠ b → s.heap.get? x = some o → h3.get? x = some o := fun x o hx e => (so.2 x hx).trans (kh k2 x o (F.keep x o e))
  have S3 := take_sat (C := C) (t := t) T kp3 hg hbi hkd hns3 kb km h1 h2 B3
  have same3 : Same s { s2' with heap := h3 } := (Same.trans same1 (Same.keeps k2)).trans (Same.heap s2' h3)
  generalize hs3 : ({ s2' with heap := h3 } : Shared) = s3 at same3 ⊢
  have hh3 : s3.heap = h3 := by rw [← hs3]
  subst hh3
  clear hs3
  -- the test
  refine wpAny_execs_cons ?_
  cases xs with
  | nil =>
    refine wpAny_If (tk_ne false rfl _ env _ _ s3 _ _ ro1 hsc S3 fun s4 k4 => ?_)
    refine wpAny_execs_nil ?_
    have S4 := S3.keeps (kh k4)
    have B4 := B3.keeps (kh k4)
    refine wpAny_execs_cons (wpAny_Return_some (tk_res (.int ((7 * (n + 1) + (n + 1).fdiv 3).fmod many)) (if_neg hm) _ env _ _ s4 _ _ ro1 hsc S4 fun w s5 k5 q5 => ?_))
    simp only [Rep] at q5
    obtain ⟨u', rfl⟩ := q5
    exact hQ u' s5 ((same3.trans (Same.keeps k4)).trans (Same.keeps k5)) (fun x o hx _ e => kh k5 x o (kh k4 x o (fr3 x o hx e))) (B4.keeps (kh k5))
  | cons x r =>
    refine wpAny_If (tk_ne true (neO_ints x r) _ env _ _ s3 _ _ ro1 hsc S3 fun s4 k4 => ?_)
    have S4 := S3.keeps (kh k4)
    have B4 := B3.keeps (kh k4)
    have hns4 := hns3.keeps (kh k4)
    refine wpAny_execs_cons (wpAny_Return_some (wpAny_BinOp ?_))
    have he : ∃ pl, eval (.Call (.Attribute (.Subscript (.Name "box" ⟨166, 15, 166, 18⟩) (.Constant (.int 0) 0 ⟨166, 19, 166, 20⟩) ⟨166, 15, 166, 21⟩) "pop" ⟨166, 15, 166, 25⟩) [.Constant (.int 0) 0 ⟨166, 26, 166, 27⟩] [] ⟨166, 15, 166, 28⟩) env = (do
      let ov ← eval (.Subscript (.Name "box" ⟨166, 15, 166, 18⟩) (.Constant (.int 0) 0 ⟨166, 19, 166, 20⟩) ⟨166, 15, 166, 21⟩) env
      standAt (⟨166, 15, 166, 25⟩ : Pos).atName
      let (f, first) ← holding [ov] (getMethod ov "pop" pl)
      callWith ⟨166, 15, 166, 28⟩ f first (backTo ⟨166, 15, 166, 28⟩ (starEach [.Constant (.int 0) 0 ⟨166, 26, 166, 27⟩] env)) []) := ⟨_, rfl⟩
    obtain ⟨pl, he⟩ := he
    obtain ⟨t4, o4⟩ := B4.out
    refine MethodCall_ (pl := pl) (Subscript_ (wpAny_Name (wpAny_loadName_local hkd kb hns4 h1 ?_) (by decide))) he
    refine (Ev.intC (C := C) (n := 1) (sc := (recAt 38).scope) (ρ := takeLc (x :: r) (n + 1) many)) _ rfl _ env _ _ s4 _ _ ro1 hsc S4 fun wj s5 k5 qj => ?_
    simp only [Rep] at qj
    obtain ⟨uj, rfl⟩ := qj
    have o5 := isList_agree o4 (kh k5 _)
    refine tail_any o5.isList.typeIs slot_list_getitem.lookup (wpAny_getItem_list (k := 0) (x := .ref l) o5.isList (by decide) (by decide) rfl ?_) rfl
    have B5 := B4.keeps (kh k5)
    obtain ⟨ws, q5, r5⟩ := B5.inn
    rw [List.map_cons] at r5
    simp only [RepL] at r5
    obtain ⟨wx, wr, rfl, rx, rr⟩ := r5
    simp only [Rep] at rx
    obtain ⟨ux, rfl⟩ := rx
    refine getMethod_list_of PySem.F.slot_list_pop PySem.F.type_list_pop q5.isList (by obtain ⟨k, ho⟩ := q5; exact ⟨_, ho, rfl⟩) ?_
    refine callWith_method1 (args_cons ?_ rfl) rfl rfl
    refine (Ev.intC (C := C) (n := 1) (sc := (recAt 38).scope) (ρ := takeLc (x :: r) (n + 1) many)) _ rfl _ env _ _ s5 _ _ ro1 hsc (S4.keeps (kh k5)) fun wj s6 k6 qj => args_nil ?_
    simp only [Rep] at qj
    obtain ⟨uj', rfl⟩ := qj
    have q6 := isList_agree q5 (kh k6 _)
    have hlen := rr.length
    show wpAny _ _ (call (.builtin "list.pop") [.ref l, .int 0 uj']) _ _ s6
    refine pop0 q6 (by have h := B.small; rw [sizeLine_eq]; rw [List.length_cons, hlen, List.length_map]; rw [List.length_cons] at h; omega) fun h7 hs7 hl7 => ?_
    have B7 : BoxAt h7 b l r (n + 1) := by
      refine ⟨?_, ⟨wr, hl7, rr.ints (allInt_map r)⟩, B5.ne, by have h := B.small; rw [List.length_cons] at h; omega⟩
      obtain ⟨t6, o6⟩ := (B5.keeps (kh k6)).out
      exact ⟨t6, isList_same o6 hs7 B5.ne⟩
    have hns6 := (hns4.keeps (kh k5)).keeps (kh k6)
    have hns7 : h7.Ns env.locals m := hns6.at' fun o e => (hs7.2 _ (fun e => (nb B4 hns4).2 e.symm)).trans e
    have kp7 : ∀ x o, h₀.get? x = some o → h7.get? x = some o := fun x o e => (hs7.2 x (n0 x o e).2).trans (kh k6 x o (kh k5 x o (kh k4 x o (kp3 x o e))))
    have same7 : Same s { s6 with heap := h7 } := (((same3.trans (Same.keeps k4)).trans (Same.keeps k5)).trans (Same.keeps k6)).trans (Same.heap s6 h7)
    have fr7 : ∀ x o, x ≠ b → x ≠ l → s.heap.get? x = some o → h7.get? x = some o := fun x o hx hx' e => (hs7.2 x hx').trans (kh k6 x o (kh k5 x o (kh k4 x o (fr3 x o hx e))))
    have S7 := take_sat (C := C) (t := t) T kp7 hg hbi hkd hns7 kb km h1 h2 B7
    generalize hs7' : ({ s6 with heap := h7 } : Shared) = s7 at same7 ⊢
    have hh7 : s7.heap = h7 := by rw [← hs7']
    subst hh7
    clear hs7'
    refine tk_many (C := C) (xs := r) (n := n + 1) (many := many) _ rfl _ env _ _ s7 _ _ ro1 hsc S7 fun wm s8 k8 qm => ?_
    refine bin_mod (.int x) (.int many) _ (if_neg hm) _ _ _ 1 (fun x => x = env.locals) s8 _ _ _ _ ro1 (S7.keeps (kh k8)).live rep_int qm fun w9 s9 k9 q9 => ?_
    simp only [Rep] at q9
    obtain ⟨u9, rfl⟩ := q9
    exact hQ u9 s9 ((same7.trans (Same.keeps k8)).trans (Same.keeps k9)) (fun x o hx hx' e => kh k9 x o (kh k8 x o (fr7 x o hx hx' e))) ((B7.keeps (kh k8)).keeps (kh k9))

/-! text MT3 -/
theorem BoxAt.step {M M' rs : Addr → Prop} {s s' : Shared} {b l : Addr} {xs : List Int} {n : Int} (B : BoxAt s.heap b l xs n) (st : Step M rs s M' s') (hb : rs b) (hl : rs l) : BoxAt s'.heap b l xs n where
  out := by obtain ⟨t, q⟩ := B.out; exact ⟨t, isList_agree q fun o e => st.2 _ o (.inr hb) e⟩
  inn := by obtain ⟨ws, q, r⟩ := B.inn; exact ⟨ws, isList_agree q fun o e => st.2 _ o (.inr hl) e, r.ints (allInt_map xs)⟩
  ne := B.ne
  small := B.small

theorem BoxAt.live {h : Heap} {b l : Addr} {xs : List Int} {n : Int} (B : BoxAt h b l xs n) {a : Addr} (e : a = b ∨ a = l) : ∃ o, h.get? a = some o := by
  rcases e with rfl | rfl
  · obtain ⟨t, k, q⟩ := B.out; exact ⟨_, q⟩
  · obtain ⟨ws, ⟨k, q⟩, _⟩ := B.inn; exact ⟨_, q⟩

/-- a draw from the box, as an expression -/
theorem ev_take {C : Cx} (hC : C.defs = fun x => dlist.lookup x) {sc : Scope} {ρ : Lc} {e : Expr} {many : Int} {p p' pos : Pos} {A : Around} {env : Env} {ad : Str → Addr} {M : Addr → Prop} {s₀ : Shared} {M₀ rs : Addr → Prop} {s : Shared} {Q E : Value → Shared → Prop} {b l : Addr} {xs : List Int} {n : Int}
    (ro : Room A 9) (hsc : env.scope = sc) (S : SatF C M ad env s₀ M₀ rs ρ s) (hbox : ρ.lookup ("box" : Str) = some (.raw (.ref b))) (hb : rs b) (hl : rs l) (B : BoxAt s.heap b l xs n) (he : Ev C 9 sc ρ e (some (.int many))) (hm : many ≠ 0)
    (hQ : ∀ u s', SatF C M ad env s₀ M₀ rs ρ s' → BoxAt s'.heap b l xs.tail (n + 1) → Agree M s.heap s'.heap → Q (.int (takeR xs n many) u) s')
    (hx : sc.names.lookup ("_law_take" : Str) = some .globalImplicit := by rfl) (h0 : ∀ env, starEach [.Name "box" p', e] env = (false, eval (.Name "box" p') env) :: starEach [e] env := by intro _; rfl)
    (h1 : ∀ env, starEach [e] env = (false, eval e env) :: starEach [] env := by intro _; rfl) :
    wpAny (model C.prog C.w) A (eval (.Call (.Name "_law_take" p) [.Name "box" p', e] [] pos) env) Q E s := by
  obtain ⟨hn, a, hfn⟩ := S.sat.top.fn _ _ (df_of hC df_law_take)
  obtain ⟨o, pm, cd, doc, ho, hod, hcr⟩ := hfn.obj
  refine wpAny_Call_NameR (Name_function_global S.sat.kd (by show env.scope.names.lookup _ = _; rw [hsc]; exact hx) (loadGlobal_global (mg := C.mg) (by rw [S.sat.gl]; exact S.sat.top.g) (by rw [← hn]; exact hfn.name) ?_) (by decide))
  obtain ⟨w, hw, hwe⟩ := S.sat.vars "box" _ hbox
  have hwe : w = .ref b := hwe
  subst hwe
  refine PyProof.Rows.callWith_def hod (args_cons (wpAny_Name (wpAny_holds S.sat.kd hw ?_) (by decide)) (h0 env)) (h0 env)
  refine args_cons (he _ rfl A env ad M s _ _ ro hsc S.sat fun w s1 k1 q1 => args_nil ⟨kh k1 _ _ ho, ?_⟩) (h1 env)
  simp only [Rep] at q1
  obtain ⟨t, rfl⟩ := q1
  have S1 := S.keeps k1
  have rb := S.res b hb
  have rl := S.res l hl
  refine take_call (ro.less (by decide)) S.top0 S1.keep rb.2.1 rl.2.1 (hfn.keeps (kh k1)) (B.keeps (kh k1)) hm fun u s' same fr B' => ?_
  have up : ∀ x o, ¬ (x = b ∨ x = l) → s1.heap.get? x = some o → s'.heap.get? x = some o := fun x o hx e => fr x o (fun h => hx (.inl h)) (fun h => hx (.inr h)) e
  refine hQ u s' (S1.lent (X := fun x => x = b ∨ x = l) (fun x h => by rcases h with rfl | rfl <;> assumption) same up fun x h => B'.live h) B' fun x o hx e => up x o (fun h => hx ?_) (kh k1 x o e)
  rcases h with rfl | rfl
  · exact rb.1
  · exact rl.1

theorem abs_comp : ∀ ys : List Int, compO (fun _ => some true) (fun v1 => (((((some v1).bind fun v => (some []).bind fun l => some (v :: l)).bind intF).bind fun v => (some []).bind fun l => some (v :: l)).bind absF)) (ys.map Val.int) = some ((ys.map fun a => if a < 0 then -a else a).map Val.int)
  | [] => rfl
  | y :: r => by
    rw [List.map_cons, compO]
    show ((((some (Val.int (if y < 0 then -y else y)) : Option Val)).bind fun w => (compO _ _ (r.map Val.int)).bind fun r => some (w :: r))) = _
    rw [abs_comp r]
    rfl

/-! text MT4 -/
def boxComp : Expr := match nthD (recAt 46).body 0 (.Pass ⟨0,0,0,0⟩) with
  | .Assign _ (.List (e :: _) _) _ => e
  | _ => .Constant .none 0 ⟨0,0,0,0⟩
def absI (a : Int) : Int := if a < 0 then -a else a

theorem box_comp {C : Cx} {xs : List Int} : EvN C 9 lawSc [("script", .sh (.list (xs.map .int)))] boxComp
    (((((some (.list (xs.map .int))).bind fun x => (some (.int 12)).bind fun y => sliceO x y).bind fun l => some (.list l)).bind itemsO).bind fun vs => compL (fun v1 => (some true)) (fun v1 => (((((some v1).bind fun v => (some []).bind fun l => some (v :: l)).bind intF).bind fun v => (some []).bind fun l => some (v :: l)).bind absF)) vs) :=
  (EvN.comp1 [] (It.list (EvN.sh (EvN.slice (Ev.var rfl) Ev.intC))) (fun v1 => TstL.nil) (fun v1 => (Ev.callB call_abs (EvL.cons (Ev.callT call_int (EvL.cons (Ev.var rfl) EvL.nil)) EvL.nil))) .nil)

theorem box_val {xs : List Int} (h : xs.length ≤ 63) :
    (((((some (.list (xs.map .int))).bind fun x => (some (.int 12)).bind fun y => sliceO x y).bind fun l => some (.list l)).bind itemsO).bind fun vs => compL (fun v1 => (some true)) (fun v1 => (((((some v1).bind fun v => (some []).bind fun l => some (v :: l)).bind intF).bind fun v => (some []).bind fun l => some (v :: l)).bind absF)) vs)
      = some (((xs.take 12).map absI).map Val.int) := by
  have e1 : sliceO (.list (xs.map .int)) (.int 12) = some ((xs.take 12).map .int) := by
    show (if Nat.ble (xs.map Val.int).length 16777216 then some (sliceTo (xs.map Val.int) 12) else none) = _
    rw [if_pos (Nat.ble_eq_true_of_le (by rw [List.length_map]; omega))]
    show some ((xs.map Val.int).take 12) = _
    rw [List.map_take]
  show (((sliceO (.list (xs.map .int)) (.int 12)).bind fun l => some (.list l)).bind itemsO).bind _ = _
  rw [e1]
  show compL _ _ ((xs.take 12).map Val.int) = _
  unfold compL
  rw [if_pos (Nat.ble_eq_true_of_le (by rw [List.length_map, List.length_take]; omega))]
  exact abs_comp _

theorem st_box {C : Cx} {A : Around} {env : Env} {ad : Str → Addr} {M : Addr → Prop} {s₀ : Shared} {M₀ rs : Addr → Prop} {s : Shared} {Q : Flow → Shared → Prop} {E : Value → Shared → Prop} {xs : List Int} (ro : Room A 9) (hsc : env.scope = lawSc)
    (S : SatF C M ad env s₀ M₀ rs [("script", .sh (.list (xs.map .int)))] s) (hlen : xs.length ≤ 63)
    (hQ : ∀ b l ad' s', SatF C (fun a => M a ∨ a = b ∨ a = l) ad' env s₀ M₀ (fun a => rs a ∨ a = b ∨ a = l) [("box", .raw (.ref b)), ("script", .sh (.list (xs.map .int)))] s' → BoxAt s'.heap b l ((xs.take 12).map absI) 0 → Q .next s') :
    wpAny (model C.prog C.w) A (exec (nthD (recAt 46).body 0 (.Pass ⟨0,0,0,0⟩)) env) Q E s := by
  refine wpAny_Assign_Name (wpAny_List_spliced (args_cons ?_ rfl)) rfl
  refine box_comp _ (box_val hlen) A env ad M s _ _ ro hsc S.sat fun l ws s1 k1 hl ho hr => ?_
  refine args_cons ((Ev.intC (C := C) (n := 9) (sc := lawSc) (ρ := [("script", .sh (.list (xs.map .int)))])) _ rfl A env ad M s1 _ _ ro hsc (S.keeps k1).sat fun wz s2 k2 qz => args_nil ?_) rfl
  simp only [Rep] at qz
  obtain ⟨t, rfl⟩ := qz
  refine ⟨by rw [sizeLine_eq]; simp, ?_⟩
  have k3 := keeps_push s2 { cls := .type "list", data := .seq (List.toArray [.ref l, .int 0 t]) } s2.toks
  have hp := isList_push s2.heap (List.toArray [.ref l, .int 0 t])
  generalize hb : s2.heap.objs.size = b at hp
  generalize hs3 : ({ s2 with heap := s2.heap.push { cls := .type "list", data := .seq (List.toArray [.ref l, .int 0 t]) }, toks := s2.toks } : Shared) = s3 at k3
  have hh3 : s3.heap = s2.heap.push { cls := .type "list", data := .seq (List.toArray [.ref l, .int 0 t]) } := by rw [← hs3]
  rw [← hh3] at hp
  have kk := kt (kt k1 k2) k3
  have fb : s2.heap.get? b = none := get_none_of_size (Nat.le_of_eq hb)
  have fb0 : s.heap.get? b = none := none_back (kt k1 k2) fb
  have hne : b ≠ l := by
    rintro rfl
    obtain ⟨k, q⟩ := isList_agree ho (kh k2 _)
    rw [fb] at q; cases q
  have B : BoxAt s3.heap b l ((xs.take 12).map absI) 0 := ⟨⟨t, hp⟩, ⟨ws, isList_agree ho (kh (kt k2 k3) _), hr.ints (allInt_map _)⟩, hne, by rw [List.length_map, List.length_take]; omega⟩
  have S3 := S.take (X := fun a => a = b ∨ a = l) kk (fun a h => by rcases h with rfl | rfl <;> assumption) (fun a h => B.live h)
  show wpAny _ A (storeName env "box" (.ref b)) _ _ s3
  refine S3.bind (x := "box") (sl := .raw (.ref b)) (a := 0) (rs' := fun a => rs a ∨ a = b ∨ a = l) (by rw [hsc]; exact .inl rfl) rfl rfl (fun h => by cases h) (fun b hb => ⟨hb, fun h => by cases h⟩) fun ad4 s4 st4 S4 => ?_
  exact hQ b l ad4 s4 S4 (B.step st4 (.inr (.inl rfl)) (.inr (.inr rfl)))

/-! text MT5 -/
def sizesL : List Val := [.tup [.int 2, .int 2], .tup [.int 2, .int 3], .tup [.int 2, .int 4], .tup [.int 3, .int 2]]

theorem st_sizes {C : Cx} (hC : C.defs = fun x => dlist.lookup x) {A : Around} {env : Env} {ad : Str → Addr} {M : Addr → Prop} {s₀ : Shared} {M₀ rs : Addr → Prop} {s : Shared} {Q : Flow → Shared → Prop} {E : Value → Shared → Prop} {ρ : Lc} {b l : Addr} {xs : List Int} {n p k : Int} {wz : Value}
    (ro : Room A 9) (hsc : env.scope = lawSc) (S : SatF C M ad env s₀ M₀ rs ρ s) (hbox : ρ.lookup ("box" : Str) = some (.raw (.ref b))) (hnp : notOwn ρ "p" = true) (hnk : notOwn ρ "k" = true)
    (hb : rs b) (hl : rs l) (B : BoxAt s.heap b l xs n) (hM : ∀ a, M a → s₀.heap.get? a = none)
    (hg : C.mg "_law_sizes" = some wz) (hz : Rep s₀.heap (fun _ => False) (.tup sizesL) wz) (hi : idxO sizesL (takeR xs n 4) = some (.tup [.int p, .int k]))
    (hQ : ∀ ad' s', SatF C M ad' env s₀ M₀ rs (("k", .sh (.int k)) :: ("p", .sh (.int p)) :: ρ) s' → BoxAt s'.heap b l xs.tail (n + 1) → Q .next s') :
    wpAny (model C.prog C.w) A (exec (nthD (recAt 46).body 1 (.Pass ⟨0,0,0,0⟩)) env) Q E s := by
  refine Assign_Tuple (Subscript_ (Name_function_global S.sat.kd (by show env.scope.names.lookup _ = _; rw [hsc]; rfl) (loadGlobal_global (mg := C.mg) (by rw [S.sat.gl]; exact S.sat.top.g) hg ?_) (by decide))) rfl rfl
  refine ev_take hC ro hsc S hbox hb hl B (Ev.intC (i := 4)) (by decide) fun u s1 S1 B1 ag1 => ?_
  have hz1 : Rep s1.heap M (.tup sizesL) wz := hz.mono (fun a o _ e => S1.keep a o e) fun a o _ e m => by rw [hM a m] at e; cases e
  simp only [Rep] at hz1
  obtain ⟨a', ws, rfl, _, hlt, hr⟩ := hz1
  refine tail_any hlt.typeIs slot_tuple_getitem.lookup (getItem_idxT hlt hr hi fun w q1 => ?_) rfl
  simp only [Rep] at q1
  obtain ⟨T, us, rfl, hT, hl2, hr2⟩ := q1
  obtain ⟨wa, wb, rfl, ra, rb⟩ := repL2 hr2
  refine wpAny_assign_Tuple ro.hd hl2 rfl rfl fun h2 hx2 => ?_
  have kp2 : Keeps s1 { s1 with heap := h2 } := ⟨h2, s1.toks, rfl, fun b o e => hx2 b o (Nat.ne_of_lt (Heap.lt_size e)) e⟩
  generalize hs2 : ({ heap := h2, gens := s1.gens, drawn := s1.drawn, toks := s1.toks, os := s1.os } : Shared) = s2 at kp2
  have S2 := S1.keeps kp2
  have ra := ra.keep (kh kp2)
  have rb := rb.keep (kh kp2)
  show wpAny _ A (do holding [wb] (PySem.assign (.Name "p" ⟨220, 4, 220, 5⟩) env wa); do holding [] (PySem.assign (.Name "k" ⟨220, 7, 220, 8⟩) env wb); pure ()) _ _ _
  refine wpAny_bind (wpAny_holding (wpAny_assign_Name ?_))
  refine S2.bind (x := "p") (sl := .sh (.int p)) (a := 0) (rs' := rs) (by rw [hsc]; exact .inr ⟨rfl, by decide⟩) hnp ra (fun h => by cases h) (fun b hb => ⟨hb, fun h => by cases h⟩) fun ad3 s3 st3 S3 => ?_
  refine wpAny_bind (wpAny_holding (wpAny_assign_Name ?_))
  refine S3.bind (x := "k") (sl := .sh (.int k)) (a := 0) (rs' := rs) (by rw [hsc]; exact .inl rfl) (by unfold notOwn; rw [lookup_cons_ne (by decide)]; exact hnk) (st3.rep rb) (fun h => by cases h) (fun b hb => ⟨hb, fun h => by cases h⟩) fun ad4 s4 st4 S4 => ?_
  refine wpAny_pure ?_
  exact hQ ad4 s4 S4 (((B1.keeps (kh kp2)).step st3 hb hl).step st4 hb hl)

/-! text MT6 -/
theorem swapped_at {sc : Scope} {ts : List Expr} {v : Expr} {names : List Str} {env : Env} (h : ∀ env : Env, env.scope = sc → swappedStores ts v env = pure (some names)) (hs : env.scope = sc) : swappedStores ts v env = pure (some names) := h env hs

theorem st_draw {C : Cx} (hC : C.defs = fun x => dlist.lookup x) {A : Around} {env : Env} {ad : Str → Addr} {M : Addr → Prop} {s₀ : Shared} {M₀ rs : Addr → Prop} {s : Shared} {Q : Flow → Shared → Prop} {E : Value → Shared → Prop} {ρ : Lc} {b l : Addr} {xs : List Int} {n p : Int} {L : List Val} {c : Val}
    (ro : Room A 9) (hsc : env.scope = lawSc) (S : SatF C M ad env s₀ M₀ rs ρ s) (hbox : ρ.lookup ("box" : Str) = some (.raw (.ref b))) (hth : ρ.lookup ("things" : Str) = some (.sh (.list L))) (hp : ρ.lookup ("p" : Str) = some (.sh (.int p)))
    (hnc : notOwn ρ "c" = true) (hnn : notOwn ρ "number" = true) (hb : rs b) (hl : rs l) (B : BoxAt s.heap b l xs n) (hlen : lenF [.list L] = some (.int (L.length : Nat))) (hL : (L.length : Int) ≠ 0) (hp0 : p ≠ 0)
    (hi : idxO L (takeR xs n (L.length : Nat)) = some c)
    (hQ : ∀ ad' s', SatF C M ad' env s₀ M₀ rs (("c", .sh c) :: ("number", .sh (.int (takeR xs.tail (n + 1) p))) :: ρ) s' → Q .next s') :
    wpAny (model C.prog C.w) A (exec (nthD (recAt 46).body 8 (.Pass ⟨0,0,0,0⟩)) env) Q E s := by
  refine Assign_Tuple_swapped (names := ["c", "number"]) ?_ rfl (swapped_at (sc := lawSc) ?hw hsc)
  case hw => rintro ⟨⟩ rfl; rfl
  refine wpAny_Tuple_spliced (args_cons (Subscript_ ?_) rfl)
  refine (Ev.var (C := C) (n := 9) (sc := lawSc) (x := "things") hth) _ rfl A env ad M s _ _ ro hsc S.sat fun wt s1 k1 qt => ?_
  have hlenE : Ev C 9 lawSc ρ (.Call (.Name "len" ⟨229, 39, 229, 42⟩) [.Name "things" ⟨229, 43, 229, 49⟩] [] ⟨229, 39, 229, 50⟩) (some (.int (L.length : Nat))) := by
    have h := Ev.callB (C := C) (n := 9) (sc := lawSc) (ρ := ρ) (x := "len") (p := ⟨229, 39, 229, 42⟩) (pos := ⟨229, 39, 229, 50⟩) call_len (EvL.cons (Ev.var (x := "things") (pos := ⟨229, 43, 229, 49⟩) hth) EvL.nil)
    change Ev C 9 lawSc ρ _ (lenF [.list L]) at h
    rwa [hlen] at h
  refine ev_take hC ro hsc (S.keeps k1) hbox hb hl (B.keeps (kh k1)) hlenE hL fun u s2 S2 B2 ag2 => ?_
  have qt2 : Rep s2.heap M (.list L) wt := qt.mono ag2 fun _ _ hb _ => hb
  simp only [Rep] at qt2
  obtain ⟨at', ws, rfl, hMt, hlt, hrt⟩ := qt2
  refine tail_any hlt.isList.typeIs slot_list_getitem.lookup (getItem_idx hlt hrt hi fun wc qc => ?_) rfl
  refine args_cons (ev_take hC ro hsc S2 hbox hb hl B2 (Ev.var (x := "p") hp) hp0 fun u3 s3 S3 B3 ag3 => ?_) rfl
  have qc3 : Rep s3.heap M c wc := qc.mono ag3 fun _ _ hb _ => hb
  refine args_nil ⟨by rw [sizeLine_eq]; simp, ?_⟩
  have kp3 := keeps_push s3 { cls := .type "tuple", data := .seq (List.toArray [wc, .int (takeR xs.tail (n + 1) p) u3]) } s3.toks
  refine wpAny_unpackItems_tuple (items := List.toArray [wc, .int (takeR xs.tail (n + 1) p) u3]) ro.hd (isTuple_push _ _) fun h4 hx4 => ?_
  have kp4 : Keeps s3 { s3 with heap := h4 } := ⟨h4, s3.toks, rfl, fun b o e => hx4 b o (Nat.ne_of_lt (Nat.lt_of_lt_of_le (Heap.lt_size e) (by simp [Heap.size_push]))) (Heap.get?_push_of_some _ e)⟩
  generalize hs4 : ({ heap := h4, gens := s3.gens, drawn := s3.drawn, toks := s3.toks, os := s3.os } : Shared) = s4 at kp4
  have S4 := S3.keeps kp4
  have qc4 := qc3.keep (kh kp4)
  show wpAny _ A (do holding [wc] (bindName env "number" (.int (takeR xs.tail (n + 1) p) u3)); do holding [] (bindName env "c" wc); pure ()) _ _ _
  refine wpAny_bind (wpAny_holding (wpAny_bindName ?_))
  refine S4.bind (x := "number") (sl := .sh (.int (takeR xs.tail (n + 1) p))) (a := 0) (rs' := rs) (by rw [hsc]; exact .inl rfl) hnn (rep_int (h := s4.heap) (M := M)) (fun h => by cases h) (fun b hb => ⟨hb, fun h => by cases h⟩) fun ad5 s5 st5 S5 => ?_
  refine wpAny_bind (wpAny_holding (wpAny_bindName ?_))
  refine S5.bind (x := "c") (sl := .sh c) (a := 0) (rs' := rs) (by rw [hsc]; exact .inl rfl) (by unfold notOwn; rw [lookup_cons_ne (by decide)]; exact hnc) (st5.rep qc4) (fun h => by cases h) (fun b hb => ⟨hb, fun h => by cases h⟩) fun ad6 s6 st6 S6 => ?_
  refine wpAny_pure ?_
  exact hQ ad6 s6 S6

/-! text MT7 -/
theorem execs_append (env : Env) : ∀ a b : List Stmt, execs (a ++ b) env = (do match ← execs a env with | .next => execs b env | f => pure f)
  | [], b => by rw [List.nil_append, execs_nil, pure_bind]
  | st :: r, b => by
    rw [List.cons_append, execs_cons, execs_cons, bind_assoc]
    congr 1
    funext f
    cases f with
    | next => exact execs_append env r b
    | brk => simp only [pure_bind]
    | cont => simp only [pure_bind]
    | ret v => simp only [pure_bind]

theorem wpAny_execs_append {M : Model} {A : Around} {env : Env} {E : Value → Shared → Prop} {s : Shared} {a b : List Stmt} {Q : Flow → Shared → Prop} (h : wpAny M A (execs a env) (fun f s' => match f with | .next => wpAny M A (execs b env) Q E s' | f => Q f s') E s) :
    wpAny M A (execs (a ++ b) env) Q E s := by
  rw [execs_append]
  refine wpAny_bind (wpAny_mono h (fun f s' h' => ?_) fun _ _ x => x)
  cases f <;> first | exact h' | exact wpAny_pure h'

/-- what is asked of the plain law -/
def Plain : Prop := ∀ i : Int, 0 ≤ i → i < 4 → ∃ p k m L raised traces norms, idxO sizesL i = some (.tup [.int p, .int k]) ∧ 0 < p ∧ mid (.int p) (.int k) = some (.cont (m, .list L, raised, traces, norms)) ∧ 0 < L.length ∧ L.length ≤ 16777216 ∧
  ∀ ci : Int, 0 ≤ ci → ci < (L.length : Nat) → ∀ number : Int, 0 ≤ number → number < p → ∃ c, idxO L ci = some c ∧ tailO c (.int number) m (.list L) raised traces norms (.int k) (.int p) = some (.ret (.bool true))

theorem takeR_lo {xs : List Int} {n many : Int} (h : 0 < many) : 0 ≤ takeR xs n many := by
  cases xs with
  | nil => exact Int.fmod_nonneg_of_pos _ h
  | cons x r => exact Int.fmod_nonneg_of_pos _ h
theorem takeR_hi {xs : List Int} {n many : Int} (h : 0 < many) : takeR xs n many < many := by
  cases xs with
  | nil => exact Int.fmod_lt_of_pos _ h
  | cons x r => exact Int.fmod_lt_of_pos _ h

theorem law_body : (recAt 46).body = nthD (recAt 46).body 0 (.Pass ⟨0,0,0,0⟩) :: nthD (recAt 46).body 1 (.Pass ⟨0,0,0,0⟩) :: (midBody ++ nthD (recAt 46).body 8 (.Pass ⟨0,0,0,0⟩) :: tailBody) := by kernel_rfl

theorem law_call {C : Cx} (hC : C.defs = fun x => dlist.lookup x) {A : Around} {s : Shared} {a : Addr} {w wz : Value} {xs : List Int} {Q E : Value → Shared → Prop} (ro : Room A 10) (T : TopOK C s.heap) (hfn : FnAt C s.heap (recAt 46) a)
    (hr : Rep s.heap (fun _ => False) (.list (xs.map .int)) w) (hlen : xs.length ≤ 63) (hg : C.mg "_law_sizes" = some wz) (hz : Rep s.heap (fun _ => False) (.tup sizesL) wz) (hP : Plain) (hQ : ∀ s', Keeps s s' → Q (.bool true) s') :
    wpAny (model C.prog C.w) A (call (.ref a) [w]) Q E s := by
  obtain ⟨o, pm, cd, doc, ho, hod, hcr⟩ := hfn.obj
  have hrl : RepL s.heap (fun _ => False) [.list (xs.map .int)] [w] := RepL.cons hr RepL.nil
  refine wpAny_call (call_cells (binds := [("script", w)]) (by have := ro.dep; omega) ho hod T.lim hcr rfl (names_kind (xs := ["script"]) (ws := [w]) rfl) (fun h₁ tk F X => ?_) rfl rfl rfl)
  have ro1 : Room (A.deeper (envOfC (recAt 46).name (recAt 46).scope s.heap.objs.size a cd)) 9 := ro.deeper _
  have S1 := enter_sat (C := C) (xs := ["script"]) (tk := tk) T (fun _ h => h.elim) hrl (by decide) rfl rfl F X (fun _ => 0)
  have hcn : ∀ x c, (cellsFrom (s.heap.objs.size + 1) (recAt 46).scope.names []).lookup x = some c → s.heap.get? c = none := fun x c e => get_none_of_size (Nat.le_of_lt (X.above x c (mem_of_lookup e)))
  have hMs : ∀ b, (False ∨ b = s.heap.objs.size ∨ ∃ x, (cellsFrom (s.heap.objs.size + 1) (recAt 46).scope.names []).lookup x = some b) → s.heap.get? b = none := fun b h => by
    rcases h with h | rfl | ⟨x, h⟩
    · exact h.elim
    · exact get_none_of_size (Nat.le_refl _)
    · exact hcn x b h
  rw [law_body]
  generalize hE : envOfC (recAt 46).name (recAt 46).scope s.heap.objs.size a cd = env at *
  have hsc : env.scope = lawSc := by rw [← hE]; rfl
  generalize hM1 : (fun b => False ∨ b = s.heap.objs.size ∨ ∃ x, (cellsFrom (s.heap.objs.size + 1) (recAt 46).scope.names []).lookup x = some b) = M1 at *
  have hMs' : ∀ b, M1 b → s.heap.get? b = none := fun b h => hMs b (by rw [← hM1] at h; exact h)
  refine wpAny_execs_cons (st_box ro1 hsc S1 hlen fun b l ad2 s2 S2 B2 => ?_)
  have rb : (False ∨ b = b ∨ b = l) := .inr (.inl rfl)
  have rl : (False ∨ l = b ∨ l = l) := .inr (.inr rfl)
  have sb := (S2.res b rb).2.1
  have sl := (S2.res l rl).2.1
  obtain ⟨p, k, m, L, raised, traces, norms, hidx, hp, hmid, hL0, hL1, htail⟩ := hP (takeR ((xs.take 12).map absI) 0 4) (takeR_lo (by decide)) (takeR_hi (by decide))
  refine wpAny_execs_cons (st_sizes hC ro1 hsc S2 rfl rfl rfl rb rl B2 (fun a h => ?_) hg hz hidx fun ad3 s3 S3 B3 => ?_)
  · rcases h with h | rfl | rfl
    · exact hMs' a h
    · exact sb
    · exact sl
  refine wpAny_execs_append ?_
  have S3' := S3.weaken (ρ' := [("k", .sh (.int k)), ("p", .sh (.int p)), ("box", .raw (.ref b))]) (Sub.cons (Sub.cons (Sub.cons Sub.nil)))
  refine b_mid C hC (.ref b) (.int p) (.int k) _ hmid _ env ad3 _ s _ _ s3 _ _ ro1 hsc S3' fun f M4 ad4 s4 st4 S4 hf => ?_
  have hf : f = .next := hf
  subst hf
  have B4 := B3.step st4 rb rl
  have hlen2 : lenF [.list L] = some (.int (L.length : Nat)) := if_pos (Nat.ble_eq_true_of_le hL1)
  have hLi : (0 : Int) < (L.length : Nat) := by omega
  obtain ⟨c, hc, ht⟩ := htail (takeR ((xs.take 12).map absI).tail (0 + 1) (L.length : Nat)) (takeR_lo hLi) (takeR_hi hLi) (takeR ((xs.take 12).map absI).tail.tail (0 + 1 + 1) p) (takeR_lo hp) (takeR_hi hp)
  refine wpAny_execs_cons (st_draw hC ro1 hsc S4 rfl rfl rfl rfl rfl rb rl B4 hlen2 (by omega) (by omega) hc fun ad5 s5 S5 => ?_)
  have S5' := S5.weaken (ρ' := [("number", .sh (.int (takeR ((xs.take 12).map absI).tail.tail (0 + 1 + 1) p))), ("c", .sh c), ("m", .sh m), ("things", .sh (.list L)), ("raised", .sh raised), ("traces", .sh traces), ("norms", .sh norms), ("k", .sh (.int k)), ("p", .sh (.int p))])
    (Sub.cons (Sub.cons (Sub.cons (Sub.cons (Sub.cons (Sub.cons (Sub.cons (Sub.cons (Sub.cons Sub.nil)))))))))
  refine b_tail C hC _ _ _ _ _ _ _ _ _ _ ht _ env ad5 _ s _ _ s5 _ _ ro1 hsc S5' fun f M6 ad6 s6 st6 S6 hf => ?_
  obtain ⟨w6, rfl, hw6⟩ := hf
  have hw6 : w6 = .bool true := by simpa only [Rep] using hw6
  subst hw6
  obtain ⟨h', tk', e⟩ := S6.same
  exact hQ s6 ⟨h', tk', e, fun b o e' => by have := S6.keep b o e'; rw [e] at this; exact this⟩

/-! text EV -/
/-! the plain law, evaluated in the kernel -/
def vI (l : List Int) : Val := .list (l.map .int)
def okT : Option (Out Unit) → Bool
  | some (.ret (.bool true)) => true
  | _ => false
theorem okT_eq : ∀ {o : Option (Out Unit)}, okT o = true → o = some (.ret (.bool true))
  | some (.ret (.bool true)), _ => rfl
  | some (.ret (.bool false)), h => by cases h
  | some (.ret (.int _)), h => by cases h
  | some (.ret .none), h => by cases h
  | some (.ret (.list _)), h => by cases h
  | some (.ret (.tup _)), h => by cases h
  | some (.cont _), h => by cases h
  | none, h => by cases h
theorem bind_of {α β : Type} {o : Option α} {f : α → Option β} {a : α} {r : Option β} (h : o = some a) (k : f a = r) : o.bind f = r := by
  subst h
  exact k
theorem seq_of {σ τ : Type} {o : Option (Out τ)} {x : τ} {k : τ → Option (Out σ)} {r : Option (Out σ)} (h : o = some (.cont x)) (hk : k x = r) : seqO o k = r := by
  subst h
  exact hk
def allT (L : List Val) (ps : List Int) (f : Val → Val → Option (Out Unit)) : Bool := L.all fun c => ps.all fun number => okT (f c (.int number))
theorem allT_append {a b : List Val} {ps : List Int} {f : Val → Val → Option (Out Unit)} (h1 : allT a ps f = true) (h2 : allT b ps f = true) : allT (a ++ b) ps f = true := by
  unfold allT at *
  rw [List.all_append, h1, h2]
  rfl
theorem allT_get {L : List Val} {ps : List Int} {f : Val → Val → Option (Out Unit)} (h : allT L ps f = true) (hL : L.length ≤ 16777216) {ci number : Int} (h0 : 0 ≤ ci) (h1 : ci < (L.length : Nat)) (hn : number ∈ ps) :
    ∃ c, idxO L ci = some c ∧ f c (.int number) = some (.ret (.bool true)) := by
  obtain ⟨n, rfl⟩ := Int.eq_ofNat_of_zero_le h0
  have hn' : n < L.length := by omega
  refine ⟨L[n], ?_, ?_⟩
  · show (if Nat.blt n 9223372036854775808 then nthV L n else none) = some L[n]
    rw [if_pos (show Nat.blt n 9223372036854775808 = true from Nat.ble_eq_true_of_le (by omega)), nthV_eq, List.getElem?_eq_getElem hn']
  · exact okT_eq (List.all_eq_true.mp (List.all_eq_true.mp h L[n] (List.getElem_mem hn')) number hn)

def mS0 (a_p a_k : Val) : Option Val := ((some a_p).bind fun v => ((some a_k).bind fun v => (some []).bind fun l => some (v :: l)).bind fun l => some (v :: l)).bind m_first_prime_poly
def mS1 (a_p a_k u1 : Val) : Option Val := ((some u1).bind fun v => ((some a_p).bind fun v => (some []).bind fun l => some (v :: l)).bind fun l => some (v :: l)).bind m_gf_things
def mS2 (a_p a_k u1 u2 : Val) : Option Val := (((some u2).bind itemsO).bind fun vs => compL (fun v4 => (some true)) (fun v4 => (((some v4).bind fun v => ((some a_p).bind fun v => ((some u1).bind fun v => ((some a_p).bind fun v => (some []).bind fun l => some (v :: l)).bind fun l => some (v :: l)).bind fun l => some (v :: l)).bind fun l => some (v :: l)).bind m_gf_power)) vs).bind fun l => some (.list l)
def mS3 (a_p a_k u1 u2 u3 : Val) : Option Val := (((some u2).bind itemsO).bind fun vs => compL (fun v10 => (some true)) (fun v10 => (((some v10).bind fun v => ((some u1).bind fun v => ((some a_p).bind fun v => (some []).bind fun l => some (v :: l)).bind fun l => some (v :: l)).bind fun l => some (v :: l)).bind m_gf_trace)) vs).bind fun l => some (.list l)
def mS4 (a_p a_k u1 u2 u3 u5 : Val) : Option Val := (((some u2).bind itemsO).bind fun vs => compL (fun v11 => (some true)) (fun v11 => (((some v11).bind fun v => ((some u1).bind fun v => ((some a_p).bind fun v => (some []).bind fun l => some (v :: l)).bind fun l => some (v :: l)).bind fun l => some (v :: l)).bind m_gf_norm)) vs).bind fun l => some (.list l)
def mS5 (a_p a_k u1 u2 u3 u5 u6 : Val) : Option (Out Unit) := (((some u3).bind fun x => ((((some u2).bind itemsO).bind fun vs => compL (fun v8 => (some true)) (fun v8 => (((some v8).bind fun v => ((some u1).bind fun v => ((some a_p).bind fun v => (some []).bind fun l => some (v :: l)).bind fun l => some (v :: l)).bind fun l => some (v :: l)).bind m_law_raised)) vs).bind fun l => some (.list l)).bind fun y => neO x y).bind fun x => if x then some true else (((((some u2).bind fun v => ((some u3).bind fun v => ((some a_k).bind fun v => ((some a_p).bind fun v => (some []).bind fun l => some (v :: l)).bind fun l => some (v :: l)).bind fun l => some (v :: l)).bind fun l => some (v :: l)).bind m_law_ways_right).bind boolO).bind fun x => some (!x))).bind fun b => if b then ((some (.bool false)).bind fun v => some (.ret v)) else some (.cont ())
def mS6 (a_p a_k u1 u2 u3 u5 u6 : Val) : Option (Out Unit) := ((((((some u2).bind fun v => ((some u5).bind fun v => ((some u6).bind fun v => ((some a_p).bind fun v => (some []).bind fun l => some (v :: l)).bind fun l => some (v :: l)).bind fun l => some (v :: l)).bind fun l => some (v :: l)).bind m_law_counts_right).bind boolO).bind fun x => some (!x)).bind fun x => if x then some true else (((((some u2).bind fun v => ((some u3).bind fun v => ((some u5).bind fun v => ((some u6).bind fun v => ((some a_p).bind fun v => ((some u1).bind fun v => (some []).bind fun l => some (v :: l)).bind fun l => some (v :: l)).bind fun l => some (v :: l)).bind fun l => some (v :: l)).bind fun l => some (v :: l)).bind fun l => some (v :: l)).bind m_law_images_right).bind boolO).bind fun x => some (!x))).bind fun b => if b then ((some (.bool false)).bind fun v => some (.ret v)) else some (.cont ())
theorem mid_of {a_p a_k u1 u2 u3 u5 u6 : Val} (h0 : mS0 a_p a_k = some u1) (h1 : mS1 a_p a_k u1 = some u2) (h2 : mS2 a_p a_k u1 u2 = some u3) (h3 : mS3 a_p a_k u1 u2 u3 = some u5) (h4 : mS4 a_p a_k u1 u2 u3 u5 = some u6) (h5 : mS5 a_p a_k u1 u2 u3 u5 u6 = some (.cont ())) (h6 : mS6 a_p a_k u1 u2 u3 u5 u6 = some (.cont ())) : mid a_p a_k = some (.cont (u1, u2, u3, u5, u6)) := by
  unfold mid
  exact (bind_of h0 (bind_of h1 (bind_of h2 (bind_of h3 (bind_of h4 (seq_of h5 (seq_of h6 rfl)))))))
def fm0 : Val := vI [1, 1, 1]
def fl0c0 : List Val := List.map vI [[], [1], [0, 1], [1, 1]]
def fl0 : List Val := fl0c0
def fr0 : Val := .list (List.map vI [[], [1], [1, 1], [0, 1]])
def fc0 : Val := vI [0, 0, 1, 1]
def fn0 : Val := vI [0, 1, 1, 1]
abbrev tf0 (c number : Val) : Option (Out Unit) := tailO c number fm0 (.list fl0) fr0 fc0 fn0 (.int 2) (.int 2)
theorem mid0s0 : mS0 (.int 2) (.int 2) = some fm0 := by kernel_rfl
theorem mid0s1 : mS1 (.int 2) (.int 2) fm0 = some (.list fl0) := by kernel_rfl
theorem mid0s2 : mS2 (.int 2) (.int 2) fm0 (.list fl0) = some fr0 := by kernel_rfl
theorem mid0s3 : mS3 (.int 2) (.int 2) fm0 (.list fl0) fr0 = some fc0 := by kernel_rfl
theorem mid0s4 : mS4 (.int 2) (.int 2) fm0 (.list fl0) fr0 fc0 = some fn0 := by kernel_rfl
theorem mid0s5 : mS5 (.int 2) (.int 2) fm0 (.list fl0) fr0 fc0 fn0 = some (.cont ()) := by kernel_rfl
theorem mid0s6 : mS6 (.int 2) (.int 2) fm0 (.list fl0) fr0 fc0 fn0 = some (.cont ()) := by kernel_rfl
theorem mid0 : mid (.int 2) (.int 2) = some (.cont (fm0, .list fl0, fr0, fc0, fn0)) := mid_of mid0s0 mid0s1 mid0s2 mid0s3 mid0s4 mid0s5 mid0s6
theorem tail0c0 : allT fl0c0 [0, 1] tf0 = true := by kernel_rfl
theorem tail0 : allT fl0 [0, 1] tf0 = true := tail0c0
def fm1 : Val := vI [1, 1, 0, 1]
def fl1c0 : List Val := List.map vI [[], [1], [0, 1], [1, 1]]
def fl1c1 : List Val := List.map vI [[0, 0, 1], [1, 0, 1], [0, 1, 1], [1, 1, 1]]
def fl1 : List Val := fl1c0 ++ (fl1c1)
def fr1 : Val := .list (List.map vI [[], [1], [0, 0, 1], [1, 0, 1], [0, 1, 1], [1, 1, 1], [0, 1], [1, 1]])
def fc1 : Val := vI [0, 1, 0, 1, 0, 1, 0, 1]
def fn1 : Val := vI [0, 1, 1, 1, 1, 1, 1, 1]
abbrev tf1 (c number : Val) : Option (Out Unit) := tailO c number fm1 (.list fl1) fr1 fc1 fn1 (.int 3) (.int 2)
theorem mid1s0 : mS0 (.int 2) (.int 3) = some fm1 := by kernel_rfl
theorem mid1s1 : mS1 (.int 2) (.int 3) fm1 = some (.list fl1) := by kernel_rfl
theorem mid1s2 : mS2 (.int 2) (.int 3) fm1 (.list fl1) = some fr1 := by kernel_rfl
theorem mid1s3 : mS3 (.int 2) (.int 3) fm1 (.list fl1) fr1 = some fc1 := by kernel_rfl
theorem mid1s4 : mS4 (.int 2) (.int 3) fm1 (.list fl1) fr1 fc1 = some fn1 := by kernel_rfl
theorem mid1s5 : mS5 (.int 2) (.int 3) fm1 (.list fl1) fr1 fc1 fn1 = some (.cont ()) := by kernel_rfl
theorem mid1s6 : mS6 (.int 2) (.int 3) fm1 (.list fl1) fr1 fc1 fn1 = some (.cont ()) := by kernel_rfl
theorem mid1 : mid (.int 2) (.int 3) = some (.cont (fm1, .list fl1, fr1, fc1, fn1)) := mid_of mid1s0 mid1s1 mid1s2 mid1s3 mid1s4 mid1s5 mid1s6
theorem tail1c0 : allT fl1c0 [0, 1] tf1 = true := by kernel_rfl
theorem tail1c1 : allT fl1c1 [0, 1] tf1 = true := by kernel_rfl
theorem tail1 : allT fl1 [0, 1] tf1 = true := (allT_append tail1c0 tail1c1)
def fm2 : Val := vI [1, 1, 0, 0, 1]
def fl2c0 : List Val := List.map vI [[], [1]]
def fl2c1 : List Val := List.map vI [[0, 1], [1, 1]]
def fl2c2 : List Val := List.map vI [[0, 0, 1], [1, 0, 1]]
def fl2c3 : List Val := List.map vI [[0, 1, 1], [1, 1, 1]]
def fl2c4 : List Val := List.map vI [[0, 0, 0, 1], [1, 0, 0, 1]]
def fl2c5 : List Val := List.map vI [[0, 1, 0, 1], [1, 1, 0, 1]]
def fl2c6 : List Val := List.map vI [[0, 0, 1, 1], [1, 0, 1, 1]]
def fl2c7 : List Val := List.map vI [[0, 1, 1, 1], [1, 1, 1, 1]]
def fl2 : List Val := fl2c0 ++ (fl2c1 ++ (fl2c2 ++ (fl2c3 ++ (fl2c4 ++ (fl2c5 ++ (fl2c6 ++ (fl2c7)))))))
def fr2 : Val := .list (List.map vI [[], [1], [0, 0, 1], [1, 0, 1], [1, 1], [0, 1], [1, 1, 1], [0, 1, 1], [0, 0, 1, 1], [1, 0, 1, 1], [0, 0, 0, 1], [1, 0, 0, 1], [1, 1, 1, 1], [0, 1, 1, 1], [1, 1, 0, 1], [0, 1, 0, 1]])
def fc2 : Val := vI [0, 0, 0, 0, 0, 0, 0, 0, 1, 1, 1, 1, 1, 1, 1, 1]
def fn2 : Val := vI [0, 1, 1, 1, 1, 1, 1, 1, 1, 1, 1, 1, 1, 1, 1, 1]
abbrev tf2 (c number : Val) : Option (Out Unit) := tailO c number fm2 (.list fl2) fr2 fc2 fn2 (.int 4) (.int 2)
theorem mid2s0 : mS0 (.int 2) (.int 4) = some fm2 := by kernel_rfl
theorem mid2s1 : mS1 (.int 2) (.int 4) fm2 = some (.list fl2) := by kernel_rfl
theorem mid2s2 : mS2 (.int 2) (.int 4) fm2 (.list fl2) = some fr2 := by kernel_rfl
theorem mid2s3 : mS3 (.int 2) (.int 4) fm2 (.list fl2) fr2 = some fc2 := by kernel_rfl
theorem mid2s4 : mS4 (.int 2) (.int 4) fm2 (.list fl2) fr2 fc2 = some fn2 := by kernel_rfl
theorem mid2s5 : mS5 (.int 2) (.int 4) fm2 (.list fl2) fr2 fc2 fn2 = some (.cont ()) := by kernel_rfl
theorem mid2s6 : mS6 (.int 2) (.int 4) fm2 (.list fl2) fr2 fc2 fn2 = some (.cont ()) := by kernel_rfl
theorem mid2 : mid (.int 2) (.int 4) = some (.cont (fm2, .list fl2, fr2, fc2, fn2)) := mid_of mid2s0 mid2s1 mid2s2 mid2s3 mid2s4 mid2s5 mid2s6
theorem tail2c0 : allT fl2c0 [0, 1] tf2 = true := by kernel_rfl
theorem tail2c1 : allT fl2c1 [0, 1] tf2 = true := by kernel_rfl
theorem tail2c2 : allT fl2c2 [0, 1] tf2 = true := by kernel_rfl
theorem tail2c3 : allT fl2c3 [0, 1] tf2 = true := by kernel_rfl
theorem tail2c4 : allT fl2c4 [0, 1] tf2 = true := by kernel_rfl
theorem tail2c5 : allT fl2c5 [0, 1] tf2 = true := by kernel_rfl
theorem tail2c6 : allT fl2c6 [0, 1] tf2 = true := by kernel_rfl
theorem tail2c7 : allT fl2c7 [0, 1] tf2 = true := by kernel_rfl
theorem tail2 : allT fl2 [0, 1] tf2 = true := (allT_append tail2c0 (allT_append tail2c1 (allT_append tail2c2 (allT_append tail2c3 (allT_append tail2c4 (allT_append tail2c5 (allT_append tail2c6 tail2c7)))))))
def fm3 : Val := vI [1, 0, 1]
def fl3c0 : List Val := List.map vI [[], [1], [2], [0, 1]]
def fl3c1 : List Val := List.map vI [[1, 1], [2, 1], [0, 2], [1, 2], [2, 2]]
def fl3 : List Val := fl3c0 ++ (fl3c1)
def fr3 : Val := .list (List.map vI [[], [1], [2], [0, 2], [1, 2], [2, 2], [0, 1], [1, 1], [2, 1]])
def fc3 : Val := vI [0, 2, 1, 0, 2, 1, 0, 2, 1]
def fn3 : Val := vI [0, 1, 1, 1, 2, 2, 1, 2, 2]
abbrev tf3 (c number : Val) : Option (Out Unit) := tailO c number fm3 (.list fl3) fr3 fc3 fn3 (.int 2) (.int 3)
theorem mid3s0 : mS0 (.int 3) (.int 2) = some fm3 := by kernel_rfl
theorem mid3s1 : mS1 (.int 3) (.int 2) fm3 = some (.list fl3) := by kernel_rfl
theorem mid3s2 : mS2 (.int 3) (.int 2) fm3 (.list fl3) = some fr3 := by kernel_rfl
theorem mid3s3 : mS3 (.int 3) (.int 2) fm3 (.list fl3) fr3 = some fc3 := by kernel_rfl
theorem mid3s4 : mS4 (.int 3) (.int 2) fm3 (.list fl3) fr3 fc3 = some fn3 := by kernel_rfl
theorem mid3s5 : mS5 (.int 3) (.int 2) fm3 (.list fl3) fr3 fc3 fn3 = some (.cont ()) := by kernel_rfl
theorem mid3s6 : mS6 (.int 3) (.int 2) fm3 (.list fl3) fr3 fc3 fn3 = some (.cont ()) := by kernel_rfl
theorem mid3 : mid (.int 3) (.int 2) = some (.cont (fm3, .list fl3, fr3, fc3, fn3)) := mid_of mid3s0 mid3s1 mid3s2 mid3s3 mid3s4 mid3s5 mid3s6
theorem tail3c0 : allT fl3c0 [0, 1, 2] tf3 = true := by kernel_rfl
theorem tail3c1 : allT fl3c1 [0, 1, 2] tf3 = true := by kernel_rfl
theorem tail3 : allT fl3 [0, 1, 2] tf3 = true := (allT_append tail3c0 tail3c1)
theorem mem2 {n : Int} (h0 : 0 ≤ n) (h1 : n < 2) : n ∈ ([0, 1] : List Int) := by
  obtain rfl | rfl : n = 0 ∨ n = 1 := by omega
  · decide
  · decide
theorem mem3 {n : Int} (h0 : 0 ≤ n) (h1 : n < 3) : n ∈ ([0, 1, 2] : List Int) := by
  obtain rfl | rfl | rfl : n = 0 ∨ n = 1 ∨ n = 2 := by omega
  · decide
  · decide
  · decide
theorem plain : Plain := by
  intro i h0 h1
  obtain rfl | rfl | rfl | rfl : i = 0 ∨ i = 1 ∨ i = 2 ∨ i = 3 := by omega
  · exact ⟨2, 2, fm0, fl0, fr0, fc0, fn0, rfl, by decide, mid0, by decide, by decide, fun ci a b number c d => allT_get tail0 (by decide) a b (mem2 c d)⟩
  · exact ⟨2, 3, fm1, fl1, fr1, fc1, fn1, rfl, by decide, mid1, by decide, by decide, fun ci a b number c d => allT_get tail1 (by decide) a b (mem2 c d)⟩
  · exact ⟨2, 4, fm2, fl2, fr2, fc2, fn2, rfl, by decide, mid2, by decide, by decide, fun ci a b number c d => allT_get tail2 (by decide) a b (mem2 c d)⟩
  · exact ⟨3, 2, fm3, fl3, fr3, fc3, fn3, rfl, by decide, mid3, by decide, by decide, fun ci a b number c d => allT_get tail3 (by decide) a b (mem3 c d)⟩

/-! text MJ -/
theorem lookup_map_name : ∀ (l : List DefRec) {x : Str} {d : DefRec}, (l.map fun d => (d.name, d)).lookup x = some d → d ∈ l ∧ d.name = x
  | [], _, _, e => by cases e
  | r :: l, x, d, e => by
    rw [List.map_cons, List.lookup_cons] at e
    split at e
    · rename_i h
      cases e
      exact ⟨List.mem_cons_self, (by simpa using h : x = r.name).symm⟩
    · obtain ⟨a, b⟩ := lookup_map_name l e
      exact ⟨List.mem_cons_of_mem _ a, b⟩

theorem well_ints {P : Params} {h : Heap} {M : Addr → Prop} : ∀ {ns : List Int} {vs : List Value}, WellAll P h vs (ofPys (ns.map PyData.int)) → RepL h M (ns.map Val.int) vs
  | [], vs, x => by
    simp only [List.map_nil, ofPys] at x
    cases x
    exact RepL.nil
  | n :: ns, vs, x => by
    simp only [List.map_cons, ofPys, ofPy] at x
    cases x with
    | cons a b =>
      cases a
      exact RepL.cons rep_int (well_ints b)

theorem well_script {P : Params} {h : Heap} {ns : List Int} {a : Addr} (x : Well P h (.ref a) (ofPy (PyData.list (ns.map PyData.int)))) : Rep h (fun _ => False) (.list (ns.map .int)) (.ref a) := by
  simp only [ofPy] at x
  cases x with
  | list ho hw =>
    simp only [Rep]
    exact ⟨a, _, rfl, fun h => h, ⟨0, ho⟩, well_ints hw⟩

def sizesW : WData := .tuple [.tuple [.int 2, .int 2], .tuple [.int 2, .int 3], .tuple [.int 2, .int 4], .tuple [.int 3, .int 2]]

theorem readsW_pair {h : Heap} {v : Value} {R cl as} {i j : Int} (x : ReadsW R cl h v (.tuple [.int i, .int j]) as) : Rep h (fun _ => False) (.tup [.int i, .int j]) v := by
  cases x with
  | tuple ho hc hd hr =>
    rename_i a o vs n
    cases e : vs.toList with
    | nil => rw [e] at hr; cases hr
    | cons v1 r =>
      rw [e] at hr
      cases hr with
      | cons h1 hr =>
        cases h1
        cases hr with
        | cons h2 hr =>
          cases h2
          cases hr
          simp only [Rep]
          exact ⟨a, _, rfl, fun h => h, ⟨o, ho, hc, n, by rw [← e, Array.toArray_toList]; exact hd⟩, RepL.cons rep_int (RepL.cons rep_int RepL.nil)⟩

theorem sizes_rep {h : Heap} {v : Value} {R cl as} (x : ReadsW R cl h v sizesW as) : Rep h (fun _ => False) (.tup sizesL) v := by
  unfold sizesW at x
  cases x with
  | tuple ho hc hd hr =>
    rename_i a o vs n
    have key : ∀ {us : List Value} {bs}, ReadsAllW R cl h us [.tuple [.int 2, .int 2], .tuple [.int 2, .int 3], .tuple [.int 2, .int 4], .tuple [.int 3, .int 2]] bs → RepL h (fun _ => False) sizesL us := by
      intro us bs hr
      cases hr with
      | cons h1 hr =>
        cases hr with
        | cons h2 hr =>
          cases hr with
          | cons h3 hr =>
            cases hr with
            | cons h4 hr =>
              cases hr
              exact RepL.cons (readsW_pair h1) (RepL.cons (readsW_pair h2) (RepL.cons (readsW_pair h3) (RepL.cons (readsW_pair h4) RepL.nil)))
    simp only [Rep]
    exact ⟨a, vs.toList, rfl, fun h => h, ⟨o, ho, hc, n, by rw [Array.toArray_toList]; exact hd⟩, key hr⟩

theorem top_ok {q : Program} (hq : recsOf q = recsOf P0) {loose : List Str} {mean : ExcName → Option Value} {mg mb : Str → Option Value} {w : World} {h : Heap} (T : Top q loose mean mg mb h)
    (hfree : (builtinNames.all fun p => !(startupNames ++ loose ++ (recsOf q).map (·.name) ++ (litsOf q).map (·.1) ++ (clssOf q loose).map (·.name)).contains p.1) = true) : TopOK ⟨P0, w, mg, mb, fun x => dlist.lookup x⟩ h where
  g := T.g
  b := T.b
  lim := T.nolimit
  fn := fun x d e => by
    obtain ⟨hm, hn⟩ := lookup_map_name _ e
    obtain ⟨a, o, pm, code, doc, h1, h2, h3, h4⟩ := T.fn d (by rw [hq]; exact hm)
    exact ⟨hn, a, h1, o, pm, code, doc, h2, h3, h4⟩
  bi := fun p hp => by
    have h1 := List.all_eq_true.mp hfree p hp
    simp only [Bool.not_eq_true', List.contains_eq_mem, decide_eq_false_iff_not, List.mem_append, not_or] at h1
    obtain ⟨⟨⟨⟨h1, h2⟩, h3⟩, h4⟩, h5⟩ := h1
    refine ⟨T.free p.1 h1 h2 h3 h4 h5, ?_⟩
    have hb : (builtinNames.all fun p => !(p.1 == ("__name__" : Str))) = true := by decide +kernel
    have hb2 : (builtinNames.map fun p => bootBuiltins p.1) = builtinNames.map fun p => some p.2 := by kernel_rfl
    have hb1 := List.all_eq_true.mp hb p hp
    show mb p.1 = some p.2
    rw [T.builtins p.1 (by simpa using hb1)]
    exact List.map_inj_left.mp hb2 p hp

theorem room_caller : Room callerA 10 := ⟨rfl, by decide +kernel, by decide +kernel⟩

theorem law_goal {q : Program} (hq : recsOf q = recsOf P0) (hl : wlitsOf q = [(("_law_sizes" : Str), sizesW)]) {loose : List Str} {mean : ExcName → Option Value} {mg mb : Str → Option Value} {w : World} {s₁ : Shared} (T : Top q loose mean mg mb s₁.heap) (TW : TopW q mg s₁.heap)
    (hfree : (builtinNames.all fun p => !(startupNames ++ loose ++ (recsOf q).map (·.name) ++ (litsOf q).map (·.1) ++ (clssOf q loose).map (·.name)).contains p.1) = true) {fa aw : Addr} {ns : List Int} (hmg : mg "law" = some (.ref fa))
    (hw : Well w.params s₁.heap (.ref aw) (ofPy (PyData.list (ns.map PyData.int)))) (hlen : ns.length ≤ 63) (hP : Plain) {Q E : Value → Shared → Prop} (hQ : ∀ s', Keeps s₁ s' → Q (.bool true) s') :
    wpAny (model P0 w) callerA (call (.ref fa) [.ref aw]) Q E s₁ := by
  have TO := top_ok (w := w) hq T hfree
  obtain ⟨hn, a, hfn⟩ := TO.fn "law" (recAt 46) df_law
  have h1 := hfn.name
  rw [hn] at h1
  have h2 : mg "law" = some (.ref a) := h1
  rw [hmg] at h2
  cases h2
  obtain ⟨wz, z1, z2⟩ := TW.lits (("_law_sizes" : Str), sizesW) (by rw [hl]; exact List.mem_cons_self)
  exact law_call (C := ⟨P0, w, mg, mb, fun x => dlist.lookup x⟩) rfl room_caller TO hfn (well_script hw) hlen z1 (sizes_rep z2) hP hQ

theorem post_ok (args : List WData) : PySem.Challenge.rw_pf0046_01.row.claim.post args (.bool true) args = true := by kernel_rfl

/-! text HK -/
def lawView : Program := { PySem.Challenge.pw_pf0046_01 with main := { PySem.Challenge.pw_pf0046_01.main with body := PySem.Challenge.pw_pf0046_01.main.body.filter fun st => match st with | .Assign [.Name x _] _ _ => !(x == ("__name__" : Str)) | _ => true } }

/-! the top's run over a tree of objects -/
def runT (thr ok : Thread → Bool) (stp : SharedT → Thread → Option (SharedT × Thread)) : Nat → SharedT → Thread → Option SharedT
  | 0, _, _ => none
  | n + 1, s, t => match thr t with
    | true => some s
    | false => match ok t with
      | false => none
      | true => match stp s t with
        | some (s', t') => runT thr ok stp n s' t'
        | none => none
theorem runT_of {tb : String → Option Builtin} {p : Program} {w : World} {n₀ : Nat} {ann : Option Value} : ∀ {n : Nat} {s s' : SharedT} {t : Thread}, runT through (stepOk n₀ ann) (stepT (denote tb) p w) n s t = some s' → topRun tb p w n₀ ann n s.abs t = some s'.abs
  | 0, _, _, _, h => by cases h
  | n + 1, s, s', t, h => by
    unfold runT at h
    unfold topRun
    cases ht : through t with
    | true => rw [ht] at h; cases h; rfl
    | false =>
      rw [ht] at h
      cases hk : stepOk n₀ ann t with
      | false => rw [hk] at h; cases h
      | true =>
        rw [hk] at h
        cases hs : stepT (denote tb) p w s t with
        | none => rw [hs] at h; cases h
        | some r => obtain ⟨s₂, t₂⟩ := r; rw [hs] at h; rw [stepT_spec hs]; exact runT_of h
def treeOf : Nat → List Obj → BT → BT
  | _, [], t => t
  | i, o :: l, t => treeOf (i + 1) l (t.ins i o)
def bootT (P : Params) : BT := treeOf 0 (boot_heap P).objs.toList .nil
def sT (w : World) (os : OsState) : SharedT := ⟨bootT w.params, (boot_heap w.params).objs.size, (boot_heap w.params).life, Array.mk [], boot_drawn, boot_toks, os⟩
theorem sT_abs (w : World) (os : OsState) : (sT w os).abs = ⟨boot_heap w.params, Array.mk [], boot_drawn, boot_toks, os⟩ := by kernel_rfl
def annB (w : World) : Option Value := (boot_heap w.params).nsMap mainGlobals "__annotations__"
theorem left_ns (w : World) : ((boot_heap w.params).isNs mainGlobals && (Array.mk [] : Array GenState).size == 0) = true := by kernel_rfl
theorem left_size (w : World) : (boot_heap w.params).objs.size = 11 := by kernel_rfl
theorem left_ann (w : World) : (boot_heap w.params).nsMap mainGlobals "__annotations__" = some (.ref 6) := by kernel_rfl

theorem left_boot {p q : Program} {loose : List Str} {Xt : Shared → Bool} {α : Type} {Yf : Shared → α} {Ya : World → α} {N : Nat} {g0 : Bool} (e : opening p = plainProg p.main.scope.names) (hN : Nat.ble 600 N = true) (f : ∀ s, fenceModules? p s = some s)
    (h : ∀ (w : World) (os : OsState), (runT through (stepOk 11 (some (.ref 6))) (stepT (denote treeTable) p w) N (sT w os) (topStub p)).map (fun s => (staticsOk (importedModules p.main.body) (boot_heap w.params) s.abs.heap && namesBound p s.abs.heap && gensDone s.abs && laidKept (boot_heap w.params) s.abs.heap,
      openSeen q loose (importedModules p.main.body) Xt g0 s.abs, Yf s.abs)) = some (true, openGood q loose, Ya w)) : LeftO p q loose Xt Yf Ya N g0 := fun w => by
  obtain ⟨s, hs, hv⟩ := Option.map_eq_some_iff.mp (boot_open e hN f w)
  obtain ⟨hp, g, d, t, os⟩ := s
  simp only [Prod.mk.injEq] at hv
  obtain ⟨rfl, rfl, rfl, rfl⟩ := hv
  obtain ⟨s', hr, hl⟩ := Option.map_eq_some_iff.mp (h w os)
  simp only [Prod.mk.injEq] at hl
  obtain ⟨l1, l2, l3⟩ := hl
  have hrun := runT_of hr
  rw [sT_abs] at hrun
  unfold openEnds
  rw [hs]
  show ((topFrom treeTable p w N _).map _) = _
  unfold topFrom
  rw [left_ns, left_size, left_ann, hrun]
  show ((match staticsOk (importedModules p.main.body) (boot_heap w.params) s'.abs.heap && namesBound p s'.abs.heap && gensDone s'.abs && laidKept (boot_heap w.params) s'.abs.heap with | true => some s'.abs | false => none).map _) = _
  rw [l1]
  show some (_, _) = _
  rw [l2, l3]
theorem left_e : opening PySem.Challenge.pw_pf0046_01 = plainProg PySem.Challenge.pw_pf0046_01.main.scope.names := by kernel_rfl
theorem left_f (s : Shared) : fenceModules? PySem.Challenge.pw_pf0046_01 s = some s := by kernel_rfl
set_option maxRecDepth 100000 in
theorem left_top (w : World) (os : OsState) : (runT through (stepOk 11 (some (.ref 6))) (stepT (denote treeTable) PySem.Challenge.pw_pf0046_01 w) 3104 (sT w os) (topStub PySem.Challenge.pw_pf0046_01)).map (fun s => (staticsOk (importedModules PySem.Challenge.pw_pf0046_01.main.body) (boot_heap w.params) s.abs.heap && namesBound PySem.Challenge.pw_pf0046_01 s.abs.heap && gensDone s.abs && laidKept (boot_heap w.params) s.abs.heap,
      openSeen lawView [] (importedModules PySem.Challenge.pw_pf0046_01.main.body) (fun s => xlAt lawView [] s && recOk [] s) true s.abs, Hook.none.obs s.abs)) = some (true, openGood lawView [], Hook.none.val w) := by
  -- the library's faster twins of openSeen, importedModules, stepOk, stepT, denote, treeTable: without them the check goes through as well, slower
  try rw [Fast.te4187177175401517315]
  try rw [Fast.te5923862056798008813]
  try rw [Fast.te6613529449190102663]
  try rw [Fast.te10156331382660048174]
  try rw [Fast.te11892475500146522536]
  try rw [Fast.te14364793385576792824]
  kernel_rfl
theorem left_law : LeftO PySem.Challenge.rw_pf0046_01.row.prog lawView [] (fun s => xlAt lawView [] s && recOk [] s) Hook.none.obs Hook.none.val 3104 := left_boot left_e rfl left_f left_top
/-! text HH -/
abbrev lawXt (s : Shared) : Bool := xlAt lawView [] s && recOk [] s

theorem law_walk {R : WRecords} {XP : (Str → Option Value) → Heap → Prop} {w : World} {s₀ s₁ : Shared} {mg mb : Str → Option Value} (G : Ground lawView [] R XP w s₀ mg mb s₁.heap) {fa aw : Addr} {ns : List Int} (hmg : mg "law" = some (.ref fa))
    (hg : s₁.gens = #[]) (hw : Well w.params s₁.heap (.ref aw) (ofPy (PyData.list (ns.map PyData.int)))) (hlen : ns.length ≤ 63) {cl : Str → Option Addr} {mean : ExcName → Option Value} {args : List WData} {E : Value → Shared → Prop} :
    wpAny (model P0 w) callerA (call (.ref fa) [.ref aw]) (fun v s' => GoodWG PySem.Challenge.rw_pf0046_01.row.claim cl mean args s₁ (.ok (.ret v)) s') E s₁ :=
  law_goal (by kernel_rfl) (by kernel_rfl) G.T G.W (by decide +kernel) hmg hw hlen plain fun s' k => GoodW.toG ⟨.inl ⟨_, .bool true, [], rfl, fun _ => rfl, .bool _, post_ok _, fun _ => ⟨List.nodup_nil, fun _ h => nomatch h⟩⟩, kh k, by obtain ⟨h, t, rfl, _⟩ := k; rfl, by obtain ⟨h, t, rfl, _⟩ := k; exact hg⟩
end Mine
end
set_option maxRecDepth 100000 in
set_option maxHeartbeats 8000000 in
theorem PySem.Challenge.cw_pf0046_01_holds : PySem.Challenge.rw_pf0046_01.Holds := by
  w_on
  o_law
  refine holds_open (q := Mine.lawView) (loose := []) (Xt := Mine.lawXt) (XP := XL Mine.lawView []) (YP := Hook.none.says) (d := Mine.recAt 46) (kwd := []) (N := 3104) Mine.left_law Hook.none.of Hook.none.keeps
    (fun s e => xl_of s (Bool.and_eq_true_iff.mp e).1) XL.keeps (by kernel_rfl) (by kernel_rfl) (by rfl) (fun s e => recFacts_of (Bool.and_eq_true_iff.mp e).2) (by rfl) (by first | assumption | decide +kernel) (by decide +kernel) ⟨rfl, rfl, rfl, rfl, rfl, by decide +kernel⟩ ?hw ?hc
  case hw => w_witness2
  intro w s₀ s₁ mg mb G Y fa o pm cd doc dV kV ho hd hcd hD hmg hg args vals as hpre hlay hrd hwl hlo
  wrow_args hpre hlay hrd hwl hlo
  rename Well _ _ _ _ => hw
  exact Mine.law_walk G hmg hg hw (by omega)
