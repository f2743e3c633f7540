import PyProof.Rows.All
import Wide.All
import OpenK.AllK
import Wide.FinOn
import Lean
import PySem.Challenge.RW_nz0176_01
open PySem PySem.W PyProof.Rows
set_option Elab.async false
set_option maxRecDepth 100000
set_option compiler.extract_closed false

-- H1
namespace Mine
set_option maxHeartbeats 8000000
open_top hd for PySem.Challenge.rw_nz0176_01
end Mine

-- E1
namespace Mine
set_option linter.unusedVariables false
open PySem PySem.W PySem.Calls PyProof.Rows

abbrev Sub (h h' : Heap) : Prop := ∀ b o, h.get? b = some o → h'.get? b = some o
theorem Sub.rfl' {h : Heap} : Sub h h := fun _ _ e => e
theorem Sub.tr {a b c : Heap} (x : Sub a b) (y : Sub b c) : Sub a c := fun _ _ e => y _ _ (x _ _ e)
theorem Sub.none {a b : Heap} (x : Sub a b) {l : Addr} (h : b.get? l = none) : a.get? l = none := by
  cases e : a.get? l with
  | none => rfl
  | some o => rw [x _ _ e] at h; cases h

structure Kp (s s' : Shared) : Prop where
  same : ∃ h tk, s' = { s with heap := h, toks := tk }
  sub : Sub s.heap s'.heap
theorem Kp.rfl' {s : Shared} : Kp s s := ⟨⟨s.heap, s.toks, rfl⟩, fun _ _ e => e⟩
theorem Kp.tr {a b c : Shared} (x : Kp a b) (y : Kp b c) : Kp a c := by
  obtain ⟨⟨h, t, rfl⟩, k⟩ := x
  obtain ⟨⟨h', t', rfl⟩, k'⟩ := y
  exact ⟨⟨h', t', rfl⟩, fun b o e => k' _ _ (k _ _ e)⟩
theorem Kp.mk' {s : Shared} {h : Heap} {t : Nat} (k : Sub s.heap h) : Kp s { s with heap := h, toks := t } := ⟨⟨h, t, rfl⟩, k⟩
theorem Kp.keeps {s s' : Shared} (k : Kp s s') : Keeps s s' := by obtain ⟨⟨h, t, rfl⟩, k⟩ := k; exact ⟨h, t, rfl, k⟩
theorem Kp.of {s s' : Shared} (k : Keeps s s') : Kp s s' := by obtain ⟨h, t, rfl, k⟩ := k; exact ⟨⟨h, t, rfl⟩, k⟩

/-- holds from here on -/
def Box {α : Type} (P : α → Heap → Prop) (v : α) (h : Heap) : Prop := ∀ h', Sub h h' → P v h'
theorem Box.here {α : Type} {P : α → Heap → Prop} {v : α} {h : Heap} (b : Box P v h) : P v h := b h Sub.rfl'
theorem Box.up {α : Type} {P : α → Heap → Prop} {v : α} {h h' : Heap} (b : Box P v h) (s : Sub h h') : Box P v h' := fun _ k => b _ (s.tr k)

/-- the tree ends with a value, and the heap only grows -/
def Ev (prog : Program) (w : World) (A : Around) {α : Type} (t : Sem α) (h₀ : Heap) (P : α → Heap → Prop) : Prop :=
  ∀ (s : Shared) (E : Value → Shared → Prop), Sub h₀ s.heap → wpAny (model prog w) A t (fun v s' => Box P v s'.heap ∧ Kp s s') E s

section
variable {prog : Program} {w : World} {A : Around} {h₀ h₁ : Heap} {α β : Type}

theorem Ev.up {t : Sem α} {P : α → Heap → Prop} (h : Ev prog w A t h₀ P) (k : Sub h₀ h₁) : Ev prog w A t h₁ P := fun s E hs => h s E (k.tr hs)
theorem Ev.mono {t : Sem α} {P P' : α → Heap → Prop} (h : Ev prog w A t h₀ P) (k : ∀ v h, Sub h₀ h → P v h → P' v h) : Ev prog w A t h₀ P' :=
  fun s E hs => wpAny_mono (h s E hs) (fun v s' hv => ⟨fun h' hk => k v h' (hs.tr (hv.2.sub.tr hk)) (hv.1 h' hk), hv.2⟩) fun _ _ e => e
theorem Ev.ret {v : α} {P : α → Heap → Prop} (h : ∀ h, Sub h₀ h → P v h) : Ev prog w A (pure v) h₀ P :=
  fun s E hs => wpAny_pure ⟨fun h' hk => h h' (hs.tr hk), Kp.rfl'⟩
theorem Ev.bind {t : Sem α} {f : α → Sem β} {P₁ : α → Heap → Prop} {P : β → Heap → Prop} (ht : Ev prog w A t h₀ P₁) (hf : ∀ v h, Sub h₀ h → Box P₁ v h → Ev prog w A (f v) h P) :
    Ev prog w A (t >>= f) h₀ P :=
  fun s E hs => wpAny_bind (wpAny_mono (ht s E hs) (fun v s' hv => wpAny_mono (hf v s'.heap (hs.tr hv.2.sub) hv.1 s' E Sub.rfl') (fun _ _ hq => ⟨hq.1, hv.2.tr hq.2⟩) fun _ _ e => e) fun _ _ e => e)
/-- use it, at a state -/
theorem Ev.use {t : Sem α} {P : α → Heap → Prop} {s : Shared} {E : Value → Shared → Prop} {Q : α → Shared → Prop} (h : Ev prog w A t s.heap P)
    (hQ : ∀ v s', Kp s s' → Box P v s'.heap → Q v s') : wpAny (model prog w) A t Q E s :=
  wpAny_mono (h s E Sub.rfl') (fun v s' hv => hQ v s' hv.2 hv.1) fun _ _ e => e
theorem Ev.use' {t : Sem α} {P : α → Heap → Prop} {s : Shared} {E : Value → Shared → Prop} {Q : α → Shared → Prop} (h : Ev prog w A t h₀ P) (hs : Sub h₀ s.heap)
    (hQ : ∀ v s', Kp s s' → Box P v s'.heap → Q v s') : wpAny (model prog w) A t Q E s := (h.up hs).use hQ
/-- from a rule in the library's way -/
theorem Ev.of {t : Sem α} {P : α → Heap → Prop} (h : ∀ (s : Shared) (E : Value → Shared → Prop) (Q : α → Shared → Prop), Sub h₀ s.heap →
    (∀ v h' tk, Sub s.heap h' → Box P v h' → Q v { s with heap := h', toks := tk }) → wpAny (model prog w) A t Q E s) : Ev prog w A t h₀ P :=
  fun s E hs => h s E _ hs fun _ _ _ hk hp => ⟨hp, Kp.mk' hk⟩
/-- a rule that makes no object -/
theorem Ev.of0 {t : Sem α} {P : α → Heap → Prop} (h : ∀ (s : Shared) (E : Value → Shared → Prop) (Q : α → Shared → Prop), Sub h₀ s.heap →
    (∀ v tk, Box P v s.heap → Q v { s with toks := tk }) → wpAny (model prog w) A t Q E s) : Ev prog w A t h₀ P :=
  fun s E hs => h s E _ hs fun _ _ hp => ⟨hp, Kp.mk' Sub.rfl'⟩

def IsI (k : Int) (v : Value) (_ : Heap) : Prop := ∃ t, v = .int k t
def IsS (x : Str) (v : Value) (_ : Heap) : Prop := ∃ t, v = .str x t
def IsV (u : Value) (v : Value) (_ : Heap) : Prop := v = u
abbrev IsB (b : Bool) : Value → Heap → Prop := IsV (.bool b)
abbrev IsN : Value → Heap → Prop := IsV .none
def TB (b : Bool) (v : Bool) (_ : Heap) : Prop := v = b
theorem IsI.box {k : Int} {t : Tok} {h : Heap} : Box (IsI k) (.int k t) h := fun _ _ => ⟨t, rfl⟩
theorem IsS.box {k : Str} {t : Tok} {h : Heap} : Box (IsS k) (.str k t) h := fun _ _ => ⟨t, rfl⟩
theorem IsV.box {u : Value} {h : Heap} : Box (IsV u) u h := fun _ _ => rfl
theorem TB.box {u : Bool} {h : Heap} : Box (TB u) u h := fun _ _ => rfl

theorem Ev.int_eq {t : Sem Value} {k k' : Int} (h : Ev prog w A t h₀ (IsI k)) (e : k = k') : Ev prog w A t h₀ (IsI k') := e ▸ h

/-- a list with its ints -/
abbrev lobj (vs : List Value) (n : Nat) : Obj := { cls := .type "list", data := .seq vs.toArray n }
def Lst (h : Heap) (l : Addr) (ns : List Int) : Prop := ∃ vs : List Value, h.IsList l vs.toArray ∧ IntsAre vs ns
def NewL (h₀ : Heap) (ns : List Int) (v : Value) (h : Heap) : Prop := ∃ l vs n, v = .ref l ∧ h₀.get? l = none ∧ h.get? l = some (lobj vs n) ∧ IntsAre vs ns

theorem IsList.up {h h' : Heap} {l : Addr} {ys : Array Value} (x : h.IsList l ys) (k : Sub h h') : h'.IsList l ys := x.at fun o e => k _ o e
theorem Lst.up {h h' : Heap} {l : Addr} {ns : List Int} (x : Lst h l ns) (k : Sub h h') : Lst h' l ns := let ⟨vs, a, b⟩ := x; ⟨vs, IsList.up a k, b⟩
theorem NewL.box {l : Addr} {vs : List Value} {n : Nat} {ns : List Int} {h : Heap} (hl : h₀.get? l = none) (x : h.get? l = some (lobj vs n)) (i : IntsAre vs ns) : Box (NewL h₀ ns) (.ref l) h := fun _ k => ⟨l, vs, n, rfl, hl, k _ _ x, i⟩
theorem Lst.isList {h : Heap} {l : Addr} {ns : List Int} (x : Lst h l ns) : ∃ vs : List Value, h.IsList l vs.toArray ∧ IntsAre vs ns := x
theorem Lst.mk' {h : Heap} {l : Addr} {vs : List Value} {n : Nat} {ns : List Int} (a : h.get? l = some (lobj vs n)) (b : IntsAre vs ns) : Lst h l ns := ⟨vs, ⟨_, a, rfl, n, rfl⟩, b⟩
theorem NewL.lst {v : Value} {ns : List Int} {h : Heap} (x : NewL h₀ ns v h) : ∃ l, v = .ref l ∧ Lst h l ns := let ⟨l, vs, n, e, _, o, i⟩ := x; ⟨l, e, Lst.mk' o i⟩
theorem NewL.base {v : Value} {ns : List Int} {h : Heap} (x : NewL h₁ ns v h) (k : Sub h₀ h₁) : NewL h₀ ns v h := let ⟨l, vs, n, e, f, o, i⟩ := x; ⟨l, vs, n, e, k.none f, o, i⟩

-- names
def Has (env : Env) (h₀ : Heap) (x : Str) (v : Value) : Prop :=
  ∀ (M : Model) (A : Around) (E : Value → Shared → Prop) (s : Shared) (Q : Value → Shared → Prop), Sub h₀ s.heap → Q v s → wpAny M A (loadName env x) Q E s
theorem Has.up {env : Env} {x : Str} {v : Value} (h : Has env h₀ x v) (k : Sub h₀ h₁) : Has env h₁ x v := fun M A E s Q hs => h M A E s Q (k.tr hs)
theorem Has.loc {env : Env} {x : Str} {v : Value} {m : Str → Option Value} (hk : env.scope.kind = .function) (hl : env.kindOf x = some .local) (hn : h₀.Ns env.locals m) (hv : m x = some v) : Has env h₀ x v :=
  fun _ _ _ _ _ hs hq => wpAny_loadName_local hk hl (hn.keeps hs) hv hq
theorem Has.cell {env : Env} {x : Str} {v : Value} {c : Addr} (hk : env.scope.kind = .function) (hl : env.kindOf x = some .cell) (hc : env.cells.lookup x = some c) (hv : h₀.IsCell c (some v)) : Has env h₀ x v :=
  fun _ _ _ _ _ hs hq => wpAny_loadName_cell hk hl hc (hv.keeps hs) hq
theorem Has.free {env : Env} {x : Str} {v : Value} {c : Addr} (hk : env.scope.kind = .function) (hl : env.kindOf x = some .free) (hc : env.cells.lookup x = some c) (hv : h₀.IsCell c (some v))
    (hn : (x == ("__classdict__" : Str)) = false) : Has env h₀ x v :=
  fun _ _ _ _ _ hs hq => wpAny_loadName_free hk hl hc (hv.keeps hs) hq hn
theorem Ev.name {env : Env} {x : Str} {v : Value} {pos : Pos} (h : Has env h₀ x v) (hd : (x == ("__debug__" : Str)) = false := by decide) : Ev prog w A (eval (.Name x pos) env) h₀ (IsV v) :=
  fun s _ hs => wpAny_Name (h _ _ _ s _ hs ⟨IsV.box, Kp.rfl'⟩) hd
theorem Ev.nameI {env : Env} {x : Str} {k : Int} {t : Tok} {pos : Pos} (h : Has env h₀ x (.int k t)) (hd : (x == ("__debug__" : Str)) = false := by decide) : Ev prog w A (eval (.Name x pos) env) h₀ (IsI k) :=
  fun s _ hs => wpAny_Name (h _ _ _ s _ hs ⟨IsI.box, Kp.rfl'⟩) hd
theorem Ev.nameS {env : Env} {x : Str} {k : Str} {t : Tok} {pos : Pos} (h : Has env h₀ x (.str k t)) (hd : (x == ("__debug__" : Str)) = false := by decide) : Ev prog w A (eval (.Name x pos) env) h₀ (IsS k) :=
  fun s _ hs => wpAny_Name (h _ _ _ s _ hs ⟨IsS.box, Kp.rfl'⟩) hd

-- constants
theorem Ev.cInt {env : Env} {i : Int} {k : Nat} {pos : Pos} : Ev prog w A (eval (.Constant (.int i) k pos) env) h₀ (IsI i) := fun _ _ _ => wpAny_Constant_int ⟨IsI.box, Kp.mk' Sub.rfl'⟩
theorem Ev.cStr {env : Env} {i : Str} {k : Nat} {pos : Pos} : Ev prog w A (eval (.Constant (.str i) k pos) env) h₀ (IsS i) := fun _ _ _ => Constant_str ⟨IsS.box, Kp.mk' Sub.rfl'⟩
theorem Ev.cNone {env : Env} {k : Nat} {pos : Pos} : Ev prog w A (eval (.Constant .none k pos) env) h₀ IsN := fun _ _ _ => wpAny_Constant_none ⟨IsV.box, Kp.rfl'⟩
theorem Ev.cBool {env : Env} {b : Bool} {k : Nat} {pos : Pos} : Ev prog w A (eval (.Constant (.bool b) k pos) env) h₀ (IsB b) := fun _ _ _ => wpAny_Constant_bool ⟨IsV.box, Kp.rfl'⟩

-- binary operations
theorem Ev.bin {env : Env} {l r : Expr} {op : Operator} {pos : Pos} {Pl Pr P : Value → Heap → Prop} (hl : Ev prog w A (eval l env) h₀ Pl) (hr : Ev prog w A (eval r env) h₀ Pr)
    (ho : ∀ a b h, Sub h₀ h → Pl a h → Pr b h → Ev prog w A (binaryOp op a b) h P) : Ev prog w A (eval (.BinOp l op r pos) env) h₀ P :=
  fun s E hs => wpAny_BinOp (wpAny_mono (hl s E hs) (fun a s₁ ha => wpAny_mono (hr s₁ E (hs.tr ha.2.sub)) (fun b s₂ hb =>
    wpAny_mono (ho a b s₂.heap (hs.tr (ha.2.sub.tr hb.2.sub)) (ha.1 _ hb.2.sub) hb.1.here s₂ E Sub.rfl') (fun _ _ hq => ⟨hq.1, ha.2.tr (hb.2.tr hq.2)⟩) fun _ _ e => e) fun _ _ e => e) fun _ _ e => e)
theorem Ev.un {env : Env} {x : Expr} {op : UnaryOp} {pos : Pos} {Pl P : Value → Heap → Prop} (hl : Ev prog w A (eval x env) h₀ Pl)
    (ho : ∀ a h, Sub h₀ h → Pl a h → Ev prog w A (unaryOp op a) h P) : Ev prog w A (eval (.UnaryOp op x pos) env) h₀ P :=
  fun s E hs => wpAny_UnaryOp (wpAny_mono (hl s E hs) (fun a s₁ ha =>
    wpAny_mono (ho a s₁.heap (hs.tr ha.2.sub) ha.1.here s₁ E Sub.rfl') (fun _ _ hq => ⟨hq.1, ha.2.tr hq.2⟩) fun _ _ e => e) fun _ _ e => e)

section
variable {env : Env} {l r : Expr} {pos : Pos} {a b : Int}
theorem Ev.add (hl : Ev prog w A (eval l env) h₀ (IsI a)) (hr : Ev prog w A (eval r env) h₀ (IsI b)) : Ev prog w A (eval (.BinOp l .Add r pos) env) h₀ (IsI (a + b)) :=
  Ev.bin hl hr fun _ _ _ _ ⟨_, e⟩ ⟨_, e'⟩ => e ▸ e' ▸ Ev.of0 fun _ _ _ _ hq => add_int (hq _ _ IsI.box)
theorem Ev.sub (hl : Ev prog w A (eval l env) h₀ (IsI a)) (hr : Ev prog w A (eval r env) h₀ (IsI b)) : Ev prog w A (eval (.BinOp l .Sub r pos) env) h₀ (IsI (a - b)) :=
  Ev.bin hl hr fun _ _ _ _ ⟨_, e⟩ ⟨_, e'⟩ => e ▸ e' ▸ Ev.of0 fun _ _ _ _ hq => sub_int (hq _ _ IsI.box)
theorem Ev.mul (hl : Ev prog w A (eval l env) h₀ (IsI a)) (hr : Ev prog w A (eval r env) h₀ (IsI b)) (hm : IntMulOk a b) : Ev prog w A (eval (.BinOp l .Mult r pos) env) h₀ (IsI (a * b)) :=
  Ev.bin hl hr fun _ _ _ _ ⟨_, e⟩ ⟨_, e'⟩ => e ▸ e' ▸ Ev.of0 fun _ _ _ _ hq => mul_int (hq _ _ IsI.box) hm
theorem Ev.mod (hl : Ev prog w A (eval l env) h₀ (IsI a)) (hr : Ev prog w A (eval r env) h₀ (IsI b)) (hb : b ≠ 0) : Ev prog w A (eval (.BinOp l .Mod r pos) env) h₀ (IsI (a.fmod b)) :=
  Ev.bin hl hr fun _ _ _ _ ⟨_, e⟩ ⟨_, e'⟩ => e ▸ e' ▸ Ev.of0 fun _ _ _ _ hq => mod_int' hb (hq _ _ IsI.box)
theorem noPy {a b : Int} (h0 : 0 < b) (h : b < 2 ^ 64) : Builtin.divisionGoesByPylong a b = false :=
  PyProof.noPylong_of_log2 (Nat.lt_trans ((Nat.log2_lt (by omega)).mpr (show b.natAbs < 2 ^ 64 by omega)) (by decide))
theorem Ev.fdiv (hl : Ev prog w A (eval l env) h₀ (IsI a)) (hr : Ev prog w A (eval r env) h₀ (IsI b)) (hb : 0 < b) (hb2 : b < 2 ^ 64) : Ev prog w A (eval (.BinOp l .FloorDiv r pos) env) h₀ (IsI (a.fdiv b)) :=
  Ev.bin hl hr fun _ _ _ hs ⟨_, e⟩ ⟨_, e'⟩ => e ▸ e' ▸ Ev.of0 fun s _ _ hs' hq => floordiv_int (by omega) (hq _ _ IsI.box) (.inl (noPy hb hb2))
theorem Ev.pow (hl : Ev prog w A (eval l env) h₀ (IsI a)) (hr : Ev prog w A (eval r env) h₀ (IsI b)) (hn : 0 ≤ b) (hn2 : b ≤ 1000000) (ha : a.natAbs < 2 ^ 64) : Ev prog w A (eval (.BinOp l .Pow r pos) env) h₀ (IsI (a ^ b.toNat)) :=
  Ev.bin hl hr fun _ _ _ _ ⟨_, e⟩ ⟨_, e'⟩ => e ▸ e' ▸ Ev.of0 fun _ _ _ _ hq => pow_int_small hn hn2 ha (hq _ _ IsI.box)
theorem Ev.shl (hl : Ev prog w A (eval l env) h₀ (IsI a)) (hr : Ev prog w A (eval r env) h₀ (IsI b)) (hn : 0 ≤ b) (hn2 : b ≤ 1000000) (ha : a.natAbs < 2 ^ 64) : Ev prog w A (eval (.BinOp l .LShift r pos) env) h₀ (IsI (a * 2 ^ b.toNat)) :=
  Ev.bin hl hr fun _ _ _ _ ⟨_, e⟩ ⟨_, e'⟩ => e ▸ e' ▸ Ev.of0 fun _ _ _ _ hq => lshift_int_small hn hn2 ha (hq _ _ IsI.box)
theorem Ev.shr (hl : Ev prog w A (eval l env) h₀ (IsI a)) (hr : Ev prog w A (eval r env) h₀ (IsI b)) (hn : 0 ≤ b) : Ev prog w A (eval (.BinOp l .RShift r pos) env) h₀ (IsI (a.fdiv (2 ^ b.toNat))) :=
  Ev.bin hl hr fun _ _ _ _ ⟨_, e⟩ ⟨_, e'⟩ => e ▸ e' ▸ Ev.of0 fun _ _ _ _ hq => rshift_int hn (hq _ _ IsI.box)
theorem Ev.and (hl : Ev prog w A (eval l env) h₀ (IsI a)) (hr : Ev prog w A (eval r env) h₀ (IsI b)) : Ev prog w A (eval (.BinOp l .BitAnd r pos) env) h₀ (IsI (Builtin.bitAnd a b)) :=
  Ev.bin hl hr fun _ _ _ _ ⟨_, e⟩ ⟨_, e'⟩ => e ▸ e' ▸ Ev.of0 fun _ _ _ _ hq => and_int (hq _ _ IsI.box)
theorem Ev.or (hl : Ev prog w A (eval l env) h₀ (IsI a)) (hr : Ev prog w A (eval r env) h₀ (IsI b)) : Ev prog w A (eval (.BinOp l .BitOr r pos) env) h₀ (IsI (Builtin.bitOr a b)) :=
  Ev.bin hl hr fun _ _ _ _ ⟨_, e⟩ ⟨_, e'⟩ => e ▸ e' ▸ Ev.of0 fun _ _ _ _ hq => or_int (hq _ _ IsI.box)
theorem Ev.inv (hl : Ev prog w A (eval l env) h₀ (IsI a)) : Ev prog w A (eval (.UnaryOp .Invert l pos) env) h₀ (IsI (Builtin.bitNot a)) :=
  Ev.un hl fun _ _ _ ⟨_, e⟩ => e ▸ Ev.of0 fun _ _ _ _ hq => invert_int (hq _ _ IsI.box)
theorem Ev.neg (hl : Ev prog w A (eval l env) h₀ (IsI a)) : Ev prog w A (eval (.UnaryOp .USub l pos) env) h₀ (IsI (-a)) :=
  Ev.un hl fun _ _ _ ⟨_, e⟩ => e ▸ Ev.of0 fun _ _ _ _ hq => neg_int (hq _ _ IsI.box)
end
end
end Mine

-- E2
namespace Mine
set_option linter.unusedVariables false
open PySem PySem.W PySem.Calls PyProof.Rows

structure EnvOk (env : Env) (names : List (Str × NameKind)) : Prop where
  kind : env.scope.kind = .function
  kindOf : ∀ {x : Str} {k : NameKind}, names.lookup x = some k → k ≠ .free → env.kindOf x = some k
  glob : env.globals = mainGlobals
  blt : env.builtins = builtinsNs

def dropN (x : Str) (vars : List (Str × Value)) : List (Str × Value) := vars.filter fun p => p.1 != x
theorem mem_dropN {x : Str} {p : Str × Value} {vars : List (Str × Value)} (h : p ∈ vars) (n : p.1 ≠ x) : p ∈ dropN x vars := List.mem_filter.mpr ⟨h, by simpa using n⟩
theorem mem_dropP {x n : Str} {v : Value} {vars : List (Str × Value)} (h : (n, v) ∈ vars) (hn : n ≠ x) : (n, v) ∈ dropN x vars := mem_dropN h hn
theorem of_dropN {x : Str} {p : Str × Value} {vars : List (Str × Value)} (h : p ∈ dropN x vars) : p ∈ vars ∧ p.1 ≠ x := by
  obtain ⟨a, b⟩ := List.mem_filter.mp h
  exact ⟨a, by simpa using b⟩

/-- a frame: base heap b, the names that are known, the made objects that are known -/
structure Fm (b : Heap) (env : Env) (vars cvars : List (Str × Value)) (news : List (Addr × Obj)) (s₀ s : Shared) : Prop where
  same : ∃ h tk, s = { s₀ with heap := h, toks := tk }
  keep : Sub b s.heap
  ns : ∃ m, s.heap.Ns env.locals m ∧ ∀ p ∈ vars, m p.1 = some p.2
  locNew : b.get? env.locals = none
  cel : ∀ p ∈ cvars, ∃ c, env.cells.lookup p.1 = some c ∧ s.heap.IsCell c (some p.2)
  celOk : ∀ n c, env.cells.lookup n = some c → (∃ v, s.heap.IsCell c v) ∧ b.get? c = none ∧ c ≠ env.locals
  apart : ∀ n n' c, env.cells.lookup n = some c → env.cells.lookup n' = some c → n = n'
  nw : ∀ p ∈ news, s.heap.get? p.1 = some p.2 ∧ b.get? p.1 = none ∧ p.1 ≠ env.locals ∧ ∀ n c, env.cells.lookup n = some c → p.1 ≠ c

section
variable {b : Heap} {env : Env} {vars cvars : List (Str × Value)} {news : List (Addr × Obj)} {s₀ s s' : Shared} {names : List (Str × NameKind)}

theorem Fm.kp (F : Fm b env vars cvars news s₀ s) (k : Kp s s') : Fm b env vars cvars news s₀ s' where
  same := by obtain ⟨h, t, rfl⟩ := F.same; obtain ⟨h', t', rfl⟩ := k.same; exact ⟨h', t', rfl⟩
  keep := F.keep.tr k.sub
  ns := let ⟨m, a, e⟩ := F.ns; ⟨m, a.keeps k.sub, e⟩
  locNew := F.locNew
  cel := fun p hp => let ⟨c, a, e⟩ := F.cel p hp; ⟨c, a, e.keeps k.sub⟩
  celOk := fun n c h => let ⟨⟨v, a⟩, e⟩ := F.celOk n c h; ⟨⟨v, a.keeps k.sub⟩, e⟩
  apart := F.apart
  nw := fun p hp => let ⟨a, e⟩ := F.nw p hp; ⟨k.sub _ _ a, e⟩

theorem Fm.sub {vars' cvars' : List (Str × Value)} {news' : List (Addr × Obj)} (F : Fm b env vars cvars news s₀ s) (hv : ∀ p ∈ vars', p ∈ vars) (hc : ∀ p ∈ cvars', p ∈ cvars) (hn : ∀ p ∈ news', p ∈ news) : Fm b env vars' cvars' news' s₀ s :=
  { F with ns := let ⟨m, a, e⟩ := F.ns; ⟨m, a, fun p hp => e p (hv p hp)⟩, cel := fun p hp => F.cel p (hc p hp), nw := fun p hp => F.nw p (hn p hp) }

/-- a fresh object joins -/
theorem Fm.join {l : Addr} {o : Obj} (F : Fm b env vars cvars news s₀ s) (hf : s.heap.get? l = none) (k : Kp s s') (ho : s'.heap.get? l = some o) : Fm b env vars cvars ((l, o) :: news) s₀ s' :=
  { F.kp k with
    nw := fun p hp => by
      rcases List.mem_cons.mp hp with rfl | hp
      · refine ⟨ho, F.keep.none hf, fun e => ?_, fun n c hc e => ?_⟩
        · obtain ⟨m, ⟨oL, _, _, hL, _⟩, _⟩ := F.ns
          rw [show env.locals = l from e.symm, hf] at hL; cases hL
        · obtain ⟨⟨v, oc, hoc, _⟩, _⟩ := F.celOk n c hc
          rw [show c = l from e.symm, hf] at hoc; cases hoc
      · exact (F.kp k).nw p hp }

theorem Fm.get {l : Addr} {o : Obj} (F : Fm b env vars cvars news s₀ s) (h : (l, o) ∈ news) : s.heap.get? l = some o := (F.nw _ h).1

theorem Fm.has (F : Fm b env vars cvars news s₀ s) (e : EnvOk env names) {x : Str} {v : Value} (hm : (x, v) ∈ vars) (hl : names.lookup x = some .local) : Has env s.heap x v :=
  let ⟨_, n, h⟩ := F.ns; Has.loc e.kind (e.kindOf hl (by decide)) n (h _ hm)
theorem Fm.hasC (F : Fm b env vars cvars news s₀ s) (e : EnvOk env names) {x : Str} {v : Value} (hm : (x, v) ∈ cvars) (hl : names.lookup x = some .cell) : Has env s.heap x v :=
  let ⟨_, c, hv⟩ := F.cel _ hm; Has.cell e.kind (e.kindOf hl (by decide)) c hv

/-- what a step that touches only the addresses X keeps -/
def But (X : List Addr) (h h' : Heap) : Prop := ∀ a o, a ∉ X → h.get? a = some o → h'.get? a = some o

theorem Fm.store {M : Model} {A : Around} {E : Value → Shared → Prop} {Q : Unit → Shared → Prop} {x : Str} {v : Value} (F : Fm b env vars cvars news s₀ s) (e : EnvOk env names) (hl : names.lookup x = some .local)
    (k : ∀ s', Fm b env ((x, v) :: dropN x vars) cvars news s₀ s' → But [env.locals] s.heap s'.heap → Q () s') : wpAny M A (storeName env x v) Q E s := by
  obtain ⟨m, hm, hmv⟩ := F.ns
  refine wpAny_storeName_local (e.kindOf hl (by decide)) hm (fun h' hn hs => k _ ?_ fun a o ha ho => hs.extBut a o (by simpa using ha) ho) (by rw [e.kind]; rfl)
  have bt : ∀ a o, a ≠ env.locals → s.heap.get? a = some o → h'.get? a = some o := fun a o n ho => hs.extBut a o n ho
  refine ⟨?_, fun a o ho => bt a o (fun q => by rw [q, F.locNew] at ho; cases ho) (F.keep _ _ ho), ⟨_, hn, fun p hp => ?_⟩, F.locNew, fun p hp => ?_, fun n c hc => ?_, F.apart, fun p hp => ?_⟩
  · obtain ⟨h, t, rfl⟩ := F.same; exact ⟨h', _, rfl⟩
  · rcases List.mem_cons.mp hp with rfl | hp
    · simp
    · obtain ⟨hp, hne⟩ := of_dropN hp
      simp only [if_neg hne]; exact hmv p hp
  · obtain ⟨c, hc, o, ho, hd⟩ := F.cel p hp
    exact ⟨c, hc, o, bt _ _ (F.celOk _ _ hc).2.2 ho, hd⟩
  · obtain ⟨⟨v', o, ho, hd⟩, r⟩ := F.celOk n c hc
    exact ⟨⟨v', o, bt _ _ r.2 ho, hd⟩, r⟩
  · obtain ⟨ho, r⟩ := F.nw p hp
    exact ⟨bt _ _ r.2.1 ho, r⟩

theorem Fm.storeC {M : Model} {A : Around} {E : Value → Shared → Prop} {Q : Unit → Shared → Prop} {x : Str} {v : Value} {c : Addr} (F : Fm b env vars cvars news s₀ s) (e : EnvOk env names) (hl : names.lookup x = some .cell)
    (hc : env.cells.lookup x = some c)
    (k : ∀ s', Fm b env vars ((x, v) :: dropN x cvars) news s₀ s' → Q () s') : wpAny M A (storeName env x v) Q E s := by
  obtain ⟨⟨v₀, hv⟩, hbc, hcl⟩ := F.celOk x c hc
  refine wpAny_storeName_cell e.kind (e.kindOf hl (by decide)) hc hv fun h' hcell hs => k _ ?_
  have bt : ∀ a o, a ≠ c → s.heap.get? a = some o → h'.get? a = some o := fun a o n ho => hs.extBut a o n ho
  obtain ⟨m, ⟨oL, es, ep, hL, r⟩, hmv⟩ := F.ns
  refine ⟨?_, fun a o ho => bt a o (fun q => by rw [q, hbc] at ho; cases ho) (F.keep _ _ ho), ⟨m, ⟨oL, es, ep, bt _ _ (Ne.symm hcl) hL, r⟩, hmv⟩, F.locNew, fun p hp => ?_, fun n c' hc' => ?_, F.apart, fun p hp => ?_⟩
  · obtain ⟨h, t, rfl⟩ := F.same; exact ⟨h', _, rfl⟩
  · rcases List.mem_cons.mp hp with rfl | hp
    · exact ⟨c, hc, hcell⟩
    · obtain ⟨hp, hne⟩ := of_dropN hp
      obtain ⟨c', hc', o, ho, hd⟩ := F.cel p hp
      exact ⟨c', hc', o, bt _ _ (fun q => hne (F.apart _ _ _ hc' (q ▸ hc))) ho, hd⟩
  · by_cases q : c' = c
    · subst q; exact ⟨⟨_, hcell⟩, hbc, hcl⟩
    · obtain ⟨⟨v', o, ho, hd⟩, r⟩ := F.celOk n c' hc'
      exact ⟨⟨v', o, bt _ _ q ho, hd⟩, r⟩
  · obtain ⟨ho, r⟩ := F.nw p hp
    exact ⟨bt _ _ (r.2.2 _ _ hc) ho, r⟩
end

-- entering a def
theorem bindL_other {kindOf : Str → Option NameKind} {n : Str} : ∀ {binds : List (Str × Value)} {m : Str → Option Value}, n ∉ binds.map (·.1) → bindL kindOf binds m n = m n
  | [], _, _ => rfl
  | (k, v) :: r, m, h => by
    simp only [List.map_cons, List.mem_cons, not_or] at h
    unfold bindL
    rw [bindL_other h.2]
    split
    · simp only [if_neg h.1]
    · rfl
theorem bindL_mem {kindOf : Str → Option NameKind} {n : Str} {v : Value} (hk : kindOf n = some .local) : ∀ {binds : List (Str × Value)} {m : Str → Option Value}, (binds.map (·.1)).Nodup → (n, v) ∈ binds → bindL kindOf binds m n = some v
  | (k, u) :: r, m, hd, hm => by
    simp only [List.map_cons, List.nodup_cons] at hd
    unfold bindL
    rcases List.mem_cons.mp hm with e | hm
    · cases e
      rw [bindL_other hd.1, if_pos hk]; simp
    · exact bindL_mem hk hd.2 hm
theorem bindC_other {kindOf : Str → Option NameKind} {n : Str} : ∀ {binds : List (Str × Value)} {m : Str → Option Value}, n ∉ binds.map (·.1) → bindC kindOf binds m n = m n
  | [], _, _ => rfl
  | (k, v) :: r, m, h => by
    simp only [List.map_cons, List.mem_cons, not_or] at h
    unfold bindC
    rw [bindC_other h.2]
    split
    · rfl
    · simp only [if_neg h.1]
theorem bindC_mem {kindOf : Str → Option NameKind} {n : Str} {v : Value} (hk : kindOf n = some .cell) : ∀ {binds : List (Str × Value)} {m : Str → Option Value}, (binds.map (·.1)).Nodup → (n, v) ∈ binds → bindC kindOf binds m n = some v
  | (k, u) :: r, m, hd, hm => by
    simp only [List.map_cons, List.nodup_cons] at hd
    unfold bindC
    rcases List.mem_cons.mp hm with e | hm
    · cases e
      rw [bindC_other hd.1, if_neg (by rw [hk]; decide)]; simp
    · exact bindC_mem hk hd.2 hm

def retV (fl : Flow) : Value := match fl with | .ret v => v | _ => .none

/-- the cells that a def's frame has -/
structure FrOk (env : Env) (names : List (Str × NameKind)) : Prop where
  frame : env.frame = some env.locals
  cells : env.cells = cellsFrom (env.locals + 1) names []

section
variable {prog : Program} {w : World} {A : Around} {s : Shared}
theorem call_in {K : Frag} {R : Result → Shared → Prop} {f : Addr} {oc : Value} {od : Option Addr} {fd : FuncData} {osl : Array (Option Value)} {body : List Stmt} {args : Args} {binds vars cvars : List (Str × Value)} {names : List (Str × NameKind)}
    (X : K.In s.heap) (hlim : s.heap.NoLimit) (ho : K.lookup f = some ⟨oc, od, .func fd, osl⟩) (hcd : codeIn K fd.code fd.qualname = true) (hroom : A.depth < recursionLimit) (hbody : fd.body = .stmts body)
    (hcl : fd.closure = []) (hgl : fd.globals = mainGlobals) (hbl : fd.builtins = builtinsNs)
    (hnames : fd.scope.names = names) (hbind : BindsTo s fd args binds) (hdist : (binds.map (·.1)).Nodup)
    (hv : ∀ p ∈ vars, p ∈ binds ∧ names.lookup p.1 = some .local) (hc : ∀ p ∈ cvars, p ∈ binds ∧ names.lookup p.1 = some .cell)
    (hkind : ∀ p ∈ binds, names.lookup p.1 = some .local ∨ names.lookup p.1 = some .cell)
    (h : ∀ env s', EnvOk env names → FrOk env names → Fm s.heap env vars cvars [] s s' →
      wpAny (model prog w) (A.deeper env) (execs body env) (fun fl s' => R (.ok (.ret (retV fl))) s')
        (fun e s' => wpAny (model prog w) (A.deeper env) (leaving env e) (fun _ s'' => R (.error e) s'') (fun e' s'' => R (.error e') s'') s') s')
    (hco : fd.scope.isCoroutine = false) (hgen : fd.scope.isGenerator = false) (hk : fd.scope.kind = .function) :
    codeAny (model prog w) A (.call (.ref f) args) R s := by
  refine codeAny_call_function hroom (X _ _ ho) rfl hco hgen hbody (codeRec_of X hcd) (hbind _ _ _ _ ?_)
  rw [hcl, hgl, hbl]
  subst hnames
  have hcs : ∀ (n : Nat) (names : List (Str × NameKind)) (acc : List (Str × Addr)) (x : Str), (names.lookup x = some .cell ∨ (acc.lookup x).isSome = true) → ((cellsFrom n names acc).lookup x).isSome = true :=
    fun n names acc x hx => cellsFrom_some names n acc hx
  refine wpAny_newFunctionEnv_cells hk (fun p hp => (hkind p hp).imp id fun q => ⟨q, hcs _ _ _ _ (.inl q)⟩) fun env he s' x => ?_
  have hk₁ := x.toInCall.keep
  obtain ⟨h₁, tk, rfl⟩ := x.toInCall.same
  have hns := x.toInCall.ns
  have hloc : env.locals = s.heap.objs.size := by rw [he]; rfl
  have hE : EnvOk env fd.scope.names := ⟨by rw [he]; exact hk, fun {x k} h _ => by rw [he]; exact h, by rw [he]; rfl, by rw [he]; rfl⟩
  have hF : FrOk env fd.scope.names := ⟨by rw [he]; rfl, by rw [he]; rfl⟩
  refine ⟨hlim.keeps hk₁, codeAny_func (h env _ hE hF ⟨⟨_, _, rfl⟩, hk₁, ⟨_, hns, fun p hp => ?_⟩, ?_, fun p hp => ?_, fun n c hc' => ?_, fun n n' c h1 h2 => ?_, fun p hp => (nomatch hp)⟩)⟩
  · obtain ⟨a, b⟩ := hv p hp
    exact bindL_mem (hE.kindOf b (by decide)) hdist a
  · rw [hloc]; exact Heap.get?_none_of_le (Nat.le_refl _)
  · obtain ⟨a, b⟩ := hc p hp
    obtain ⟨c, hcc⟩ := Option.isSome_iff_exists.mp (hcs (env.locals + 1) fd.scope.names [] p.1 (.inl b))
    have hcc' : env.cells.lookup p.1 = some c := by rw [hF.cells]; exact hcc
    refine ⟨c, hcc', ?_⟩
    have := x.cell _ _ hcc'
    rwa [bindC_mem (hE.kindOf b (by decide)) hdist a] at this
  · have ab := x.above n c (mem_of_lookup hc')
    exact ⟨⟨_, x.cell _ _ hc'⟩, Heap.get?_none_of_le (by rw [hloc] at ab; exact Nat.le_of_lt ab), Nat.ne_of_gt ab⟩
  · exact name_of_addr x.apart (mem_of_lookup h1) (mem_of_lookup h2)

theorem all_mem {α : Type} {l : List α} {p : α → Bool} (h : l.all p = true) : ∀ x ∈ l, p x = true := List.all_eq_true.mp h
/-- a def whose body never raises -/
theorem Ev.def {K : Frag} {h₀ : Heap} {P : Value → Heap → Prop} {f : Addr} {oc : Value} {od : Option Addr} {fd : FuncData} {osl : Array (Option Value)} {body : List Stmt} {vs : List Value} {names : List (Str × NameKind)} (binds vars cvars : List (Str × Value))
    (X : K.In h₀) (hlim : h₀.NoLimit) (hroom : A.depth < recursionLimit) (ho : K.lookup f = some ⟨oc, od, .func fd, osl⟩) (hcd : codeIn K fd.code fd.qualname = true) (hbody : fd.body = .stmts body)
    (hcl : fd.closure = []) (hgl : fd.globals = mainGlobals) (hbl : fd.builtins = builtinsNs)
    (hnames : fd.scope.names = names) (hbind : bindArgs fd ⟨vs, []⟩ = pure binds) (hdist : decide ((binds.map (·.1)).Nodup) = true)
    (hk1 : (vars.all fun p => decide (names.lookup p.1 = some .local)) = true) (hk2 : (cvars.all fun p => decide (names.lookup p.1 = some .cell)) = true) (hk3 : (binds.all fun p => decide (names.lookup p.1 = some .local ∨ names.lookup p.1 = some .cell)) = true)
    (hco : fd.scope.isCoroutine = false) (hgen : fd.scope.isGenerator = false) (hk : fd.scope.kind = .function)
    (hv : ∀ p ∈ vars, p ∈ binds) (hc : ∀ p ∈ cvars, p ∈ binds)
    (h : ∀ env s₀ s', Sub h₀ s₀.heap → EnvOk env names → FrOk env names → Fm s₀.heap env vars cvars [] s₀ s' →
      wpAny (model prog w) (A.deeper env) (execs body env) (fun fl s' => Box P (retV fl) s'.heap ∧ Kp s₀ s') (fun _ _ => False) s') :
    Ev prog w A (call (.ref f) vs) h₀ P := fun s E hs =>
  wpAny_call (call_in (fun a o e => hs _ _ (X a o e)) (hlim.keeps hs) ho hcd hroom hbody hcl hgl hbl hnames (BindsTo.of_eq hbind) (of_decide_eq_true hdist)
    (fun p hp => ⟨hv p hp, of_decide_eq_true (all_mem hk1 p hp)⟩) (fun p hp => ⟨hc p hp, of_decide_eq_true (all_mem hk2 p hp)⟩) (fun p hp => of_decide_eq_true (all_mem hk3 p hp))
    (fun env s' hE hF F => wpAny_mono (h env s s' hs hE hF F) (fun fl s'' hq => hq) fun _ _ x => x.elim) hco hgen hk)
end
end Mine

-- E3
namespace Mine
set_option linter.unusedVariables false
open PySem PySem.W PySem.Calls PyProof.Rows

/-- what every def of the text finds in the heap -/
structure WW (w : World) (h : Heap) : Prop where
  K : (hd.heap_39 w.params).In h
  lim : h.NoLimit
  g : ∃ mg, h.Ns mainGlobals mg
  b : ∃ mb, h.Ns builtinsNs mb ∧ ∀ x : Str, x ≠ "__name__" → mb x = bootBuiltins x
theorem WW.up {w : World} {h h' : Heap} (W : WW w h) (k : Sub h h') : WW w h' where
  K := fun a o e => k _ _ (W.K a o e)
  lim := W.lim.keeps k
  g := let ⟨m, x⟩ := W.g; ⟨m, x.keeps k⟩
  b := let ⟨m, x, y⟩ := W.b; ⟨m, x.keeps k, y⟩

section
variable {w : World} {h₀ : Heap} {env : Env} {names : List (Str × NameKind)}
theorem Has.glob {x : Str} {v : Value} (W : WW w h₀) (e : EnvOk env names) (hl : names.lookup x = some .globalImplicit) (hn : nsIn (hd.heap_39 w.params) mainGlobals x = some (some v)) : Has env h₀ x v :=
  fun M A E s Q hs hq => by
    obtain ⟨mg, G⟩ := W.g
    have hq' : wpAny M A (loadGlobal env x) Q E s := loadGlobal_global (env := env) (show s.heap.Ns env.globals mg from e.glob ▸ G.keeps hs) (mg_of W.K G hn) hq
    unfold loadName
    simp only [Env.blockKind, e.kind, e.kindOf hl (by decide), ScopeKind.isAnnotationScope, Bool.false_and, Bool.false_eq_true, if_false]
    exact hq'
theorem Has.built {x : Str} {v : Value} (W : WW w h₀) (e : EnvOk env names) (hl : names.lookup x = some .globalImplicit) (hn : nsIn (hd.heap_39 w.params) mainGlobals x = some none) (hb : bootBuiltins x = some v) (hx : x ≠ "__name__") : Has env h₀ x v :=
  fun M A E s Q hs hq => by
    obtain ⟨mg, G⟩ := W.g
    obtain ⟨mb, B, hB⟩ := W.b
    have hq' : wpAny M A (loadGlobal env x) Q E s := loadGlobal_builtin (env := env) (show s.heap.Ns env.globals mg from e.glob ▸ G.keeps hs) (mg_none_of W.K G hn) (show s.heap.Ns env.builtins mb from e.blt ▸ B.keeps hs) ((hB x hx).trans hb) hq
    unfold loadName
    simp only [Env.blockKind, e.kind, e.kindOf hl (by decide), ScopeKind.isAnnotationScope, Bool.false_and, Bool.false_eq_true, if_false]
    exact hq'
end

section
variable {prog : Program} {w : World} {A : Around} {h₀ : Heap} {env : Env}

-- arguments
theorem Ev.args0 {pos : Pos} : Ev prog w A (spliced (backTo pos (starEach [] env))) h₀ (fun vs _ => vs = []) := fun _ _ _ => spliced_nil ⟨fun _ _ => rfl, Kp.rfl'⟩
theorem Ev.args {e : Expr} {rest : List Expr} {pos : Pos} {P : Value → Heap → Prop} {PL : List Value → Heap → Prop} (h : Ev prog w A (eval e env) h₀ P) (hr : Ev prog w A (spliced (backTo pos (starEach rest env))) h₀ PL)
    (he : starEach (e :: rest) env = (false, eval e env) :: starEach rest env := by rfl) : Ev prog w A (spliced (backTo pos (starEach (e :: rest) env))) h₀ (fun vs h => ∃ v r, vs = v :: r ∧ P v h ∧ PL r h) :=
  fun s E hs => args_cons (wpAny_mono (h s E hs) (fun v s₁ hv => wpAny_mono (hr s₁ E (hs.tr hv.2.sub)) (fun r s₂ hq => ⟨fun h' k => ⟨v, r, rfl, hv.1 _ (hq.2.sub.tr k), hq.1 _ k⟩, hv.2.tr hq.2⟩) fun _ _ e => e) fun _ _ e => e) he

-- calls by name
theorem Ev.callB {f : Str} {id : String} {fp pos : Pos} {e : Expr} {rest : List Expr} {P : Value → Heap → Prop} {PL : List Value → Heap → Prop} (hf : Has env h₀ f (.builtin id)) (hd : (f == ("__debug__" : Str)) = false)
    (ha : Ev prog w A (spliced (backTo pos (starEach (e :: rest) env))) h₀ PL) (hc : ∀ vs h, Sub h₀ h → PL vs h → Ev prog w A (call (.builtin id) vs) h P)
    (he : starEach (e :: rest) env = (false, eval e env) :: starEach rest env := by rfl) (hplain : (backTo pos (starEach rest env)).any (·.1) = false := by rfl) :
    Ev prog w A (eval (.Call (.Name f fp) (e :: rest) [] pos) env) h₀ P :=
  fun s E hs => wpAny_Call_ofName (wpAny_Name (hf _ _ _ s _ hs (callWith_builtin1 (wpAny_mono (ha s E hs) (fun vs s₁ hv =>
    wpAny_mono (hc vs s₁.heap (hs.tr hv.2.sub) hv.1.here s₁ E Sub.rfl') (fun _ _ hq => ⟨hq.1, hv.2.tr hq.2⟩) fun _ _ e => e) fun _ _ e => e) he hplain)) hd)
theorem Ev.callD {f : Str} {a : Addr} {fp pos : Pos} {e : Expr} {rest : List Expr} {P : Value → Heap → Prop} {PL : List Value → Heap → Prop} (W : WW w h₀) (hf : Has env h₀ f (.ref a)) (hk : keepIn (hd.heap_39 w.params) (.ref a) = true) (hd : (f == ("__debug__" : Str)) = false)
    (ha : Ev prog w A (spliced (backTo pos (starEach (e :: rest) env))) h₀ PL) (hc : ∀ vs h, Sub h₀ h → PL vs h → Ev prog w A (call (.ref a) vs) h P)
    (he : starEach (e :: rest) env = (false, eval e env) :: starEach rest env := by rfl) (hplain : (backTo pos (starEach rest env)).any (·.1) = false := by rfl) :
    Ev prog w A (eval (.Call (.Name f fp) (e :: rest) [] pos) env) h₀ P :=
  fun s E hs => wpAny_Call_ofName (wpAny_Name (hf _ _ _ s _ hs (callWith_K W.K hk (wpAny_mono (ha s E hs) (fun vs s₁ hv =>
    ⟨(W.up (hs.tr hv.2.sub)).K, wpAny_mono (hc vs s₁.heap (hs.tr hv.2.sub) hv.1.here s₁ E Sub.rfl') (fun _ _ hq => ⟨hq.1, hv.2.tr hq.2⟩) fun _ _ e => e⟩) fun _ _ e => e) he hplain)) hd)

-- tests
theorem Ev.cmpT {l r : Expr} {op : CmpOp} {pos : Pos} {whole : Sem Value} {Pl Pr : Value → Heap → Prop} {c : Bool} (hl : Ev prog w A (eval l env) h₀ Pl) (hr : Ev prog w A (eval r env) h₀ Pr)
    (ho : ∀ a b h, Sub h₀ h → Pl a h → Pr b h → Ev prog w A (compareOp op a b) h (IsB c)) (hm : behindInMarks op r = false := by with_unfolding_all rfl) : Ev prog w A (isTrue (.Compare l [op] [r] pos) env whole) h₀ (TB c) :=
  fun s E hs => wpAny_isTrue_Compare1 (hm := hm) (wpAny_mono (hl s E hs) (fun a s₁ ha => wpAny_mono (hr s₁ E (hs.tr ha.2.sub)) (fun b s₂ hb =>
    wpAny_mono (ho a b s₂.heap (hs.tr (ha.2.sub.tr hb.2.sub)) (ha.1 _ hb.2.sub) hb.1.here s₂ E Sub.rfl') (fun v _ hq => by
      have := hq.1.here; unfold IsB IsV at this; subst this
      exact wpAny_truthy_bool ⟨TB.box, ha.2.tr (hb.2.tr hq.2)⟩) fun _ _ e => e) fun _ _ e => e) fun _ _ e => e)
theorem Ev.cmp {l r : Expr} {op : CmpOp} {pos : Pos} {Pl Pr : Value → Heap → Prop} {c : Bool} (hl : Ev prog w A (eval l env) h₀ Pl) (hr : Ev prog w A (eval r env) h₀ Pr)
    (ho : ∀ a b h, Sub h₀ h → Pl a h → Pr b h → Ev prog w A (compareOp op a b) h (IsB c)) (hm : behindInMarks op r = false := by with_unfolding_all rfl) : Ev prog w A (eval (.Compare l [op] [r] pos) env) h₀ (IsB c) :=
  fun s E hs => wpAny_Compare1 (hm := hm) (wpAny_mono (hl s E hs) (fun a s₁ ha => wpAny_mono (hr s₁ E (hs.tr ha.2.sub)) (fun b s₂ hb =>
    wpAny_mono (ho a b s₂.heap (hs.tr (ha.2.sub.tr hb.2.sub)) (ha.1 _ hb.2.sub) hb.1.here s₂ E Sub.rfl') (fun v _ hq => ⟨hq.1, ha.2.tr (hb.2.tr hq.2)⟩) fun _ _ e => e) fun _ _ e => e) fun _ _ e => e)
section
variable {l r : Expr} {pos : Pos} {whole : Sem Value} {a b : Int}
theorem Ev.ltT (hl : Ev prog w A (eval l env) h₀ (IsI a)) (hr : Ev prog w A (eval r env) h₀ (IsI b)) (hm : behindInMarks .Lt r = false := by with_unfolding_all rfl) : Ev prog w A (isTrue (.Compare l [.Lt] [r] pos) env whole) h₀ (TB (decide (a < b))) :=
  Ev.cmpT hl hr (fun _ _ _ _ ⟨_, e⟩ ⟨_, e'⟩ => e ▸ e' ▸ Ev.of0 fun _ _ _ _ hq => lt_int (hq _ _ IsV.box)) hm
theorem Ev.gtT (hl : Ev prog w A (eval l env) h₀ (IsI a)) (hr : Ev prog w A (eval r env) h₀ (IsI b)) (hm : behindInMarks .Gt r = false := by with_unfolding_all rfl) : Ev prog w A (isTrue (.Compare l [.Gt] [r] pos) env whole) h₀ (TB (decide (b < a))) :=
  Ev.cmpT hl hr (fun _ _ _ _ ⟨_, e⟩ ⟨_, e'⟩ => e ▸ e' ▸ Ev.of0 fun _ _ _ _ hq => gt_int (hq _ _ IsV.box)) hm
theorem Ev.geT (hl : Ev prog w A (eval l env) h₀ (IsI a)) (hr : Ev prog w A (eval r env) h₀ (IsI b)) (hm : behindInMarks .GtE r = false := by with_unfolding_all rfl) : Ev prog w A (isTrue (.Compare l [.GtE] [r] pos) env whole) h₀ (TB (decide (b ≤ a))) :=
  Ev.cmpT hl hr (fun _ _ _ _ ⟨_, e⟩ ⟨_, e'⟩ => e ▸ e' ▸ Ev.of0 fun _ _ _ _ hq => ge_int (hq _ _ IsV.box)) hm
theorem Ev.eqT (hl : Ev prog w A (eval l env) h₀ (IsI a)) (hr : Ev prog w A (eval r env) h₀ (IsI b)) (hm : behindInMarks .Eq r = false := by with_unfolding_all rfl) : Ev prog w A (isTrue (.Compare l [.Eq] [r] pos) env whole) h₀ (TB (a == b)) :=
  Ev.cmpT hl hr (fun _ _ _ _ ⟨_, e⟩ ⟨_, e'⟩ => e ▸ e' ▸ Ev.of0 fun _ _ _ _ hq => eq_int (hq _ _ IsV.box)) hm
end
theorem Ev.tb_eq {t : Sem Bool} {c c' : Bool} (h : Ev prog w A t h₀ (TB c)) (e : c = c') : Ev prog w A t h₀ (TB c') := e ▸ h
theorem Ev.orNil : Ev prog w A (allTrue .Or [] env) h₀ (TB false) := fun _ _ _ => wpAny_allTrue_Or_nil ⟨TB.box, Kp.rfl'⟩
theorem Ev.orCons {x : Expr} {rest : List Expr} {c d : Bool} (h : Ev prog w A (isTrue x env (eval x env)) h₀ (TB c)) (hr : c = false → Ev prog w A (allTrue .Or rest env) h₀ (TB d)) : Ev prog w A (allTrue .Or (x :: rest) env) h₀ (TB (c || d)) :=
  fun s E hs => wpAny_allTrue_Or_cons (wpAny_mono (h s E hs) (fun v s₁ hv => by
    have := hv.1.here; unfold TB at this; subst this
    cases v with
    | true => exact ⟨by rw [Bool.true_or]; exact TB.box, hv.2⟩
    | false => simp only [Bool.false_or, Bool.false_eq_true, if_false]; exact wpAny_mono (hr rfl s₁ E (hs.tr hv.2.sub)) (fun _ _ hq => ⟨hq.1, hv.2.tr hq.2⟩) fun _ _ e => e) fun _ _ e => e)
theorem Ev.orT {vs : List Expr} {pos : Pos} {whole : Sem Value} {c : Bool} (h : Ev prog w A (allTrue .Or vs env) h₀ (TB c)) : Ev prog w A (isTrue (.BoolOp .Or vs pos) env whole) h₀ (TB c) := fun s E hs => wpAny_isTrue_BoolOp (h s E hs)
theorem Ev.ite {t x y : Expr} {pos : Pos} {c : Bool} {P : Value → Heap → Prop} (h : Ev prog w A (isTrue t env (eval t env)) h₀ (TB c)) (hx : c = true → Ev prog w A (eval x env) h₀ P) (hy : c = false → Ev prog w A (eval y env) h₀ P) :
    Ev prog w A (eval (.IfExp t x y pos) env) h₀ P := fun s E hs => wpAny_IfExp (wpAny_mono (h s E hs) (fun v s₁ hv => by
    have := hv.1.here; unfold TB at this; subst this
    cases v with
    | true => exact wpAny_mono (hx rfl s₁ E (hs.tr hv.2.sub)) (fun _ _ hq => ⟨hq.1, hv.2.tr hq.2⟩) fun _ _ e => e
    | false => exact wpAny_mono (hy rfl s₁ E (hs.tr hv.2.sub)) (fun _ _ hq => ⟨hq.1, hv.2.tr hq.2⟩) fun _ _ e => e) fun _ _ e => e)

-- lists
def IsRef (l : Addr) : Value → Heap → Prop := IsV (.ref l)
theorem Ev.len {l : Addr} {ns : List Int} (hl : Lst h₀ l ns) (hz : ns.length < 2 ^ 62) : Ev prog w A (call (.builtin "len") [.ref l]) h₀ (IsI ns.length) :=
  Ev.of0 fun s E Q hs hq => by
    obtain ⟨vs, a, i⟩ := (hl.up hs).isList
    have e := i.length
    refine len_list a (by rw [List.size_toArray]; omega) ?_
    rw [List.size_toArray, e]
    exact hq _ _ IsI.box
theorem Ev.lenN {names : List (Str × NameKind)} {x : Str} {fp xp pos : Pos} {l : Addr} {ns : List Int} (W : WW w h₀) (e : EnvOk env names) (hn : names.lookup (Str.ofString "len") = some .globalImplicit)
    (hx : Ev prog w A (eval (.Name x xp) env) h₀ (IsV (.ref l))) (hl : Lst h₀ l ns) (hz : ns.length < 2 ^ 62) : Ev prog w A (eval (.Call (.Name (Str.ofString "len") fp) [.Name x xp] [] pos) env) h₀ (IsI ns.length) :=
  Ev.callB (Has.built W e hn rfl rfl (by decide)) (by decide) (Ev.args hx Ev.args0) fun vs h hs q => by
    obtain ⟨v, r, rfl, rfl, rfl⟩ := q
    exact Ev.len (hl.up hs) hz
theorem Ev.sub0 {value slice : Expr} {pos : Pos} {Pl Pr P : Value → Heap → Prop} (hl : Ev prog w A (eval value env) h₀ Pl) (hr : Ev prog w A (eval slice env) h₀ Pr)
    (ho : ∀ a b h, Sub h₀ h → Pl a h → Pr b h → Ev prog w A (subscriptTail value slice a b) h P) : Ev prog w A (eval (.Subscript value slice pos) env) h₀ P :=
  fun s E hs => Subscript_ (wpAny_mono (hl s E hs) (fun a s₁ ha => wpAny_mono (hr s₁ E (hs.tr ha.2.sub)) (fun b s₂ hb =>
    wpAny_mono (ho a b s₂.heap (hs.tr (ha.2.sub.tr hb.2.sub)) (ha.1 _ hb.2.sub) hb.1.here s₂ E Sub.rfl') (fun _ _ hq => ⟨hq.1, ha.2.tr (hb.2.tr hq.2)⟩) fun _ _ e => e) fun _ _ e => e) fun _ _ e => e)
theorem Lst.item {h : Heap} {l : Addr} {ns : List Int} (x : Lst h l ns) (i : Nat) (hi : i < ns.length) : ∃ vs : List Value, h.IsList l vs.toArray ∧ ∃ t, vs.toArray[i]? = some (.int ns[i] t) := by
  obtain ⟨vs, a, b⟩ := x.isList
  obtain ⟨t, e⟩ := b.get i ns[i] (by simp [hi])
  exact ⟨vs, a, t, by simpa using e⟩
/-- name[int] -/
theorem Ev.item {x : Str} {xp pos : Pos} {slice : Expr} {l : Addr} {ns : List Int} {k : Int} (hx : Ev prog w A (eval (.Name x xp) env) h₀ (IsV (.ref l))) (hk : Ev prog w A (eval slice env) h₀ (IsI k)) (hl : Lst h₀ l ns) (h0 : 0 ≤ k) (h1 : k < ns.length) (h2 : k < 2 ^ 62)
    (hss : ∀ u, subscripted slice false (.ref l) (.int k u) = operate [.ref l, .int k u] (getItem (.ref l) (.int k u)) := by intro _; with_unfolding_all rfl) :
    Ev prog w A (eval (.Subscript (.Name x xp) slice pos) env) h₀ (IsI (ns.getD k.toNat 0)) :=
  Ev.sub0 hx hk fun a b h hs e ⟨u, e'⟩ => by
    unfold IsV at e; subst e; subst e'
    exact Ev.of0 fun s E Q hs' hq => by
      have hi : k.toNat < ns.length := by omega
      obtain ⟨vs, il, t, hv⟩ := (hl.up (hs.tr hs')).item k.toNat hi
      refine item_list il h0 (by omega) hv ?_ (hss u)
      have : ns.getD k.toNat 0 = ns[k.toNat] := by simp [List.getD, hi]
      rw [this] at hq
      exact hq _ _ IsI.box
end
end Mine

-- E4
namespace Mine
set_option linter.unusedVariables false
open PySem PySem.W PySem.Calls PyProof.Rows

section
variable {prog : Program} {w : World} {A : Around} {b : Heap} {env : Env} {vars cvars : List (Str × Value)} {news : List (Addr × Obj)} {s₀ s s' : Shared} {names : List (Str × NameKind)} {E : Value → Shared → Prop} {Q : Flow → Shared → Prop} {rest : List Stmt}

theorem Fm.lst {l : Addr} {vs : List Value} {n : Nat} {ns : List Int} (F : Fm b env vars cvars news s₀ s) (h : (l, lobj vs n) ∈ news) (i : IntsAre vs ns) : Lst s.heap l ns := Lst.mk' (F.get h) i

theorem x_nil (h : Q .next s) : wpAny (model prog w) A (execs [] env) Q E s := wpAny_execs_nil h

theorem x_ret {e : Expr} {pos : Pos} {P : Value → Heap → Prop} (h : Ev prog w A (eval e env) s.heap P) (k : ∀ v s', Kp s s' → Box P v s'.heap → Q (.ret v) s') :
    wpAny (model prog w) A (execs (.Return (some e) pos :: rest) env) Q E s := wpAny_execs_cons (wpAny_Return_some (h.use k))

theorem x_retD {e : Expr} {pos : Pos} {P : Value → Heap → Prop} (F : Fm s₀.heap env vars cvars news s₀ s) (h : Ev prog w A (eval e env) s.heap P)
    (hQ : ∀ v s', Box P v s'.heap → Kp s₀ s' → Q (.ret v) s' := by intro _ _ a b; exact ⟨a, b⟩) :
    wpAny (model prog w) A (execs (.Return (some e) pos :: rest) env) Q E s :=
  x_ret h fun v s' k hb => hQ v s' hb (Kp.tr ⟨F.same, F.keep⟩ k)

theorem x_assign {x : Str} {xp pos : Pos} {value : Expr} {P : Value → Heap → Prop} (F : Fm b env vars cvars news s₀ s) (e : EnvOk env names) (hl : names.lookup x = some .local) (hv : Ev prog w A (eval value env) s.heap P)
    (k : ∀ v s₁ s', Kp s s₁ → Box P v s₁.heap → But [env.locals] s₁.heap s'.heap → Fm b env ((x, v) :: dropN x vars) cvars news s₀ s' → wpAny (model prog w) A (execs rest env) Q E s')
    (hs : swapsWith value (some (.Name x xp)) pos.line env = pure false := by rfl) :
    wpAny (model prog w) A (execs (.Assign [.Name x xp] value pos :: rest) env) Q E s :=
  wpAny_execs_cons (wpAny_Assign_Name (hs := hs) (hv.use fun v s₁ k₁ hb => (F.kp k₁).store e hl fun s' F' hbut => k v s₁ s' k₁ hb hbut F'))

/-- an int, a text, a bool, none .. -/
theorem x_assignV {x : Str} {xp pos : Pos} {value : Expr} {R : Value → Prop} (F : Fm b env vars cvars news s₀ s) (e : EnvOk env names) (hl : names.lookup x = some .local) (hv : Ev prog w A (eval value env) s.heap (fun v _ => R v))
    (k : ∀ v s', R v → Fm b env ((x, v) :: dropN x vars) cvars news s₀ s' → wpAny (model prog w) A (execs rest env) Q E s')
    (hs : swapsWith value (some (.Name x xp)) pos.line env = pure false := by rfl) :
    wpAny (model prog w) A (execs (.Assign [.Name x xp] value pos :: rest) env) Q E s :=
  x_assign F e hl hv (fun v s₁ s' _ hb _ F' => k v s' hb.here F') hs
theorem x_assignI {x : Str} {xp pos : Pos} {value : Expr} {i : Int} (F : Fm b env vars cvars news s₀ s) (e : EnvOk env names) (hl : names.lookup x = some .local) (hv : Ev prog w A (eval value env) s.heap (IsI i))
    (k : ∀ t s', Fm b env ((x, .int i t) :: dropN x vars) cvars news s₀ s' → wpAny (model prog w) A (execs rest env) Q E s')
    (hs : swapsWith value (some (.Name x xp)) pos.line env = pure false := by rfl) :
    wpAny (model prog w) A (execs (.Assign [.Name x xp] value pos :: rest) env) Q E s :=
  x_assign F e hl hv (fun v s₁ s' _ hb _ F' => by obtain ⟨t, rfl⟩ := hb.here; exact k t s' F') hs
theorem x_assignS {x : Str} {xp pos : Pos} {value : Expr} {i : Str} (F : Fm b env vars cvars news s₀ s) (e : EnvOk env names) (hl : names.lookup x = some .local) (hv : Ev prog w A (eval value env) s.heap (IsS i))
    (k : ∀ t s', Fm b env ((x, .str i t) :: dropN x vars) cvars news s₀ s' → wpAny (model prog w) A (execs rest env) Q E s')
    (hs : swapsWith value (some (.Name x xp)) pos.line env = pure false := by rfl) :
    wpAny (model prog w) A (execs (.Assign [.Name x xp] value pos :: rest) env) Q E s :=
  x_assign F e hl hv (fun v s₁ s' _ hb _ F' => by obtain ⟨t, rfl⟩ := hb.here; exact k t s' F') hs
theorem x_assignR {x : Str} {xp pos : Pos} {value : Expr} {u : Value} (F : Fm b env vars cvars news s₀ s) (e : EnvOk env names) (hl : names.lookup x = some .local) (hv : Ev prog w A (eval value env) s.heap (IsV u))
    (k : ∀ s', Fm b env ((x, u) :: dropN x vars) cvars news s₀ s' → wpAny (model prog w) A (execs rest env) Q E s')
    (hs : swapsWith value (some (.Name x xp)) pos.line env = pure false := by rfl) :
    wpAny (model prog w) A (execs (.Assign [.Name x xp] value pos :: rest) env) Q E s :=
  x_assign F e hl hv (fun v s₁ s' _ hb _ F' => by have : v = u := hb.here; subst this; exact k s' F') hs
/-- a new list of ints -/
theorem Fm.joinL {v : Value} {ns : List Int} {s₁ : Shared} (F : Fm b env vars cvars news s₀ s) (k : Kp s s₁) (hb : Box (NewL s.heap ns) v s₁.heap) : ∃ l vs n, v = .ref l ∧ IntsAre vs ns ∧ Fm b env vars cvars ((l, lobj vs n) :: news) s₀ s₁ := by
  obtain ⟨l, vs, n, rfl, hf, ho, hi⟩ := hb.here
  exact ⟨l, vs, n, rfl, hi, F.join hf k ho⟩
theorem x_assignL {x : Str} {xp pos : Pos} {value : Expr} {ns : List Int} (F : Fm b env vars cvars news s₀ s) (e : EnvOk env names) (hl : names.lookup x = some .local) (hv : Ev prog w A (eval value env) s.heap (NewL s.heap ns))
    (k : ∀ l vs n s', IntsAre vs ns → Fm b env ((x, .ref l) :: dropN x vars) cvars ((l, lobj vs n) :: news) s₀ s' → wpAny (model prog w) A (execs rest env) Q E s')
    (hs : swapsWith value (some (.Name x xp)) pos.line env = pure false := by rfl) :
    wpAny (model prog w) A (execs (.Assign [.Name x xp] value pos :: rest) env) Q E s :=
  wpAny_execs_cons (wpAny_Assign_Name (hs := hs) (hv.use fun v s₁ k₁ hb => by
    obtain ⟨l, vs, n, rfl, hi, F₁⟩ := F.joinL k₁ hb
    exact F₁.store e hl fun s' F' _ => k l vs n s' hi F'))
/-- .. stored in a cell -/
theorem x_assignLC {x : Str} {xp pos : Pos} {value : Expr} {ns : List Int} {c : Addr} (F : Fm b env vars cvars news s₀ s) (e : EnvOk env names) (hl : names.lookup x = some .cell) (hc : env.cells.lookup x = some c) (hv : Ev prog w A (eval value env) s.heap (NewL s.heap ns))
    (k : ∀ l vs n s', IntsAre vs ns → Fm b env vars ((x, .ref l) :: dropN x cvars) ((l, lobj vs n) :: news) s₀ s' → wpAny (model prog w) A (execs rest env) Q E s')
    (hs : swapsWith value (some (.Name x xp)) pos.line env = pure false := by rfl) :
    wpAny (model prog w) A (execs (.Assign [.Name x xp] value pos :: rest) env) Q E s :=
  wpAny_execs_cons (wpAny_Assign_Name (hs := hs) (hv.use fun v s₁ k₁ hb => by
    obtain ⟨l, vs, n, rfl, hi, F₁⟩ := F.joinL k₁ hb
    exact F₁.storeC e hl hc fun s' F' => k l vs n s' hi F'))

theorem x_augI {x : Str} {xp pos : Pos} {op : Operator} {value : Expr} {P : Value → Heap → Prop} {u : Value} {i : Int} (F : Fm b env vars cvars news s₀ s) (e : EnvOk env names) (hl : names.lookup x = some .local) (hm : (x, u) ∈ vars)
    (hv : Ev prog w A (eval value env) s.heap P) (ho : ∀ v h, Sub s.heap h → P v h → Ev prog w A (inplaceOp op u v) h (IsI i))
    (k : ∀ t s', Fm b env ((x, .int i t) :: dropN x vars) cvars news s₀ s' → wpAny (model prog w) A (execs rest env) Q E s') :
    wpAny (model prog w) A (execs (.AugAssign (.Name x xp) op value pos :: rest) env) Q E s :=
  wpAny_execs_cons (wpAny_AugAssign_Name (F.has e hm hl _ _ _ s _ Sub.rfl' (hv.use fun v s₁ k₁ hb => ((ho v _ k₁.sub hb.here)).use fun r s₂ k₂ hr => by
    obtain ⟨t, rfl⟩ := hr.here
    exact ((F.kp k₁).kp k₂).store e hl fun s' F' _ => k t s' F')))

theorem x_if {test : Expr} {body orelse : List Stmt} {pos : Pos} {c : Bool} (F : Fm b env vars cvars news s₀ s) (ht : Ev prog w A (isTrue test env (eval test env)) s.heap (TB c))
    (kt : c = true → ∀ s', Fm b env vars cvars news s₀ s' → Kp s s' → wpAny (model prog w) A (execs body env) (fun f s' => match f with | .next => wpAny (model prog w) A (execs rest env) Q E s' | f => Q f s') E s')
    (kf : c = false → ∀ s', Fm b env vars cvars news s₀ s' → Kp s s' → wpAny (model prog w) A (execs orelse env) (fun f s' => match f with | .next => wpAny (model prog w) A (execs rest env) Q E s' | f => Q f s') E s') :
    wpAny (model prog w) A (execs (.If test body orelse pos :: rest) env) Q E s :=
  wpAny_execs_cons (wpAny_If (ht.use fun v s₁ k₁ hb => by
    have : v = c := hb.here
    subst this
    cases v with
    | true => exact kt rfl s₁ (F.kp k₁) k₁
    | false => exact kf rfl s₁ (F.kp k₁) k₁))
/-- no else -/
theorem x_if0 {test : Expr} {body : List Stmt} {pos : Pos} {c : Bool} (F : Fm b env vars cvars news s₀ s) (ht : Ev prog w A (isTrue test env (eval test env)) s.heap (TB c))
    (kt : c = true → ∀ s', Fm b env vars cvars news s₀ s' → Kp s s' → wpAny (model prog w) A (execs body env) (fun f s' => match f with | .next => wpAny (model prog w) A (execs rest env) Q E s' | f => Q f s') E s')
    (kf : c = false → ∀ s', Fm b env vars cvars news s₀ s' → Kp s s' → wpAny (model prog w) A (execs rest env) Q E s') :
    wpAny (model prog w) A (execs (.If test body [] pos :: rest) env) Q E s :=
  x_if F ht kt fun hc s' F' k' => wpAny_execs_nil (kf hc s' F' k')
end
end Mine

-- E5
namespace Mine
set_option linter.unusedVariables false
open PySem PySem.W PySem.Calls PyProof.Rows

/-- xv may be iterated: n items, P i the i-th -/
def Itr (prog : Program) (w : World) (A : Around) (xv : Value) (h₀ : Heap) (bad : List Addr) (n : Nat) (P : Nat → Value → Prop) : Prop :=
  ∀ (s : Shared) (E : Value → Shared → Prop) (Q : Value → Shared → Prop), Sub h₀ s.heap →
    (∀ I fp St s₂, Kp s s₂ → Walks prog w A I fp [I] n P St → St 0 s₂.heap → s.heap.get? I = none → (∀ i h, St i h → ∃ o, h.get? I = some o) → (∀ b ∈ fp, b = I ∨ (b ∉ bad ∧ ∃ o, s.heap.get? b = some o)) → Q (.ref I) s₂) →
    wpAny (model prog w) A (pyIter xv) Q E s

theorem get_size {h : Heap} : h.get? h.objs.size = none := Heap.get?_none_of_le (Nat.le_refl _)
theorem Sub.push {h : Heap} {o : Obj} : Sub h (h.push o) := fun _ _ e => Heap.get?_push_of_some _ e

section
variable {prog : Program} {w : World} {A : Around} {h₀ : Heap} {bad : List Addr}
theorem Itr.list (hh : A.handled = none) {l : Addr} {vs : List Value} (hl : h₀.IsList l vs.toArray) (hb : l ∉ bad) : Itr prog w A (.ref l) h₀ bad vs.length (fun i v => vs[i]? = some v) :=
  fun s E Q hs hq => by
    have hb0 := hb
    have hl' := IsList.up hl hs
    obtain ⟨ol, hol, _⟩ := id hl'
    have hne : l ≠ s.heap.objs.size := Nat.ne_of_lt (Heap.lt_size hol)
    refine wpAny_pyIter_list hl' ?_
    have W := Walks.list (prog := prog) (w := w) hh s.heap.objs.size l hne vs.toArray
    have e1 : (fun (i : Nat) (v : Value) => vs.toArray[i]? = some v) = fun i v => vs[i]? = some v := by funext i v; simp
    rw [List.size_toArray, e1] at W
    exact hq _ _ _ _ (Kp.mk' Sub.push) W ⟨⟨_, Heap.get?_push_size _ rfl, rfl, rfl⟩, IsList.up hl' Sub.push⟩ get_size (fun i h st => let ⟨o, ho, _⟩ := st.1; ⟨o, ho⟩) (fun b hb => by
      rcases List.mem_cons.mp hb with rfl | hb
      · exact .inl rfl
      · rw [List.mem_singleton.mp hb]; exact .inr ⟨hb0, _, hol⟩)
theorem Itr.ints (hh : A.handled = none) {l : Addr} {ns : List Int} (hl : Lst h₀ l ns) (hb : l ∉ bad) : Itr prog w A (.ref l) h₀ bad ns.length (fun i v => ∃ k t, ns[i]? = some k ∧ v = .int k t) := by
  obtain ⟨vs, a, i⟩ := hl
  have := Itr.list (prog := prog) (w := w) hh a hb
  rw [i.length] at this
  intro s E Q hs hq
  refine this s E Q hs fun I fp St s₂ k W st f g hfp => hq I fp St s₂ k ⟨W.sub, W.frame, fun j s Q E hj st hQ => W.item j s Q E hj st fun v h' tk hP => hQ v h' tk ?_, W.done, W.self⟩ st f g hfp
  obtain ⟨k, t, hk⟩ := i.at j v hP
  exact ⟨k, t, hk.2, hk.1⟩
theorem Itr.range (hh : A.handled = none) {r : Addr} {a b c : Int} {t u v : Tok} {n : Nat} (hr : IsRange h₀ r a b c t u v) (hs : Builtin.Range.small a b c = true) (hn : Builtin.Range.rangeSize a b c = n) : Itr prog w A (.ref r) h₀ bad n (fun i v => ∃ t, v = .int (a + i * c) t) :=
  fun s E Q hs' hq => by
    refine wpAny_pyIter_range (hs' _ _ hr) hs ?_
    refine hq _ _ _ _ (Kp.mk' Sub.push) (Walks.range (prog := prog) (w := w) hh s.heap.objs.size a c n) ?_ get_size (fun i h st => ⟨_, st⟩) (fun b hb => .inl (List.mem_singleton.mp hb))
    show IsRangeIter _ _ _ _ _
    rw [hn]; simpa using Heap.get?_push_size _ rfl
theorem Itr.str (hh : A.handled = none) {x : Str} {t : Tok} : Itr prog w A (.str x t) h₀ bad x.cps.size (SignAt x) :=
  fun s E Q hs hq => by
    cases ha : x.cps.all (· < 128)
    · refine wpAny_pyIter_wide ha ?_
      exact hq _ _ _ _ (Kp.mk' Sub.push) (Walks.strWide hh _ x t) ⟨_, Heap.get?_push_size _ rfl, rfl, rfl⟩ get_size (fun i h st => let ⟨o, ho, _⟩ := st; ⟨o, ho⟩) (fun b hb => .inl (List.mem_singleton.mp hb))
    · refine wpAny_pyIter_ascii ha ?_
      exact hq _ _ _ _ (Kp.mk' Sub.push) (Walks.strAscii hh _ x t) ⟨_, Heap.get?_push_size _ rfl, rfl, rfl⟩ get_size (fun i h st => let ⟨o, ho, _⟩ := st; ⟨o, ho⟩) (fun b hb => .inl (List.mem_singleton.mp hb))
end
end Mine

-- E6
namespace Mine
set_option linter.unusedVariables false
open PySem PySem.W PySem.Calls PyProof.Rows

-- the closure of a comprehension's block
def closeAll (cells : List (Str × Addr)) : List (Str × NameKind) → List (Str × Addr) → List (Str × Addr)
  | [], cs => cs
  | (n, k) :: r, cs => closeAll cells r (if k == .free then (n, (cells.lookup n).getD 0) :: cs else cs)
theorem closeAll_good {cells : List (Str × Addr)} : ∀ {names : List (Str × NameKind)} {cs : List (Str × Addr)}, (∀ y ∈ names, y.2 = .free → (cells.lookup y.1).isSome = true) →
    (∀ n c, cs.lookup n = some c → cells.lookup n = some c) → ∀ n c, (closeAll cells names cs).lookup n = some c → cells.lookup n = some c
  | [], _, _, h => h
  | (n, k) :: r, cs, hf, h => by
    unfold closeAll
    refine closeAll_good (fun y hy => hf y (List.mem_cons_of_mem _ hy)) fun m c hm => ?_
    split at hm
    · rename_i hk
      rw [List.lookup_cons] at hm
      cases hb : m == n with
      | true =>
        rw [hb] at hm
        obtain ⟨c', hc'⟩ := Option.isSome_iff_exists.mp (hf (n, k) List.mem_cons_self (by simpa using hk))
        rw [beq_iff_eq.mp hb]
        simp only at hc'
        rw [hc'] at hm ⊢
        simpa using hm
      | false => rw [hb] at hm; exact h m c hm
    · exact h m c hm
theorem closeAll_has {cells : List (Str × Addr)} {x : Str} : ∀ {names : List (Str × NameKind)} {cs : List (Str × Addr)}, (names.lookup x = some .free ∨ (cs.lookup x).isSome = true) → ((closeAll cells names cs).lookup x).isSome = true
  | [], _, h => h.elim (fun e => by cases e) id
  | (n, k) :: r, cs, h => by
    unfold closeAll
    refine closeAll_has ?_
    rcases h with h | h
    · rw [List.lookup_cons] at h
      cases hb : x == n with
      | true =>
        rw [hb] at h
        cases h
        right
        simp [List.lookup_cons, hb]
      | false => rw [hb] at h; exact .inl h
    · right
      split
      · rw [List.lookup_cons]
        cases hb : x == n <;> simp [h]
      · exact h
theorem closure_of {scope : Scope} {env : Env} (hf : ∀ y ∈ scope.names, y.2 = .free → (env.cells.lookup y.1).isSome = true) : closureFor scope env = pure (closeAll env.cells scope.names []) := by
  have key : ∀ (names : List (Str × NameKind)) (cs : List (Str × Addr)), (∀ y ∈ names, y.2 = .free → (env.cells.lookup y.1).isSome = true) →
      (forIn names cs fun (y : Str × NameKind) cs => if y.2 == .free then (cellOf env y.1 >>= fun c => pure (ForInStep.yield ((y.1, c) :: cs))) else pure (ForInStep.yield cs)) = (pure (closeAll env.cells names cs) : Sem _) := by
    intro names
    induction names with
    | nil => intro cs _; rfl
    | cons y r ih =>
      intro cs hf
      obtain ⟨n, k⟩ := y
      rw [List.forIn_cons]
      unfold closeAll
      have hr := fun y hy => hf y (List.mem_cons_of_mem _ hy)
      cases hk : k == .free with
      | true =>
        obtain ⟨c', hc'⟩ := Option.isSome_iff_exists.mp (hf (n, k) List.mem_cons_self (by simpa using hk))
        simp only at hc'
        have e : cellOf env n = pure c' := by unfold cellOf; rw [hc']
        simp only [hk, if_true, e, pure_bind, hc', Option.getD_some]
        exact ih _ hr
      | false =>
        simp only [hk, Bool.false_eq_true, if_false, pure_bind]
        exact ih _ hr
  have := key scope.names [] hf
  unfold closureFor
  rw [← this]
  simp only [bind_pure]

theorem cellsFrom_append : ∀ (names : List (Str × NameKind)) (n : Nat) (acc acc' : List (Str × Addr)), cellsFrom n names (acc ++ acc') = cellsFrom n names acc ++ acc'
  | [], _, _, _ => rfl
  | (x, k) :: r, n, acc, acc' => by
    unfold cellsFrom
    split
    · exact cellsFrom_append r (n + 1) ((x, n) :: acc) acc'
    · exact cellsFrom_append r n acc acc'
theorem cellsFrom_mem : ∀ (names : List (Str × NameKind)) (n : Nat) (acc : List (Str × Addr)) {x : Str} {c : Addr}, (x, c) ∈ cellsFrom n names acc → (x, NameKind.cell) ∈ names ∨ (x, c) ∈ acc
  | [], _, _, _, _, h => .inr h
  | (y, k) :: r, n, acc, x, c, h => by
    unfold cellsFrom at h
    split at h
    · rename_i hk
      rcases cellsFrom_mem r (n + 1) _ h with h | h
      · exact .inl (List.mem_cons_of_mem _ h)
      · rcases List.mem_cons.mp h with e | h
        · cases e
          have : k = .cell := by simpa using hk
          subst this
          exact .inl List.mem_cons_self
        · exact .inr h
    · exact (cellsFrom_mem r n acc h).imp (List.mem_cons_of_mem _) id
theorem lookup_append {α : Type} {a b : List (Str × α)} {x : Str} : (a ++ b).lookup x = (a.lookup x).or (b.lookup x) := List.lookup_append

theorem wpAny_compEnv {M : Model} {A : Around} {E : Value → Shared → Prop} {s : Shared} {scope : Scope} {cl : List (Str × Addr)} {env : Env} {Q : Env → Shared → Prop} (hk : scope.kind = .function)
    (hQ : ∀ h', h'.Ns s.heap.objs.size (fun _ => none) → Sub s.heap h' → (∀ n c, (cellsFrom (s.heap.objs.size + 1) scope.names []).lookup n = some c → h'.IsCell c none ∧ s.heap.objs.size < c) →
      Q (newEnv scope s.heap.objs.size env.globals (cellsFrom (s.heap.objs.size + 1) scope.names [] ++ cl) env.qual none .none (some env) builtinsNs) { s with heap := h' }) :
    wpAny M A (newFunctionEnv scope env.globals cl [] env.qual none .none (some env)) Q E s := by
  simp only [newFunctionEnv, Option.isSome_some, if_true]
  refine wpAny_bind (wpAny_alloc ?_)
  refine wpAny_bind (wpAny_layCells _ (fun name kind cells => by cases hkc : kind == NameKind.cell <;> simp [hkc]) _ _ _ _ ?_)
  have ok := cellsFrom_ok scope.names (s.heap.push { cls := .type "dict", data := .dict #[] }) (s.heap.objs.size + 1) [] ⟨fun _ _ hm => (nomatch hm), List.Pairwise.nil⟩ (by rw [Heap.size_push]; exact Nat.le_refl _)
  rw [Heap.size_push] at ok
  rw [show ({ s with heap := s.heap.push { cls := .type "dict", data := .dict #[] } } : Shared).heap.objs.size = s.heap.objs.size + 1 from Heap.size_push ..]
  rw [List.forIn_nil]
  refine wpAny_bind (wpAny_pure (wpAny_pure ?_))
  have e : cellsFrom (s.heap.objs.size + 1) scope.names cl = cellsFrom (s.heap.objs.size + 1) scope.names [] ++ cl := by
    have := cellsFrom_append scope.names (s.heap.objs.size + 1) [] cl
    simpa using this
  rw [e]
  refine hQ _ ((Heap.Ns.new s.heap (.type "dict")).keeps (pushCells_keeps _ _)) (fun b o eb => pushCells_keeps _ _ b o (Heap.get?_push_of_some _ eb)) fun n c hc => ?_
  have := ok.empty n c (mem_of_lookup hc)
  exact ⟨this.1, this.2⟩

theorem lookup_relabel_free {env : Env} : ∀ {names : List (Str × NameKind)} {x : Str}, names.lookup x = some .free →
    (names.map fun (n, k) => if (k == NameKind.free && env.scope.kind == .function && env.kindOf n == some .cell) then (n, NameKind.cell) else (n, k)).lookup x = some .cell ∨
    (names.map fun (n, k) => if (k == NameKind.free && env.scope.kind == .function && env.kindOf n == some .cell) then (n, NameKind.cell) else (n, k)).lookup x = some .free
  | [], _, h => by cases h
  | (n, k) :: r, x, h => by
    rw [List.map_cons]
    rw [List.lookup_cons] at h
    cases hx : x == n with
    | true =>
      rw [hx] at h
      cases h
      by_cases hc : (NameKind.free == NameKind.free && env.scope.kind == .function && env.kindOf n == some .cell) = true
      · left; simp only [if_pos hc, List.lookup_cons, hx]
      · right; simp only [if_neg hc, List.lookup_cons, hx]
    | false =>
      rw [hx] at h
      have ih := @lookup_relabel_free env r x h
      by_cases hc : (k == NameKind.free && env.scope.kind == .function && env.kindOf n == some .cell) = true
      · simp only [if_pos hc, List.lookup_cons, hx]; exact ih
      · simp only [if_neg hc, List.lookup_cons, hx]; exact ih
theorem lookup_relabel_other {env : Env} : ∀ {names : List (Str × NameKind)} {x : Str} {k₀ : NameKind}, names.lookup x = some k₀ → k₀ ≠ .free →
    (names.map fun (n, k) => if (k == NameKind.free && env.scope.kind == .function && env.kindOf n == some .cell) then (n, NameKind.cell) else (n, k)).lookup x = some k₀
  | [], _, _, h, _ => by cases h
  | (n, k) :: r, x, k₀, h, hne => by
    rw [List.map_cons]
    rw [List.lookup_cons] at h
    cases hx : x == n with
    | true =>
      rw [hx] at h
      cases h
      have hc : ¬ (k == NameKind.free && env.scope.kind == .function && env.kindOf n == some .cell) = true := by
        have : (k == NameKind.free) = false := by simpa using hne
        simp [this]
      simp only [if_neg hc, List.lookup_cons, hx]
    | false =>
      rw [hx] at h
      have ih := @lookup_relabel_other env r x k₀ h hne
      by_cases hc : (k == NameKind.free && env.scope.kind == .function && env.kindOf n == some .cell) = true
      · simp only [if_pos hc, List.lookup_cons, hx]; exact ih
      · simp only [if_neg hc, List.lookup_cons, hx]; exact ih

/-- a name that is a cell (its own or free) -/
def HasC (env : Env) (h : Heap) (n : Str) (v : Value) : Prop := ∃ c, env.cells.lookup n = some c ∧ h.IsCell c (some v) ∧ (env.kindOf n = some .cell ∨ env.kindOf n = some .free)
theorem HasC.up {env : Env} {h h' : Heap} {n : Str} {v : Value} (x : HasC env h n v) (k : Sub h h') : HasC env h' n v := let ⟨c, a, b, d⟩ := x; ⟨c, a, b.keeps k, d⟩
theorem HasC.has {env : Env} {h : Heap} {n : Str} {v : Value} (x : HasC env h n v) (hk : env.scope.kind = .function) (hn : (n == ("__classdict__" : Str)) = false) : Has env h n v :=
  let ⟨c, a, b, d⟩ := x; d.elim (fun d => Has.cell hk d a b) fun d => Has.free hk d a b hn
theorem Fm.hasCC {b : Heap} {env : Env} {vars cvars : List (Str × Value)} {news : List (Addr × Obj)} {s₀ s : Shared} {names : List (Str × NameKind)} (F : Fm b env vars cvars news s₀ s) (e : EnvOk env names) {x : Str} {v : Value} (hm : (x, v) ∈ cvars) (hl : names.lookup x = some .cell) : HasC env s.heap x v :=
  let ⟨c, h1, h2⟩ := F.cel _ hm; ⟨c, h1, h2, .inl (e.kindOf hl (by decide))⟩

/-- what the block of a comprehension sees -/
structure CEnv (env cenv : Env) (scope : Scope) (h : Heap) : Prop where
  ok : EnvOk cenv scope.names
  free : ∀ n v h', Sub h h' → scope.names.lookup n = some .free → HasC env h' n v → HasC cenv h' n v

/-- the state of a comprehension with its list D, its block's frame C, its own cell -/
structure CF (hb : Heap) (C D : Addr) (xc : Option Addr) (ys : List Value) (s₂ s : Shared) : Prop where
  same : ∃ h tk, s = { s₂ with heap := h, toks := tk }
  keep : Sub hb s.heap
  acc : s.heap.get? D = some (lobj ys ys.length)
  ns : ∃ m, s.heap.Ns C m
  own : ∀ c, xc = some c → ∃ v, s.heap.IsCell c v

structure CS (hb : Heap) (C D : Addr) (xc : Option Addr) : Prop where
  dNew : hb.get? D = none
  cNew : hb.get? C = none
  dc : D ≠ C
  xNew : ∀ c, xc = some c → hb.get? c = none ∧ c ≠ D ∧ c ≠ C

section
variable {hb : Heap} {C D : Addr} {xc : Option Addr} {ys : List Value} {s₂ s s' : Shared}
theorem CF.kp (F : CF hb C D xc ys s₂ s) (k : Kp s s') : CF hb C D xc ys s₂ s' where
  same := by obtain ⟨h, t, rfl⟩ := F.same; obtain ⟨h', t', rfl⟩ := k.same; exact ⟨h', t', rfl⟩
  keep := F.keep.tr k.sub
  acc := k.sub _ _ F.acc
  ns := let ⟨m, a⟩ := F.ns; ⟨m, a.keeps k.sub⟩
  own := fun c hc => let ⟨v, a⟩ := F.own c hc; ⟨v, a.keeps k.sub⟩
/-- a step that touches one fresh address alone -/
theorem CF.but (S : CS hb C D xc) (F : CF hb C D xc ys s₂ s) {I : Addr} (hI : hb.get? I = none) (h1 : I ≠ C) (h2 : I ≠ D) (h3 : ∀ c, xc = some c → c ≠ I) {h : Heap} {tk : Nat} (k : But [I] s.heap h) : CF hb C D xc ys s₂ { s with heap := h, toks := tk } where
  same := by obtain ⟨h', t, rfl⟩ := F.same; exact ⟨_, _, rfl⟩
  keep := fun b o e => k b o (by simp only [List.mem_singleton]; rintro rfl; rw [hI] at e; cases e) (F.keep _ _ e)
  acc := k _ _ (by simp only [List.mem_singleton]; exact Ne.symm h2) F.acc
  ns := let ⟨m, o, es, ep, ho, r⟩ := F.ns; ⟨m, o, es, ep, k _ _ (by simp only [List.mem_singleton]; exact Ne.symm h1) ho, r⟩
  own := fun c hc => let ⟨v, o, ho, r⟩ := F.own c hc; ⟨v, o, k _ _ (by simp only [List.mem_singleton]; exact h3 c hc) ho, r⟩

/-- the target of a clause is stored -/
theorem CF.assign {M : Model} {A : Around} {E : Value → Shared → Prop} {Q : Unit → Shared → Prop} {cenv : Env} {x : Str} {px : Pos} {v : Value} (S : CS hb cenv.locals D xc) (F : CF hb cenv.locals D xc ys s₂ s) (hk : cenv.scope.kind = .function)
    (hx : (cenv.kindOf x = some .local) ∨ (cenv.kindOf x = some .cell ∧ ∃ c, xc = some c ∧ cenv.cells.lookup x = some c))
    (k : ∀ s', CF hb cenv.locals D xc ys s₂ s' → But (cenv.locals :: xc.toList) s.heap s'.heap → Has cenv s'.heap x v → (cenv.kindOf x = some .cell → HasC cenv s'.heap x v) → Q () s') : wpAny M A (assign (.Name x px) cenv v) Q E s := by
  refine wpAny_assign_Name ?_
  obtain ⟨m, hn⟩ := F.ns
  rcases hx with hx | ⟨hx, c, hc, hcl⟩
  · refine wpAny_storeName_local hx hn (fun h' hn' hs => ?_) (by rw [hk]; rfl)
    have bt : ∀ a o, a ≠ cenv.locals → s.heap.get? a = some o → h'.get? a = some o := fun a o n ho => hs.extBut a o n ho
    refine k _ ⟨?_, fun b o e => bt b o (by rintro rfl; rw [S.cNew] at e; cases e) (F.keep _ _ e), bt _ _ S.dc F.acc, ⟨_, hn'⟩, fun c hc => ?_⟩ (fun a o ha ho => bt a o (fun q => ha (by rw [q]; exact List.mem_cons_self)) ho) (Has.loc hk hx hn' (by simp)) (fun q => by rw [hx] at q; cases q)
    · obtain ⟨h, t, rfl⟩ := F.same; exact ⟨_, _, rfl⟩
    · obtain ⟨v, o, ho, r⟩ := F.own c hc
      exact ⟨v, o, bt _ _ (S.xNew c hc).2.2 ho, r⟩
  · obtain ⟨v₀, hv⟩ := F.own c hc
    refine wpAny_storeName_cell hk hx hcl hv fun h' hcell hs => ?_
    have bt : ∀ a o, a ≠ c → s.heap.get? a = some o → h'.get? a = some o := fun a o n ho => hs.extBut a o n ho
    have X := S.xNew c hc
    obtain ⟨o, es, ep, ho, r⟩ := hn
    refine k _ ⟨?_, fun b o e => bt b o (by rintro rfl; rw [X.1] at e; cases e) (F.keep _ _ e), bt _ _ (Ne.symm X.2.1) F.acc, ⟨m, o, es, ep, bt _ _ (Ne.symm X.2.2) ho, r⟩, fun c' hc' => ?_⟩ (fun a o ha ho => bt a o (fun q => ha (by rw [q, hc]; simp)) ho) (Has.cell hk hx hcl hcell) (fun _ => ⟨c, hcl, hcell, .inl hx⟩)
    · obtain ⟨h, t, rfl⟩ := F.same; exact ⟨_, _, rfl⟩
    · rw [hc] at hc'; cases hc'; exact ⟨_, hcell⟩

theorem CF.append {prog : Program} {w : World} {A : Around} {E : Value → Shared → Prop} {Q : Value → Shared → Prop} {y : Value} (S : CS hb C D xc) (F : CF hb C D xc ys s₂ s) (hsz : ys.length ≤ sizeLine)
    (k : ∀ s', CF hb C D xc (ys ++ [y]) s₂ s' → But [D] s.heap s'.heap → Q .none s') : wpAny (model prog w) A (call (.builtin "list.append") [.ref D, y]) Q E s := by
  refine append_at (hsz := by rw [List.size_toArray]; exact hsz) F.acc fun h' hs hD => ?_
  have bt : ∀ a o, a ≠ D → s.heap.get? a = some o → h'.get? a = some o := fun a o n ho => hs.extBut a o n ho
  obtain ⟨m, o, es, ep, ho, r⟩ := F.ns
  refine k _ ⟨?_, fun b o e => bt b o (by rintro rfl; rw [S.dNew] at e; cases e) (F.keep _ _ e), hD.trans (congrArg some (LCg.lst_snoc ys y)), ⟨m, o, es, ep, bt _ _ (Ne.symm S.dc) ho, r⟩, fun c hc => ?_⟩ (fun a o ha ho => bt a o (by simpa using ha) ho)
  · obtain ⟨h, t, rfl⟩ := F.same; exact ⟨_, _, rfl⟩
  · obtain ⟨v, o, ho, r⟩ := F.own c hc
    exact ⟨v, o, bt _ _ (S.xNew c hc).2.1 ho, r⟩
end

section
variable {prog : Program} {w : World} {A : Around} {R : Result → Shared → Prop} {s : Shared}
theorem comp_loop {elt : Expr} {gens : List Comprehension} {scope : Scope} {pos p : Pos} {depth : Nat} {I : Addr} {acc : Value} {env : Env} {fp : List Addr} {n : Nat} {P : Nat → Value → Prop} {St : Nat → Heap → Prop} (step : Value → Sem Unit)
    (hturn : compTurn (.ListComp elt gens scope pos) depth (.ref I) acc env = (standAt p >>= fun _ => pyNext (.ref I) >>= fun r => match r with
      | none => pure (.done .next) | some v => step v >>= fun _ => again (.compLoop (.ListComp elt gens scope pos) depth (.ref I) acc env)))
    (W : Walks prog w A I fp [I] n P St) (J : Nat → Shared → Prop) (hJ : ∀ i s, J i s → St i s.heap)
    (hstep : ∀ i (s : Shared) v h tk (E' : Value → Shared → Prop), i < n → J i s → P i v → St (i + 1) h → But [I] s.heap h → wpAny (model prog w) A (step v) (fun _ s' => J (i + 1) s') E' { s with heap := h, toks := tk })
    (hdone : ∀ (s : Shared) h tk, J n s → But [I] s.heap h → R (.ok .next) { s with heap := h, toks := tk }) (h0 : J 0 s) :
    codeAny (model prog w) A (.compLoop (.ListComp elt gens scope pos) depth (.ref I) acc env) R s := by
  refine codeAny_loop rfl (fun k s' => ∃ i, i ≤ n ∧ k = n - i ∧ J i s') (fun k s' hI => ?_) n ⟨0, Nat.zero_le _, rfl, h0⟩
  obtain ⟨i, hi, rfl, hj⟩ := hI
  show wpAny _ A ((compTurn (.ListComp elt gens scope pos) depth (.ref I) acc env).onRaise (fun x => do noteFrame x env; theTreesLotGoes x)) _ _ s'
  refine wpAny_noted ?_
  rw [hturn]
  refine wpAny_bind (wpAny_standAt (wpAny_bind ?_))
  by_cases hlt : i < n
  · refine W.item i _ _ _ hlt (hJ _ _ hj) fun v h tk hP hst hk => ?_
    refine wpAny_bind (wpAny_mono (hstep i s' v h tk _ hlt hj hP hst hk) (fun _ s'' hj' => ?_) fun _ _ e => e)
    exact wpAny_pure ⟨rfl, _, by omega, i + 1, hlt, rfl, hj'⟩
  · have e : i = n := Nat.le_antisymm hi (Nat.not_lt.mp hlt)
    subst e
    exact W.done _ _ _ (hJ _ _ hj) fun h tk hk => wpAny_pure (hdone s' h tk hj hk)

theorem comp_start {elt : Expr} {gens : List Comprehension} {scope : Scope} {pos : Pos} {depth : Nat} {I : Addr} {acc : Value} {env : Env} {g : Comprehension} {fp : List Addr} {n : Nat} {P : Nat → Value → Prop} {St : Nat → Heap → Prop} (hg : gens[depth]? = some g) (ha : g.is_async = 0)
    (W : Walks prog w A I fp [I] n P St) (hst : St 0 s.heap)
    (h0 : codeAny (model prog w) A (.compLoop (.ListComp elt gens scope pos) depth (.ref I) acc env) R s) :
    codeAny (model prog w) A (.compStart (.ListComp elt gens scope pos) depth (.ref I) acc env) R s := by
  refine codeAny_of_tree ?_
  show wpAny _ _ ((compStart (.ListComp elt gens scope pos) depth (.ref I) acc env).onRaise (fun x => do noteFrame x env; standAt theWindowsPlace)) _ _ s
  refine wpAny_notedAt ?_
  unfold compStart
  simp only [clausesOf, hg, Option.elim, ha, bne_self_eq_false, Bool.false_eq_true, if_false, pure_bind]
  refine wpAny_bind (wpAny_askSetting ?_)
  refine wpAny_ite ?_
  split
  · first
      | exact wpAny_pure (And.intro rfl h0)
      | exact wpAny_bind (wpAny_pure (wpAny_pure (And.intro rfl h0)))
  · refine wpAny_bind (wpAny_rule (wpAny_bind (wpAny_standAt ?_)))
    exact wpAny_bind (W.self 0 _ _ _ hst (wpAny_pure (And.intro rfl h0)))
end
end Mine

-- E7
namespace Mine
set_option linter.unusedVariables false
open PySem PySem.W PySem.Calls PyProof.Rows

theorem Itr.up {prog : Program} {w : World} {A : Around} {xv : Value} {h h' : Heap} {bad : List Addr} {n : Nat} {P : Nat → Value → Prop} (x : Itr prog w A xv h bad n P) (k : Sub h h') : Itr prog w A xv h' bad n P := fun s E Q hs hq => x s E Q (k.tr hs) hq

def blockEnv (scope : Scope) (C : Addr) (env : Env) : Env :=
  { newEnv scope C env.globals (cellsFrom (C + 1) scope.names [] ++ closeAll env.cells scope.names []) env.qual none .none (some env) builtinsNs with scope := relabel scope env }

theorem own_lookup {names : List (Str × NameKind)} {k : Nat} {x n : Str} (hc : ∀ y ∈ names, y.2 = .cell → y.1 = x) (hn : n ≠ x) : (cellsFrom k names []).lookup n = none := by
  cases h : (cellsFrom k names []).lookup n with
  | none => rfl
  | some c =>
    rcases cellsFrom_mem names k [] (mem_of_lookup h) with h | h
    · exact absurd (hc _ h rfl) hn
    · cases h

theorem closeAll_eq {env : Env} {scope : Scope} {n : Str} (hf : ∀ y ∈ scope.names, y.2 = .free → (env.cells.lookup y.1).isSome = true) (h : scope.names.lookup n = some .free) : (closeAll env.cells scope.names []).lookup n = env.cells.lookup n := by
  obtain ⟨c, hc⟩ := Option.isSome_iff_exists.mp (closeAll_has (cells := env.cells) (cs := []) (.inl h))
  rw [hc, closeAll_good hf (fun _ _ e => by cases e) n c hc]

theorem blockEnv_ok {scope : Scope} {C : Addr} {env : Env} {names : List (Str × NameKind)} {x : Str} {h : Heap} (he : EnvOk env names) (hk : scope.kind = .function) (hx : scope.names.lookup x = some .local ∨ scope.names.lookup x = some .cell)
    (hcells : ∀ y ∈ scope.names, y.2 = .cell → y.1 = x) (hf : ∀ y ∈ scope.names, y.2 = .free → (env.cells.lookup y.1).isSome = true) : CEnv env (blockEnv scope C env) scope h := by
  refine ⟨⟨hk, fun {n k} hl hn => lookup_relabel_other hl hn, he.glob, he.blt⟩, fun n v h' _ hl hc => ?_⟩
  obtain ⟨c, h1, h2, h3⟩ := hc
  have hne : n ≠ x := by rintro rfl; rw [hl] at hx; rcases hx with hx | hx <;> cases hx
  refine ⟨c, ?_, h2, lookup_relabel_free hl⟩
  show (cellsFrom (C + 1) scope.names [] ++ closeAll env.cells scope.names []).lookup n = some c
  rw [lookup_append, own_lookup hcells hne, closeAll_eq hf hl, h1]; rfl

section
variable {prog : Program} {w : World} {A : Around} {h₀ : Heap}

def ListR (h₀ : Heap) (n : Nat) (R : Nat → Value → Prop) (v : Value) (h : Heap) : Prop := ∃ l ys, v = .ref l ∧ h₀.get? l = none ∧ h.get? l = some (lobj ys ys.length) ∧ ys.length = n ∧ ∀ i y, ys[i]? = some y → R i y

theorem compTurn_one (elt iter : Expr) (x : Str) (px : Pos) (scope : Scope) (pos : Pos) (I : Addr) (acc : Value) (env : Env) :
    compTurn (.ListComp elt [⟨.Name x px, iter, [], 0⟩] scope pos) 0 (.ref I) acc env = (standAt iter.pos >>= fun _ => pyNext (.ref I) >>= fun r => match r with
      | none => pure (.done .next)
      | some v => (assign (.Name x px) env v >>= fun _ => eval elt env >>= fun y => call (.builtin "list.append") [acc, y] >>= fun _ => pure ()) >>= fun _ =>
          again (.compLoop (.ListComp elt [⟨.Name x px, iter, [], 0⟩] scope pos) 0 (.ref I) acc env)) := by
  rw [compTurn_list1]
  congr 1; funext _; congr 1; funext r
  cases r with
  | none => rfl
  | some v =>
    show (letOwnedTupleGo (.Name x px) (.ref I) v >>= _) = _
    have : letOwnedTupleGo (.Name x px) (.ref I) v = pure () := rfl
    rw [this, pure_bind]
    simp only [bind_assoc]

theorem comp_core {env : Env} {names : List (Str × NameKind)} {elt iter : Expr} {x : Str} {px : Pos} {scope : Scope} {pos : Pos} {n : Nat} {P : Nat → Value → Prop} {R : Nat → Value → Prop}
    (he : EnvOk env names) (hk : scope.kind = .function) (hnames : ∀ y ∈ scope.names, y.2 = .local → scope.names.lookup y.1 = some .local)
    (hx : scope.names.lookup x = some .local ∨ scope.names.lookup x = some .cell) (hcells : ∀ y ∈ scope.names, y.2 = .cell → y.1 = x)
    (hf : ∀ y ∈ scope.names, y.2 = .free → (env.cells.lookup y.1).isSome = true)
    (hit : Ev prog w A (eval iter env) h₀ (fun xv h => Itr prog w A xv h [] n P)) (hsz : n ≤ sizeLine)
    (helt : ∀ i v cenv h, Sub h₀ h → i < n → P i v → CEnv env cenv scope h → Has cenv h x v → (scope.names.lookup x = some .cell → HasC cenv h x v) → Ev prog w A (eval elt cenv) h (fun y _ => R i y))
    (hs : ∀ x, foldedSetIterable iter env x = pure x)
    {s : Shared} {E : Value → Shared → Prop} (hs₀ : Sub h₀ s.heap) (use : Option (Value → Sem Unit)) {Q : Value → Shared → Prop}
    (fin : ∀ s₁ C D ys s', Kp s s₁ → s₁.heap.get? D = none → s₁.heap.get? C = none → D ≠ C → ys.length = n → (∀ i y, ys[i]? = some y → R i y) → Kp s₁ s' → s'.heap.get? D = some (lobj ys ys.length) → (∃ m, s'.heap.Ns C m) →
      compPost (model prog w) A E use Q (.ref D) C (.ok .next) s') {fpos : Pos} :
    wpAny (model prog w) A (comprehension (.ListComp elt [⟨.Name x px, iter, [], 0⟩] scope pos) scope env fpos (newList []) false (eval iter env) use) Q E s := by
  refine wpAny_comprehension_free (use := use) rfl hs (closure_of hf) hk hnames ?_
  refine wpAny_mono (hit s E hs₀) (fun xv s₁ h1 => ?_) fun _ _ e => e
  refine h1.1.here s₁ E _ Sub.rfl' fun I fp St s₂ k W st hI hIo hfp => ?_
  refine wpAny_newObj_type (wpAny_compEnv hk fun h' hns hsub hown => ?_)
  dsimp only at hns hsub hown ⊢
  have hC : (s₂.heap.push { cls := .type "list", dict := none, data := .seq ([] : List Value).toArray }).objs.size = s₂.heap.objs.size + 1 := Heap.size_push ..
  rw [hC] at hns hown ⊢
  have hD' : h'.get? s₂.heap.objs.size = some (lobj [] 0) := hsub _ _ (Heap.get?_push_size _ rfl)
  have hs2 : Sub s₁.heap s₂.heap := k.sub
  have fresh : ∀ a, s₂.heap.objs.size ≤ a → s₁.heap.get? a = none := fun a ha => hs2.none (Heap.get?_none_of_le ha)
  obtain ⟨oI, hoI⟩ := hIo _ _ st
  have hIlt : I < s₂.heap.objs.size := Heap.lt_size hoI
  let C := s₂.heap.objs.size + 1
  let D := s₂.heap.objs.size
  let xc : Option Addr := (cellsFrom (C + 1) scope.names []).lookup x
  have hxc : ∀ c, xc = some c → C < c := fun c hc => (hown x c hc).2
  have S : CS s₁.heap C D xc := ⟨fresh _ (Nat.le_refl _), fresh _ (Nat.le_succ _), Nat.ne_of_lt (Nat.lt_succ_self _), fun c hc => by
    have := hxc c hc
    have h2 : s₂.heap.objs.size + 1 < c := this
    exact ⟨fresh _ (Nat.le_of_lt (Nat.lt_of_succ_lt h2)), Nat.ne_of_gt (Nat.lt_of_succ_lt h2), Nat.ne_of_gt h2⟩⟩
  have hIC : I ≠ C := Nat.ne_of_lt (Nat.lt_succ_of_lt hIlt)
  have hID : I ≠ D := Nat.ne_of_lt hIlt
  have hIx : ∀ c, xc = some c → c ≠ I := fun c hc => by
    have h2 : s₂.heap.objs.size + 1 < c := hxc c hc
    exact Nat.ne_of_gt (Nat.lt_trans hIlt (Nat.lt_of_succ_lt h2))
  have hxk : ((blockEnv scope C env).kindOf x = some .local) ∨ ((blockEnv scope C env).kindOf x = some .cell ∧ ∃ c, xc = some c ∧ (blockEnv scope C env).cells.lookup x = some c) := by
    rcases hx with hx | hx
    · exact .inl (lookup_relabel_other hx (by decide))
    · refine .inr ⟨lookup_relabel_other hx (by decide), ?_⟩
      obtain ⟨c, hc⟩ := Option.isSome_iff_exists.mp (cellsFrom_some scope.names (C + 1) [] (x := x) (.inl hx))
      refine ⟨c, hc, ?_⟩
      show (cellsFrom (C + 1) scope.names [] ++ closeAll env.cells scope.names []).lookup x = some c
      rw [lookup_append, hc]; rfl
  have hfpOk : ∀ b ∈ fp, ∀ (X : List Addr), (∀ a ∈ X, s₁.heap.get? a = none ∧ a ≠ I) → b ∉ X := fun b hb X hX hm => by
    rcases hfp b hb with e | ⟨_, o, ho⟩
    · exact (hX b hm).2 e
    · rw [(hX b hm).1] at ho; cases ho
  have start : CF s₁.heap C D xc [] s₂ { s₂ with heap := h', toks := s₂.toks } := ⟨⟨_, _, rfl⟩, fun b o e => hsub _ _ (Sub.push _ _ (hs2 _ _ e)), hD', ⟨_, hns⟩, fun c hc => ⟨_, (hown x c hc).1⟩⟩
  have st' : St 0 h' := W.frame _ _ _ st fun b _ o e => hsub _ _ (Sub.push _ _ e)
  show codeAny _ A (.compStart _ 0 (.ref I) (.ref D) (blockEnv scope C env)) (compPost (model prog w) A E use Q (.ref D) C) { s₂ with heap := h' }
  refine comp_start (g := ⟨.Name x px, iter, [], 0⟩) rfl rfl W st' ?_
  refine comp_loop _ (compTurn_one elt iter x px scope pos I (.ref D) (blockEnv scope C env)) W
    (fun i s' => ∃ ys, ys.length = i ∧ (∀ j y, ys[j]? = some y → R j y) ∧ CF s₁.heap C D xc ys s₂ s' ∧ St i s'.heap ∧ i ≤ n) (fun _ _ ⟨_, _, _, _, st, _⟩ => st) ?_ ?_ ⟨[], rfl, (fun j y e => by simp at e), start, st', Nat.zero_le _⟩
  · rintro i s' v h tk E' hlt ⟨ys, hyl, hR, F, sti, hin⟩ hPv stn hbut
    have F₁ := F.but S (tk := tk) hI hIC hID hIx hbut
    refine wpAny_bind (CF.assign (cenv := blockEnv scope C env) S F₁ hk hxk fun s₃ F₃ hb₃ hHas hHasC => ?_)
    have st₃ : St (i + 1) s₃.heap := W.frame _ _ _ stn fun b hb o e => hb₃ b o (hfpOk b hb _ fun a ha => by
      rcases List.mem_cons.mp ha with rfl | ha
      · exact ⟨S.cNew, Ne.symm hIC⟩
      · have : xc = some a := by simpa using ha
        exact ⟨(S.xNew a this).1, hIx a this⟩) e
    have sub₃ : Sub h₀ s₃.heap := hs₀.tr (h1.2.sub.tr F₃.keep)
    refine wpAny_bind ((helt i v (blockEnv scope C env) s₃.heap sub₃ hlt hPv (blockEnv_ok he hk hx hcells hf) hHas (fun hxl => hHasC (lookup_relabel_other hxl (by decide)))).use fun y s₄ k₄ hb₄ => ?_)
    have F₄ := F₃.kp k₄
    refine wpAny_bind (F₄.append S (by omega) fun s₅ F₅ hb₅ => wpAny_pure ⟨ys ++ [y], by simp [hyl], fun j u hj => ?_, F₅, ?_, hlt⟩)
    · rcases Nat.lt_trichotomy j ys.length with hjl | hjl | hjl
      · exact hR j u (by rwa [List.getElem?_append_left hjl] at hj)
      · subst hjl; rw [hyl]; simp at hj; subst hj; exact hb₄.here
      · rw [List.getElem?_eq_none (by simp; omega)] at hj; cases hj
    · exact W.frame _ _ _ st₃ fun b hb o e => hb₅ b o (hfpOk b hb _ fun a ha => by rw [List.mem_singleton.mp ha]; exact ⟨S.dNew, Ne.symm hID⟩) (k₄.sub _ _ e)
  · rintro s' h tk ⟨ys, hyl, hR, F, sti, hin⟩ hbut
    have F₁ := F.but S (tk := tk) hI hIC hID hIx hbut
    obtain ⟨h4, t4, e4⟩ := F₁.same
    obtain ⟨h5, t5, e5⟩ := k.same
    refine fin s₁ C D ys _ h1.2 S.dNew S.cNew S.dc hyl hR ⟨?_, F₁.keep⟩ F₁.acc F₁.ns
    exact ⟨h4, t4, e4.trans (by rw [e5])⟩
theorem Ev.comp {env : Env} {names : List (Str × NameKind)} {elt iter : Expr} {x : Str} {px : Pos} {scope : Scope} {pos : Pos} {n : Nat} {P : Nat → Value → Prop} {R : Nat → Value → Prop}
    (he : EnvOk env names) (hk : scope.kind = .function) (hnames : ∀ y ∈ scope.names, y.2 = .local → scope.names.lookup y.1 = some .local)
    (hx : scope.names.lookup x = some .local ∨ scope.names.lookup x = some .cell) (hcells : ∀ y ∈ scope.names, y.2 = .cell → y.1 = x)
    (hf : ∀ y ∈ scope.names, y.2 = .free → (env.cells.lookup y.1).isSome = true)
    (hit : Ev prog w A (eval iter env) h₀ (fun xv h => Itr prog w A xv h [] n P)) (hsz : n ≤ sizeLine)
    (helt : ∀ i v cenv h, Sub h₀ h → i < n → P i v → CEnv env cenv scope h → Has cenv h x v → (scope.names.lookup x = some .cell → HasC cenv h x v) → Ev prog w A (eval elt cenv) h (fun y _ => R i y))
    (hs : ∀ x, foldedSetIterable iter env x = pure x := by intro _; rfl) :
    Ev prog w A (eval (.ListComp elt [⟨.Name x px, iter, [], 0⟩] scope pos) env) h₀ (ListR h₀ n R) := fun s E hs₀ => by
  rw [eval_ListComp]
  refine comp_core (R := R) he hk hnames hx hcells hf hit hsz helt hs hs₀ Option.none ?_
  intro s₁ C D ys s' k₁ hD hC hDC hlen hR k₂ hoD hnC
  obtain ⟨m, hm⟩ := hnC
  refine ⟨m, hm, fun h'' hsb => ?_⟩
  have kp : Sub s₁.heap h'' := fun b o e => hsb.extBut b o (by rintro rfl; rw [hC] at e; cases e) (k₂.sub _ _ e)
  have hD' : h''.get? D = some (lobj ys ys.length) := hsb.extBut _ _ hDC hoD
  refine ⟨fun h3 k3 => ⟨D, ys, rfl, Sub.none (hs₀.tr k₁.sub) hD, k3 _ _ hD', hlen, hR⟩, k₁.tr ⟨?_, kp⟩⟩
  obtain ⟨h4, t4, e4⟩ := k₂.same
  exact ⟨h'', s'.toks, by rw [e4]⟩
end
end Mine

-- E8
namespace Mine
set_option linter.unusedVariables false
open PySem PySem.W PySem.Calls PyProof.Rows

def Itr1 (prog : Program) (w : World) (A : Around) (xv : Value) (h₀ : Heap) (n : Nat) (P : Nat → Value → Prop) : Prop :=
  ∀ (s : Shared) (E : Value → Shared → Prop) (Q : Value → Shared → Prop), Sub h₀ s.heap →
    (∀ I St s₂, Kp s s₂ → Walks prog w A I [I] [I] n P St → St 0 s₂.heap → s.heap.objs.size ≤ I → Q (.ref I) s₂) →
    wpAny (model prog w) A (pyIter xv) Q E s
section
variable {prog : Program} {w : World} {A : Around} {h₀ : Heap}
theorem Itr1.range (hh : A.handled = none) {r : Addr} {a b c : Int} {t u v : Tok} {n : Nat} (hr : IsRange h₀ r a b c t u v) (hs : Builtin.Range.small a b c = true) (hn : Builtin.Range.rangeSize a b c = n) : Itr1 prog w A (.ref r) h₀ n (fun i v => ∃ t, v = .int (a + i * c) t) :=
  fun s E Q hs' hq => by
    refine wpAny_pyIter_range (hs' _ _ hr) hs ?_
    refine hq _ _ _ (Kp.mk' Sub.push) (Walks.range (prog := prog) (w := w) hh s.heap.objs.size a c n) ?_ (Nat.le_refl _)
    show IsRangeIter _ _ _ _ _
    rw [hn]; simpa using Heap.get?_push_size _ rfl

theorem compTurn_two0 (elt i1 i2 : Expr) (x1 x2 : Str) (p1 p2 : Pos) (scope : Scope) (pos : Pos) (I : Addr) (acc : Value) (env : Env) :
    compTurn (.ListComp elt [⟨.Name x1 p1, i1, [], 0⟩, ⟨.Name x2 p2, i2, [], 0⟩] scope pos) 0 (.ref I) acc env = (standAt i1.pos >>= fun _ => pyNext (.ref I) >>= fun r => match r with
      | none => pure (.done .next)
      | some v => (assign (.Name x1 p1) env v >>= fun _ => eval i2 env >>= fun x => standAt i2.pos >>= fun _ => foldedSetIterable i2 env x >>= fun x => holding [x] (pyIter x) >>= fun it =>
            runOwn (.compStart (.ListComp elt [⟨.Name x1 p1, i1, [], 0⟩, ⟨.Name x2 p2, i2, [], 0⟩] scope pos) 1 it acc env) env >>= fun _ => pure ()) >>= fun _ =>
          again (.compLoop (.ListComp elt [⟨.Name x1 p1, i1, [], 0⟩, ⟨.Name x2 p2, i2, [], 0⟩] scope pos) 0 (.ref I) acc env)) := by
  simp only [bind_assoc, pure_bind]
  rfl
theorem compTurn_two1r (elt i1 i2 : Expr) (x1 x2 : Str) (p1 p2 : Pos) (scope : Scope) (pos : Pos) (I : Addr) (acc : Value) (env : Env) :
    compTurn (.ListComp elt [⟨.Name x1 p1, i1, [], 0⟩, ⟨.Name x2 p2, i2, [], 0⟩] scope pos) 1 (.ref I) acc env = (standAt i2.pos >>= fun _ => pyNext (.ref I) >>= fun r => match r with
      | none => pure (.done .next)
      | some v => letOwnedTupleGo (.Name x2 p2) (.ref I) v >>= fun _ => assign (.Name x2 p2) env v >>= fun _ => (eval elt env >>= fun y => call (.builtin "list.append") [acc, y] >>= fun _ => pure ()) >>= fun _ =>
          again (.compLoop (.ListComp elt [⟨.Name x1 p1, i1, [], 0⟩, ⟨.Name x2 p2, i2, [], 0⟩] scope pos) 1 (.ref I) acc env)) := by rfl
theorem compTurn_two1 (elt i1 i2 : Expr) (x1 x2 : Str) (p1 p2 : Pos) (scope : Scope) (pos : Pos) (I : Addr) (acc : Value) (env : Env) :
    compTurn (.ListComp elt [⟨.Name x1 p1, i1, [], 0⟩, ⟨.Name x2 p2, i2, [], 0⟩] scope pos) 1 (.ref I) acc env = (standAt i2.pos >>= fun _ => pyNext (.ref I) >>= fun r => match r with
      | none => pure (.done .next)
      | some v => (assign (.Name x2 p2) env v >>= fun _ => eval elt env >>= fun y => call (.builtin "list.append") [acc, y] >>= fun _ => pure ()) >>= fun _ =>
          again (.compLoop (.ListComp elt [⟨.Name x1 p1, i1, [], 0⟩, ⟨.Name x2 p2, i2, [], 0⟩] scope pos) 1 (.ref I) acc env)) := by
  rw [compTurn_two1r]
  congr 1; funext _; congr 1; funext r
  cases r with
  | none => rfl
  | some v =>
    show (letOwnedTupleGo (.Name x2 p2) (.ref I) v >>= _) = _
    have : letOwnedTupleGo (.Name x2 p2) (.ref I) v = pure () := rfl
    rw [this, pure_bind]
    simp only [bind_assoc]

theorem cf_assignL {hb : Heap} {D : Addr} {ys : List Value} {s₂ s : Shared} {M : Model} {E : Value → Shared → Prop} {Q : Unit → Shared → Prop} {cenv : Env} {x : Str} {px : Pos} {v : Value} {m : Str → Option Value} (S : CS hb cenv.locals D Option.none) (F : CF hb cenv.locals D Option.none ys s₂ s) (hk : cenv.scope.kind = .function)
    (hx : cenv.kindOf x = some .local) (hn : s.heap.Ns cenv.locals m)
    (k : ∀ s', CF hb cenv.locals D Option.none ys s₂ s' → But [cenv.locals] s.heap s'.heap → s'.heap.Ns cenv.locals (fun y => if y = x then some v else m y) → Q () s') : wpAny M A (assign (.Name x px) cenv v) Q E s := by
  refine wpAny_assign_Name (wpAny_storeName_local hx hn (fun h' hn' hs => ?_) (by rw [hk]; rfl))
  have bt : ∀ a o, a ≠ cenv.locals → s.heap.get? a = some o → h'.get? a = some o := fun a o n ho => hs.extBut a o n ho
  refine k _ ⟨?_, fun b o e => bt b o (by rintro rfl; rw [S.cNew] at e; cases e) (F.keep _ _ e), bt _ _ S.dc F.acc, ⟨_, hn'⟩, fun c hc => nomatch hc⟩ (fun a o ha ho => bt a o (by simpa using ha) ho) hn'
  obtain ⟨h, t, rfl⟩ := F.same; exact ⟨_, _, rfl⟩
theorem Ns.but {h h' : Heap} {C I : Addr} {m : Str → Option Value} (hn : h.Ns C m) (k : But [I] h h') (hne : I ≠ C) : h'.Ns C m := let ⟨o, es, ep, ho, r⟩ := hn; ⟨o, es, ep, k _ _ (by simp only [List.mem_singleton]; exact Ne.symm hne) ho, r⟩

/-- two clauses, ints -/
theorem Ev.comp2 {env : Env} {names : List (Str × NameKind)} {elt i1 i2 : Expr} {x1 x2 : Str} {p1 p2 : Pos} {scope : Scope} {pos : Pos} {n1 n2 : Nat} {P1 P2 : Nat → Value → Prop} (f : Nat → Nat → Int)
    (he : EnvOk env names) (hk : scope.kind = .function) (hnames : ∀ y ∈ scope.names, y.2 = .local → scope.names.lookup y.1 = some .local)
    (hx1 : scope.names.lookup x1 = some .local) (hx2 : scope.names.lookup x2 = some .local) (hne : x1 ≠ x2) (hcells : ∀ y ∈ scope.names, y.2 ≠ .cell) (hfree : ∀ y ∈ scope.names, y.2 ≠ .free)
    (hit : Ev prog w A (eval i1 env) h₀ (fun xv h => Itr prog w A xv h [] n1 P1)) (hsz : n1 * n2 ≤ sizeLine)
    (hit2 : ∀ cenv h, Sub h₀ h → CEnv env cenv scope h → Ev prog w A (eval i2 cenv) h (fun xv h => Itr1 prog w A xv h n2 P2))
    (helt : ∀ i j v u cenv h, Sub h₀ h → i < n1 → j < n2 → P1 i v → P2 j u → CEnv env cenv scope h → Has cenv h x1 v → Has cenv h x2 u → Ev prog w A (eval elt cenv) h (IsI (f i j)))
    (hs : ∀ x, foldedSetIterable i1 env x = pure x := by intro _; rfl) (hs2 : ∀ env x, foldedSetIterable i2 env x = pure x := by intro _ _; rfl) :
    Ev prog w A (eval (.ListComp elt [⟨.Name x1 p1, i1, [], 0⟩, ⟨.Name x2 p2, i2, [], 0⟩] scope pos) env) h₀ (NewL h₀ ((List.range n1).flatMap fun i => (List.range n2).map (f i))) := fun s E hs₀ => by
  have hf : ∀ y ∈ scope.names, y.2 = .free → (env.cells.lookup y.1).isSome = true := fun y hy e => absurd e (hfree y hy)
  rw [eval_ListComp]
  refine wpAny_comprehension_free (use := Option.none) rfl hs (closure_of hf) hk hnames ?_
  refine wpAny_mono (hit s E hs₀) (fun xv s₁ h1 => ?_) fun _ _ e => e
  refine h1.1.here s₁ E _ Sub.rfl' fun I fp St s₂ k W st hI hIo hfp => ?_
  refine wpAny_newObj_type (wpAny_compEnv hk fun h' hns hsub hown => ?_)
  dsimp only at hns hsub hown ⊢
  have hC : (s₂.heap.push { cls := .type "list", dict := none, data := .seq ([] : List Value).toArray }).objs.size = s₂.heap.objs.size + 1 := Heap.size_push ..
  rw [hC] at hns hown ⊢
  have hD' : h'.get? s₂.heap.objs.size = some (lobj [] 0) := hsub _ _ (Heap.get?_push_size _ rfl)
  have hs2' : Sub s₁.heap s₂.heap := k.sub
  have fresh : ∀ a, s₂.heap.objs.size ≤ a → s₁.heap.get? a = none := fun a ha => hs2'.none (Heap.get?_none_of_le ha)
  obtain ⟨oI, hoI⟩ := hIo _ _ st
  have hIlt : I < s₂.heap.objs.size := Heap.lt_size hoI
  let C := s₂.heap.objs.size + 1
  let D := s₂.heap.objs.size
  have S : CS s₁.heap C D Option.none := ⟨fresh _ (Nat.le_refl _), fresh _ (Nat.le_succ _), Nat.ne_of_lt (Nat.lt_succ_self _), fun c hc => nomatch hc⟩
  have hIC : I ≠ C := Nat.ne_of_lt (Nat.lt_succ_of_lt hIlt)
  have hID : I ≠ D := Nat.ne_of_lt hIlt
  have hIx : ∀ I c, (Option.none : Option Addr) = some c → c ≠ I := fun I c hc => nomatch hc
  have hk1 : (blockEnv scope C env).kindOf x1 = some .local := lookup_relabel_other hx1 (by decide)
  have hk2 : (blockEnv scope C env).kindOf x2 = some .local := lookup_relabel_other hx2 (by decide)
  have cok : ∀ h, CEnv env (blockEnv scope C env) scope h := fun h => blockEnv_ok (x := x1) he hk (.inl hx1) (fun y hy e => absurd e (hcells y hy)) hf
  have hfpOk : ∀ b ∈ fp, ∀ a, s₁.heap.get? a = none → a ≠ I → b ≠ a := fun b hb a h1 h2 => by
    rcases hfp b hb with e | ⟨_, o, ho⟩
    · rintro rfl; exact h2 e
    · rintro rfl; rw [h1] at ho; cases ho
  have start : CF s₁.heap C D Option.none [] s₂ { s₂ with heap := h', toks := s₂.toks } := ⟨⟨_, _, rfl⟩, fun b o e => hsub _ _ (Sub.push _ _ (hs2' _ _ e)), hD', ⟨_, hns⟩, fun c hc => nomatch hc⟩
  have st' : St 0 h' := W.frame _ _ _ st fun b _ o e => hsub _ _ (Sub.push _ _ e)
  let out : Nat → List Int := fun i => (List.range i).flatMap fun i => (List.range n2).map (f i)
  have out_succ : ∀ i, out (i + 1) = out i ++ (List.range n2).map (f i) := fun i => by simp [out, List.range_succ]
  have out_len : ∀ i, (out i).length = i * n2 := fun i => by
    induction i with
    | zero => simp [out]
    | succ i ih => rw [out_succ, List.length_append, ih, List.length_map, List.length_range, Nat.succ_mul]
  show codeAny _ A (.compStart _ 0 (.ref I) (.ref D) (blockEnv scope C env)) (compPost (model prog w) A E Option.none _ (.ref D) C) { s₂ with heap := h' }
  refine comp_start (g := ⟨.Name x1 p1, i1, [], 0⟩) rfl rfl W st' ?_
  refine comp_loop _ (compTurn_two0 elt i1 i2 x1 x2 p1 p2 scope pos I (.ref D) (blockEnv scope C env)) W
    (fun i s' => ∃ ys, IntsAre ys (out i) ∧ CF s₁.heap C D Option.none ys s₂ s' ∧ St i s'.heap ∧ i ≤ n1) (fun _ _ ⟨_, _, _, st, _⟩ => st) ?_ ?_ ⟨[], .nil, start, st', Nat.zero_le _⟩
  · rintro i s' v h tk E' hlt ⟨ys, hyI, F, sti, hin⟩ hPv stn hbut
    have F₁ := F.but S (tk := tk) hI hIC hID (hIx I) hbut
    obtain ⟨m₁, hm₁⟩ := F₁.ns
    refine wpAny_bind (cf_assignL (cenv := blockEnv scope C env) S F₁ hk hk1 hm₁ fun s₃ F₃ hb₃ hns₃ => ?_)
    have sub₃ : Sub h₀ s₃.heap := hs₀.tr (h1.2.sub.tr F₃.keep)
    have st₃ : St (i + 1) s₃.heap := W.frame _ _ _ stn fun b hb o e => hb₃ b o (by simp only [List.mem_singleton]; exact hfpOk b hb C S.cNew (Ne.symm hIC)) e
    refine wpAny_bind ((hit2 _ s₃.heap sub₃ (cok _)).use fun x2v s₄ k₄ hb₄ => ?_)
    refine wpAny_bind (wpAny_standAt (wpAny_bind (wpAny_of_eq (hs2 _ x2v) (wpAny_bind (wpAny_holding (hb₄.here s₄ _ _ Sub.rfl' fun I2 St2 s₅ k₅ W2 st2 hI2 => ?_))))))
    have F₅ := (F₃.kp k₄).kp k₅
    have st₅ : St (i + 1) s₅.heap := W.frame _ _ _ st₃ fun b hb o e => k₅.sub _ _ (k₄.sub _ _ e)
    have hDlt : D < s₄.heap.objs.size := Heap.lt_size (F₃.kp k₄).acc
    obtain ⟨m4, o4, _, _, ho4, _⟩ := (F₃.kp k₄).ns
    have hClt : C < s₄.heap.objs.size := Heap.lt_size ho4
    have hI2D : I2 ≠ D := Nat.ne_of_gt (Nat.lt_of_lt_of_le hDlt hI2)
    have hI2C : I2 ≠ C := Nat.ne_of_gt (Nat.lt_of_lt_of_le hClt hI2)
    have hI2I : I2 ≠ I := Nat.ne_of_gt (Nat.lt_of_lt_of_le (Nat.lt_trans hIlt hDlt) hI2)
    have hI2n : s₁.heap.get? I2 = none := (F₃.kp k₄).keep.none (Heap.get?_none_of_le hI2)
    have hns5 : ∃ m, s₅.heap.Ns C m ∧ m x1 = some v := ⟨_, (hns₃.keeps k₄.sub).keeps k₅.sub, by simp⟩
    refine wpAny_bind (wpAny_runOwn (show codeAny _ A _ _ _ from ?_))
    refine comp_start (g := ⟨.Name x2 p2, i2, [], 0⟩) rfl rfl W2 st2 ?_
    refine comp_loop _ (compTurn_two1 elt i1 i2 x1 x2 p1 p2 scope pos I2 (.ref D) (blockEnv scope C env)) W2
      (fun j s' => ∃ ys, IntsAre ys (out i ++ (List.range j).map (f i)) ∧ CF s₁.heap C D Option.none ys s₂ s' ∧ St2 j s'.heap ∧ St (i + 1) s'.heap ∧ (∃ m, s'.heap.Ns C m ∧ m x1 = some v) ∧ j ≤ n2) (fun _ _ ⟨_, _, _, st, _⟩ => st) ?_ ?_ ⟨ys, by simpa using hyI, F₅, st2, st₅, hns5, Nat.zero_le _⟩
    · rintro j t u g tg E'' hltj ⟨zs, hzI, G, stj, sti', ⟨mg, hmg, hmx⟩, hjn⟩ hPu stn2 hbut2
      have G₁ := G.but S (tk := tg) hI2n hI2C hI2D (hIx I2) hbut2
      have sti₁ : St (i + 1) g := W.frame _ _ _ sti' fun b hb o e => hbut2 b o (by simp only [List.mem_singleton]; exact hfpOk b hb I2 hI2n hI2I) e
      refine wpAny_bind (cf_assignL (cenv := blockEnv scope C env) S G₁ hk hk2 (Ns.but hmg hbut2 hI2C) fun t₃ G₃ gb₃ gns₃ => ?_)
      have sti₃ : St (i + 1) t₃.heap := W.frame _ _ _ sti₁ fun b hb o e => gb₃ b o (by simp only [List.mem_singleton]; exact hfpOk b hb C S.cNew (Ne.symm hIC)) e
      have st2₃ : St2 (j + 1) t₃.heap := W2.frame _ _ _ stn2 fun b hb o e => gb₃ b o (by simp only [List.mem_singleton] at hb ⊢; subst hb; exact hI2C) e
      refine wpAny_bind ((helt i j v u (blockEnv scope C env) t₃.heap (hs₀.tr (h1.2.sub.tr G₃.keep)) hlt hltj hPv hPu (cok _) (Has.loc hk hk1 gns₃ (by simp only [if_neg hne]; exact hmx)) (Has.loc hk hk2 gns₃ (by simp))).use fun y t₄ kt₄ hy => ?_)
      obtain ⟨ty, rfl⟩ := hy.here
      have G₄ := G₃.kp kt₄
      have hlen : zs.length ≤ sizeLine := by
        have h1 := hzI.length
        rw [List.length_append, out_len, List.length_map, List.length_range] at h1
        have h2 : i * n2 + n2 ≤ n1 * n2 := by rw [← Nat.succ_mul]; exact Nat.mul_le_mul_right _ hlt
        omega
      refine wpAny_bind (G₄.append S hlen fun t₅ G₅ gb₅ => wpAny_pure ⟨zs ++ [.int (f i j) ty], ?_, G₅, ?_, ?_, ?_, hltj⟩)
      · rw [List.range_succ, List.map_append, ← List.append_assoc]
        exact IntsAre.append hzI (.cons _ _ .nil)
      · exact W2.frame _ _ _ st2₃ fun b hb o e => gb₅ b o (by simp only [List.mem_singleton] at hb ⊢; subst hb; exact hI2D) (kt₄.sub _ _ e)
      · exact W.frame _ _ _ sti₃ fun b hb o e => gb₅ b o (by simp only [List.mem_singleton]; exact hfpOk b hb D S.dNew (Ne.symm hID)) (kt₄.sub _ _ e)
      · exact ⟨_, Ns.but (gns₃.keeps kt₄.sub) gb₅ S.dc, by simp only [if_neg hne]; exact hmx⟩
    · rintro t g tg ⟨zs, hzI, G, stj, sti', hH, hjn⟩ hbut2
      have G₁ := G.but S (tk := tg) hI2n hI2C hI2D (hIx I2) hbut2
      refine wpAny_pure ⟨zs, by rw [out_succ]; exact hzI, G₁, W.frame _ _ _ sti' fun b hb o e => hbut2 b o (by simp only [List.mem_singleton]; exact hfpOk b hb I2 hI2n hI2I) e, hlt⟩
  · rintro s' h tk ⟨ys, hyI, F, sti, hin⟩ hbut
    have F₁ := F.but S (tk := tk) hI hIC hID (hIx I) hbut
    obtain ⟨m, hm⟩ := F₁.ns
    refine ⟨m, hm, fun h'' hsb => ?_⟩
    have kp : Sub s₁.heap h'' := fun b o e => hsb.extBut b o (by rintro rfl; rw [show s₁.heap.get? C = none from S.cNew] at e; cases e) (F₁.keep _ _ e)
    have hD : h''.get? D = some (lobj ys ys.length) := hsb.extBut _ _ S.dc F₁.acc
    refine ⟨fun h3 k3 => ⟨D, ys, _, rfl, (hs₀.tr h1.2.sub).none S.dNew, k3 _ _ hD, hyI⟩, h1.2.tr ⟨?_, kp⟩⟩
    obtain ⟨h4, t4, e4⟩ := F₁.same
    obtain ⟨h5, t5, e5⟩ := k.same
    exact ⟨h'', tk, by rw [show ({ s' with heap := h'', toks := tk } : Shared) = { ({ s' with heap := h, toks := tk } : Shared) with heap := h'', toks := tk } from rfl, e4, e5]⟩
end
end Mine

-- E9
namespace Mine
set_option linter.unusedVariables false
open PySem PySem.W PySem.Calls PyProof.Rows

section
variable {b : Heap} {env : Env} {vars cvars : List (Str × Value)} {news : List (Addr × Obj)} {s₀ s s' : Shared} {names : List (Str × NameKind)}

/-- another base below -/
theorem Fm.base {b' : Heap} (F : Fm b' env vars cvars news s₀ s) (k : Sub b b') : Fm b env vars cvars news s₀ s :=
  { F with keep := k.tr F.keep, locNew := k.none F.locNew, celOk := fun n c h => let ⟨a, d, e⟩ := F.celOk n c h; ⟨a, k.none d, e⟩, nw := fun p hp => let ⟨a, d, e⟩ := F.nw p hp; ⟨a, k.none d, e⟩ }

def hidden (env : Env) (mu : List (Addr × Obj)) : List Addr := env.locals :: (env.cells.map (·.2) ++ mu.map (·.1))
theorem Fm.hide {mu news' : List (Addr × Obj)} (F : Fm b env vars cvars news s₀ s) (hm : ∀ p ∈ mu, p ∈ news) (hn : ∀ p ∈ news', p ∈ mu) : Fm (hideAll s.heap (hidden env mu)) env vars cvars news' s₀ s where
  same := F.same
  keep := fun a o e => of_hideAll _ e
  ns := F.ns
  locNew := hideAll_none _ List.mem_cons_self
  cel := F.cel
  celOk := fun n c h => let ⟨a, d, e⟩ := F.celOk n c h; ⟨a, hideAll_none _ (List.mem_cons_of_mem _ (List.mem_append_left _ (List.mem_map_of_mem (mem_of_lookup h)))), e⟩
  apart := F.apart
  nw := fun p hp => let ⟨a, d, e⟩ := F.nw p (hm p (hn p hp)); ⟨a, hideAll_none _ (List.mem_cons_of_mem _ (List.mem_append_right _ (List.mem_map_of_mem (hn p hp)))), e⟩
theorem Fm.hideSub {mu : List (Addr × Obj)} (F : Fm b env vars cvars news s₀ s) (hm : ∀ p ∈ mu, p ∈ news) (hd : ∀ n c, (n, c) ∈ env.cells → env.cells.lookup n = some c) : Sub b (hideAll s.heap (hidden env mu)) := fun a o e => by
  refine hideAll_get _ (F.keep _ _ e) fun hmem => ?_
  rcases List.mem_cons.mp hmem with rfl | hmem
  · rw [F.locNew] at e; cases e
  rcases List.mem_append.mp hmem with h | h
  · obtain ⟨⟨n, c⟩, hp, rfl⟩ := List.mem_map.mp h
    simp only at e
    rw [(F.celOk _ _ (hd n c hp)).2.1] at e; cases e
  · obtain ⟨p, hp, rfl⟩ := List.mem_map.mp h
    rw [(F.nw p (hm p hp)).2.1] at e; cases e

/-- an object of the frame's own is changed -/
theorem Fm.upd {l : Addr} {o o' : Obj} {h : Heap} {tk : Nat} (F : Fm b env vars cvars news s₀ s) (hl : (l, o) ∈ news) (k : But [l] s.heap h) (ho : h.get? l = some o') :
    Fm b env vars cvars ((l, o') :: news.filter fun p => p.1 != l) s₀ { s with heap := h, toks := tk } where
  same := by obtain ⟨h', t, rfl⟩ := F.same; exact ⟨_, _, rfl⟩
  keep := fun a ob e => k a ob (by simp only [List.mem_singleton]; rintro rfl; rw [(F.nw _ hl).2.1] at e; cases e) (F.keep _ _ e)
  ns := let ⟨m, ⟨oL, es, ep, hL, r⟩, e⟩ := F.ns; ⟨m, ⟨oL, es, ep, k _ _ (by simp only [List.mem_singleton]; exact Ne.symm (F.nw _ hl).2.2.1) hL, r⟩, e⟩
  locNew := F.locNew
  cel := fun p hp => let ⟨c, hc, oc, hoc, r⟩ := F.cel p hp; ⟨c, hc, oc, k _ _ (by simp only [List.mem_singleton]; exact Ne.symm ((F.nw _ hl).2.2.2 _ _ hc)) hoc, r⟩
  celOk := fun n c hc => let ⟨⟨v, oc, hoc, r⟩, e⟩ := F.celOk n c hc; ⟨⟨v, oc, k _ _ (by simp only [List.mem_singleton]; exact Ne.symm ((F.nw _ hl).2.2.2 _ _ hc)) hoc, r⟩, e⟩
  apart := F.apart
  nw := fun p hp => by
    rcases List.mem_cons.mp hp with rfl | hp
    · exact ⟨ho, (F.nw _ hl).2⟩
    · obtain ⟨hp, hpl⟩ := List.mem_filter.mp hp
      obtain ⟨a, r⟩ := F.nw p hp
      exact ⟨k _ _ (by simpa using hpl) a, r⟩
end

section
variable {prog : Program} {w : World} {A : Around} {b : Heap} {env : Env} {vars cvars : List (Str × Value)} {news : List (Addr × Obj)} {s₀ s : Shared} {names : List (Str × NameKind)} {E : Value → Shared → Prop} {Q : Flow → Shared → Prop} {rest : List Stmt}

/-- a name has one cell -/
def CellsOne (env : Env) : Prop := ∀ n c, (n, c) ∈ env.cells → env.cells.lookup n = some c

theorem x_forP {σ : Type} {x : Str} {xp pos : Pos} {iter : Expr} {body : List Stmt} {n : Nat} {P : Nat → Value → Prop} (K : Nat → σ → Prop) (vs : Nat → σ → List (Str × Value)) (nw : Nat → σ → List (Addr × Obj)) (mu kp : List (Addr × Obj)) (RE : Value → Shared → Prop) (hRE : ∀ e s', RE e s' → notedBy (model prog w) A env (cameBackBy (model prog w) A env E) e s')
    (F : Fm b env vars cvars news s₀ s) (e : EnvOk env names) (hl : names.lookup x = some .local) (hcn : CellsOne env)
    (hit : Ev prog w A (eval iter env) s.heap (fun xv h => Itr prog w A xv h (hidden env mu) n P))
    (hmu : ∀ p ∈ mu, p ∈ news) (hkp : ∀ p ∈ kp, p ∈ news ∧ p.1 ∉ mu.map (·.1))
    (init : ∃ z, K 0 z ∧ (∀ p ∈ vs 0 z, p ∈ vars) ∧ ∀ p ∈ nw 0 z, p ∈ mu)
    (turn : ∀ b' i z v s' io, Sub b b' → (∀ l o, s.heap.get? l = some o → l ∉ hidden env mu → b'.get? l = some o) → (∀ l o, s.heap.get? l = some o → l ≠ io.1) → (∀ p ∈ nw i z, p.1 ≠ io.1) → i < n → K i z → P i v →
      Fm b' env ((x, v) :: dropN x (vs i z)) cvars (io :: nw i z) s₀ s' →
      wpAny (model prog w) A (execs body env) (fun fl s'' => match fl with
        | .ret u => Q (.ret u) s''
        | .brk => False
        | _ => ∃ z', K (i + 1) z' ∧ Fm b' env (vs (i + 1) z') cvars (io :: nw (i + 1) z') s₀ s'' ∧ ∀ p ∈ nw (i + 1) z', p.1 ≠ io.1) RE s')
    (done : ∀ z s', K n z → Fm b env (vs n z) cvars (nw n z ++ kp) s₀ s' → wpAny (model prog w) A (execs rest env) Q E s')
    (hs : ∀ x, foldedSetIterable iter env x = pure x := by intro _; rfl) :
    wpAny (model prog w) A (execs (.For (.Name x xp) iter body [] pos :: rest) env) Q E s := by
  refine wpAny_execs_cons (wpAny_For (hs := hs) (hit.use fun xv s₁ k₁ h1 => h1.here s₁ _ _ Sub.rfl' fun I fp St s₂ k₂ W st hI hStI hfp => ?_))
  have F₁ := F.kp k₁
  have F₂ := F₁.kp k₂
  obtain ⟨z0, hK0, hv0, hn0⟩ := init
  let b' := hideAll s₁.heap (hidden env mu)
  have hbb' : Sub b b' := F₁.hideSub hmu hcn
  have hb's : ∀ l o, s.heap.get? l = some o → l ∉ hidden env mu → b'.get? l = some o := fun l o ho hn => hideAll_get _ (k₁.sub _ _ ho) hn
  have G₁ : Fm b' env vars cvars mu s₀ s₁ := F₁.hide hmu fun p hp => hp
  have hIb : b'.get? I = none := by
    cases q : b'.get? I with
    | none => rfl
    | some o => have := of_hideAll _ q; rw [hI] at this; cases this
  have hIL : I ≠ env.locals := by
    rintro rfl
    obtain ⟨m, ⟨oL, _, _, hL, _⟩, _⟩ := F₁.ns
    rw [hI] at hL; cases hL
  have hIc : ∀ n c, env.cells.lookup n = some c → I ≠ c := fun n c hc q => by
    obtain ⟨⟨v, oc, hoc, _⟩, _⟩ := F₁.celOk n c hc
    rw [← q, hI] at hoc; cases hoc
  have hIs : ∀ l o, s.heap.get? l = some o → l ≠ I := fun l o ho q => by
    have := k₁.sub _ _ ho
    rw [q, hI] at this; cases this
  obtain ⟨oI, hoI⟩ := hStI _ _ st
  have G₂ : Fm b' env (vs 0 z0) cvars ((I, oI) :: nw 0 z0) s₀ s₂ := (G₁.join hI k₂ hoI).sub hv0 (fun _ h => h) fun p hp => by
    rcases List.mem_cons.mp hp with rfl | hp
    · exact List.mem_cons_self
    · exact List.mem_cons_of_mem _ (hn0 p hp)
  refine codeAny_forLoop (fun k s' => ∃ i z o, i ≤ n ∧ k = n - i ∧ K i z ∧ Fm b' env (vs i z) cvars ((I, o) :: nw i z) s₀ s' ∧ St i s'.heap ∧ ∀ p ∈ nw i z, p.1 ≠ I) ?_ n ⟨0, z0, oI, Nat.zero_le _, rfl, hK0, G₂, st, fun p hp => hIs _ _ (F.nw p (hmu p (hn0 p hp))).1⟩
  rintro k s' ⟨i, z, o, hin, rfl, hK, G, sti, hpI⟩
  have hfpk : ∀ {h h' : Heap} {X : List Addr}, Sub b' h → But X h h' → I ∉ X → (∀ a ∈ X, b'.get? a = none) → ∀ a ∈ fp, ∀ o, h.get? a = some o → h'.get? a = some o := fun {h h' X} hk hX hIX hXb a ha o ho => by
    rcases hfp a ha with rfl | ⟨hbad, o1, ho1⟩
    · exact hX _ _ hIX ho
    · exact hX _ _ (fun hm => by
        have := hXb a hm
        rw [show b'.get? a = some o1 from hideAll_get _ ho1 hbad] at this; cases this) ho
  have next : ∀ (h : Heap) (tk : Nat) (ps : List (Addr × Obj)), But [I] s'.heap h → (∀ p ∈ ps, h.get? p.1 = some p.2 ∧ b'.get? p.1 = none ∧ p.1 ≠ env.locals ∧ ∀ n c, env.cells.lookup n = some c → p.1 ≠ c) → Fm b' env (vs i z) cvars ps s₀ { s' with heap := h, toks := tk } := fun h tk ps hbut hps => by
    refine ⟨?_, fun a oa ea => hbut a oa (by simp only [List.mem_singleton]; rintro rfl; rw [hIb] at ea; cases ea) (G.keep _ _ ea), ?_, G.locNew, fun p hp => ?_, fun n c hc => ?_, G.apart, hps⟩
    · obtain ⟨h', t, rfl⟩ := G.same; exact ⟨_, _, rfl⟩
    · obtain ⟨m, ⟨oL, es, ep, hL, r⟩, he⟩ := G.ns
      exact ⟨m, ⟨oL, es, ep, hbut _ _ (by simp only [List.mem_singleton]; exact Ne.symm hIL) hL, r⟩, he⟩
    · obtain ⟨c, hc, oc, hoc, r⟩ := G.cel p hp
      exact ⟨c, hc, oc, hbut _ _ (by simp only [List.mem_singleton]; exact Ne.symm (hIc _ _ hc)) hoc, r⟩
    · obtain ⟨⟨v, oc, hoc, r⟩, e⟩ := G.celOk n c hc
      exact ⟨⟨v, oc, hbut _ _ (by simp only [List.mem_singleton]; exact Ne.symm (hIc _ _ hc)) hoc, r⟩, e⟩
  by_cases hlt : i < n
  · refine W.item i _ _ _ hlt sti fun v h tk hP stn hbut => ?_
    obtain ⟨oI', hoI'⟩ := hStI _ _ stn
    have G₃ : Fm b' env (vs i z) cvars ((I, oI') :: nw i z) s₀ { s' with heap := h, toks := tk } := next h tk _ hbut (fun p hp => by
      rcases List.mem_cons.mp hp with rfl | hp
      · exact ⟨hoI', hIb, hIL, hIc⟩
      · obtain ⟨a, r⟩ := G.nw p (List.mem_cons_of_mem _ hp)
        exact ⟨hbut _ _ (by simpa using hpI p hp) a, r⟩)
    refine wpAny_assign_Name (G₃.store e hl fun s₃ G₄ hb4 => ?_)
    refine wpAny_mono (turn b' i z v s₃ (I, oI') hbb' hb's hIs hpI hlt hK hP G₄) (fun fl s₄ h4 => ?_) hRE
    have fin : (∃ z', K (i + 1) z' ∧ Fm b' env (vs (i + 1) z') cvars ((I, oI') :: nw (i + 1) z') s₀ s₄ ∧ ∀ p ∈ nw (i + 1) z', p.1 ≠ I) → ∃ m, m < n - i ∧ ∃ i z o, i ≤ n ∧ m = n - i ∧ K i z ∧ Fm b' env (vs i z) cvars ((I, o) :: nw i z) s₀ s₄ ∧ St i s₄.heap ∧ ∀ p ∈ nw i z, p.1 ≠ I := by
      rintro ⟨z', hK', G₅, hp5⟩
      refine ⟨n - (i + 1), by omega, i + 1, z', oI', hlt, rfl, hK', G₅, ?_, hp5⟩
      refine W.frame _ _ _ stn fun a ha oa hoa => ?_
      rcases hfp a ha with rfl | ⟨hbad, o1, ho1⟩
      · rw [hoI'] at hoa; cases hoa
        exact (G₅.nw _ List.mem_cons_self).1
      · have hb1 : b'.get? a = some o1 := hideAll_get _ ho1 hbad
        have h3 := G₃.keep _ _ hb1
        rw [hoa] at h3; cases h3
        exact G₅.keep _ _ hb1
    cases fl with
    | ret u => exact h4
    | brk => exact h4.elim
    | next => exact fin h4
    | cont => exact fin h4
  · have : i = n := Nat.le_antisymm hin (Nat.not_lt.mp hlt)
    subst this
    refine W.done _ _ _ sti fun h tk hbut => wpAny_execs_nil (done z _ hK ?_)
    have H := next h tk (nw i z) hbut fun p hp => by
      obtain ⟨a, r⟩ := G.nw p (List.mem_cons_of_mem _ hp)
      exact ⟨hbut _ _ (by simpa using hpI p hp) a, r⟩
    have H' := H.base hbb'
    refine { H' with nw := fun p hp => ?_ }
    rcases List.mem_append.mp hp with hp | hp
    · exact H'.nw p hp
    · obtain ⟨hp1, hp2⟩ := hkp p hp
      obtain ⟨a, r1, r2, r3⟩ := F.nw p hp1
      refine ⟨H.keep _ _ (hb's _ _ a fun hm => ?_), r1, r2, r3⟩
      rcases List.mem_cons.mp hm with q | hm
      · exact r2 q
      rcases List.mem_append.mp hm with hm | hm
      · obtain ⟨⟨n, c⟩, hc, hq⟩ := List.mem_map.mp hm
        exact r3 n c (hcn _ _ hc) hq.symm
      · exact hp2 hm

theorem x_forR {σ : Type} {x : Str} {xp pos : Pos} {iter : Expr} {body : List Stmt} {n : Nat} {P : Nat → Value → Prop} (K : Nat → σ → Prop) (vs : Nat → σ → List (Str × Value)) (nw : Nat → σ → List (Addr × Obj)) (mu kp : List (Addr × Obj)) (RE : Value → Shared → Prop) (hRE : ∀ e s', RE e s' → notedBy (model prog w) A env (cameBackBy (model prog w) A env E) e s')
    (F : Fm b env vars cvars news s₀ s) (e : EnvOk env names) (hl : names.lookup x = some .local) (hcn : CellsOne env)
    (hit : Ev prog w A (eval iter env) s.heap (fun xv h => Itr prog w A xv h (hidden env mu) n P))
    (hmu : ∀ p ∈ mu, p ∈ news) (hkp : ∀ p ∈ kp, p ∈ news ∧ p.1 ∉ mu.map (·.1))
    (init : ∃ z, K 0 z ∧ (∀ p ∈ vs 0 z, p ∈ vars) ∧ ∀ p ∈ nw 0 z, p ∈ mu)
    (turn : ∀ b' i z v s' io, Sub b b' → (∀ l o, s.heap.get? l = some o → l ∉ hidden env mu → b'.get? l = some o) → (∀ l o, s.heap.get? l = some o → l ≠ io.1) → i < n → K i z → P i v →
      Fm b' env ((x, v) :: dropN x (vs i z)) cvars (io :: nw i z) s₀ s' →
      wpAny (model prog w) A (execs body env) (fun fl s'' => match fl with
        | .ret u => Q (.ret u) s''
        | .brk => False
        | _ => ∃ z', K (i + 1) z' ∧ Fm b' env (vs (i + 1) z') cvars (io :: nw (i + 1) z') s₀ s'' ∧ ∀ p ∈ nw (i + 1) z', p.1 ≠ io.1) RE s')
    (done : ∀ z s', K n z → Fm b env (vs n z) cvars (nw n z ++ kp) s₀ s' → wpAny (model prog w) A (execs rest env) Q E s')
    (hs : ∀ x, foldedSetIterable iter env x = pure x := by intro _; rfl) :
    wpAny (model prog w) A (execs (.For (.Name x xp) iter body [] pos :: rest) env) Q E s :=
  x_forP K vs nw mu kp RE hRE F e hl hcn hit hmu hkp init (fun b' i z v s' io h1 h2 h3 _ => turn b' i z v s' io h1 h2 h3) done hs

theorem x_for {σ : Type} {x : Str} {xp pos : Pos} {iter : Expr} {body : List Stmt} {n : Nat} {P : Nat → Value → Prop} (K : Nat → σ → Prop) (vs : Nat → σ → List (Str × Value)) (nw : Nat → σ → List (Addr × Obj)) (mu kp : List (Addr × Obj))
    (F : Fm b env vars cvars news s₀ s) (e : EnvOk env names) (hl : names.lookup x = some .local) (hcn : CellsOne env)
    (hit : Ev prog w A (eval iter env) s.heap (fun xv h => Itr prog w A xv h (hidden env mu) n P))
    (hmu : ∀ p ∈ mu, p ∈ news) (hkp : ∀ p ∈ kp, p ∈ news ∧ p.1 ∉ mu.map (·.1))
    (init : ∃ z, K 0 z ∧ (∀ p ∈ vs 0 z, p ∈ vars) ∧ ∀ p ∈ nw 0 z, p ∈ mu)
    (turn : ∀ b' i z v s' io, Sub b b' → (∀ l o, s.heap.get? l = some o → l ∉ hidden env mu → b'.get? l = some o) → (∀ l o, s.heap.get? l = some o → l ≠ io.1) → i < n → K i z → P i v →
      Fm b' env ((x, v) :: dropN x (vs i z)) cvars (io :: nw i z) s₀ s' →
      wpAny (model prog w) A (execs body env) (fun fl s'' => match fl with
        | .ret u => Q (.ret u) s''
        | .brk => False
        | _ => ∃ z', K (i + 1) z' ∧ Fm b' env (vs (i + 1) z') cvars (io :: nw (i + 1) z') s₀ s'' ∧ ∀ p ∈ nw (i + 1) z', p.1 ≠ io.1) (fun _ _ => False) s')
    (done : ∀ z s', K n z → Fm b env (vs n z) cvars (nw n z ++ kp) s₀ s' → wpAny (model prog w) A (execs rest env) Q E s')
    (hs : ∀ x, foldedSetIterable iter env x = pure x := by intro _; rfl) :
    wpAny (model prog w) A (execs (.For (.Name x xp) iter body [] pos :: rest) env) Q E s :=
  x_forR K vs nw mu kp (fun _ _ => False) (fun _ _ h => h.elim) F e hl hcn hit hmu hkp init turn done hs
end
end Mine

-- X1
namespace Mine
set_option linter.unusedVariables false
open PySem PySem.W PySem.Calls PyProof.Rows
open Builtin Builtin.ObjectAttr

noncomputable abbrev KK (w : World) : Frag := hd.heap_39 w.params
def bmE : List Value := [.ref 31, .type "Exception", .type "BaseException", .type "object"]

section
variable {prog : Program} {w : World} {A : Around} {E : Value → Shared → Prop} {h : Heap} {g : Array GenState} {d : Drawn} {t : Nat} {os : OsState} {x : Addr}

theorem die_osa {name : Str} {v : Value} {tk : Tok} {mA : Str → Option Value} {ns : List Str} {R : Result → Shared → Prop} (X : (KK w).In h) (hna : findIn (KK w) (.ref 51) name = some none) (I : h.Inst x 51 mA) (hw : Within mA ns) (hsz : ns.length ≤ 1000)
    (hq : ∀ h' tk', h'.Inst x 51 (fun y => if y = name then some v else mA y) →
      (∀ b o, b ≠ x → (∀ o₀ dx, h.get? x = some o₀ → o₀.dict = some dx → b ≠ dx) → h.get? b = some o → h'.get? b = some o) →
      (∀ o₀, h.get? x = some o₀ → ∃ o₁, h'.get? x = some o₁ ∧ o₁.cls = o₀.cls ∧ o₁.data = o₀.data ∧ (∀ dx, o₁.dict = some dx → o₀.dict = some dx ∨ h.get? dx = none)) → R (.ok (.ret .none)) ⟨h', g, d, tk', os⟩) :
    codeAny (model prog w) A (.call (.builtin "object.__setattr__") ⟨[.ref x, .str name tk, v], []⟩) R ⟨h, g, d, t, os⟩ := by
  have SF := PySem.F.store_Exception
  obtain ⟨o, hx, hc, hnc, hd⟩ := I
  have hT : Looks (model prog w) h (typeOf (.ref x)) (.ref 51) := (Looks.ld hx).andThen (by rw [hc]; exact .now)
  have hm : Looks (model prog w) h (mroOf (.ref 51)) (.ref 51 :: bmE) := (looks_clsIn (M := model prog w) (C := 51) X rfl).andThen .now
  have sub : Looks (model prog w) h (isInstance (.ref x) (.type "object")) true := hT.andThen (looks_mroIn X (by kernel_rfl))
  refine codeAny_call_builtin SF.slot.plain SF.entry (@check_slot (model prog w) _ _ ⟨h, g, d, t, os⟩ "object.__setattr__" "object" "__setattr__" (.ref x) [.str name tk, v] [] _ SF.kind SF.split sub (SF.args (.ref x) (.str name tk) v) ?_)
  rw [osa_eq, refuse_eq]
  refine wpAny_bind (wpAny_bind (hT.at (wpAny_bind (hm.at ?_))))
  rw [bmE, refuseLoop_ref, refuseLoop_ref, SF.passes]
  refine wpAny_pure (wpAny_bind (hT.at (wpAny_bind ((looks_findIn X hna).at (wpAny_bind ?_)))))
  unfold storeTaker?
  refine wpAny_pure ?_
  unfold storeInOwnDict ownStreamTells
  refine wpAny_bind (wpAny_pure ?_)
  rw [if_neg (by decide)]
  refine wpAny_bind (show wpAny _ _ (instanceDict x true) _ _ _ from ?_)
  unfold instanceDict
  refine wpAny_bind (wpAny_loadPart hx ?_)
  rw [hc]
  refine wpAny_bind ((looks_clsIn (M := model prog w) (C := 51) X rfl).at ?_)
  rw [if_neg (by decide)]
  have fin : ∀ (h1 : Heap) (dx : Addr) (tk1 : Nat), h1.Ns1 dx mA → dx ≠ x → (∃ o1, h1.get? x = some o1 ∧ o1.cls = .ref 51 ∧ o1.data = o.data ∧ o1.dict = some dx ∧ (o.dict = some dx ∨ h.get? dx = none)) →
      (∀ b o', b ≠ x → b ≠ dx → h.get? b = some o' → h1.get? b = some o') → wpAny (model prog w) A.in1 (storeInDict dx (.str name tk) name v)
        (fun fin s' => match fin with | .done f => R (.ok f) s' | .again c' => c'.quiet = true ∧ codeAny (model prog w) A c' R s') (fun e s' => R (.error e) s') ⟨h1, g, d, tk1, os⟩ := by
    intro h1 dx tk1 hns hne ⟨o1, ho1, hc1, hd1, hdx, hold⟩ hk
    unfold storeInDict newKeyGuard
    refine wpAny_bind (wpAny_pure (wpAny_bind (wpAny_nsSet1 hns fun h' hn' hs => ?_)))
    obtain ⟨oD, esD, epD, hoD, hdD, hcD⟩ := hn'.count (Within.cons name v hw)
    refine wpAny_bind (wpAny_lookBehind hoD (by rw [hdD]; exact pastItsLine_dict (Nat.le_trans hcD (by rw [List.length_cons, sizeLine_eq]; omega))) ?_)
    refine wpAny_pure (hq h' _ ⟨o1, (hs.2 x hne.symm).trans ho1, hc1, by rw [hd1]; exact hnc, .inr ⟨dx, hdx, hne, hn'⟩⟩ ?_ ?_)
    · intro b ob hbx hbd hb
      by_cases q : b = dx
      · rcases hold with e | e
        · exact absurd q (hbd o dx hx e)
        · rw [q, e] at hb; cases hb
      · exact (hs.2 b q).trans (hk b ob hbx q hb)
    · intro o₀ ho₀
      rw [hx] at ho₀; cases ho₀
      exact ⟨o1, (hs.2 x hne.symm).trans ho1, by rw [hc1, hc], hd1, fun dx' e => by rw [hdx] at e; cases e; exact hold⟩
  rcases hd with ⟨hdn, hmA⟩ | ⟨dx, hdx, hne, hns⟩
  · rw [hdn]
    dsimp only
    rw [if_neg (by simp [typeHasDict])]
    have hxs : x ≠ h.objs.size := Nat.ne_of_lt (Heap.lt_size hx)
    have hx₁ : (h.push { cls := .type "dict", data := .dict #[] }).get? x = some o := Heap.get?_push_of_some _ hx
    split
    · rename_i cc hcd
      exact absurd hcd (hnc cc)
    refine wpAny_bind (wpAny_alloc' (wpAny_bind (wpAny_update' hx₁ (wpAny_pure ?_))))
    have hgd : ((h.push { cls := .type "dict", data := .dict #[] }).update x fun o => { cls := o.cls, dict := some h.objs.size, data := o.data, slots := o.slots }).get? h.objs.size
        = some { cls := .type "dict", data := .dict #[] } := (Heap.get?_update_ne _ _ _ _ hxs.symm).trans (Heap.get?_push_at rfl rfl)
    have hnd : ((h.push { cls := .type "dict", data := .dict #[] }).update x fun o => { cls := o.cls, dict := some h.objs.size, data := o.data, slots := o.slots }).Ns h.objs.size (fun _ => none) :=
      ⟨_, #[], _, hgd, rfl, fun e he => absurd he (by simp), fun _ => rfl⟩
    have emA : mA = fun _ => none := funext hmA
    refine fin _ h.objs.size _ (by rw [emA]; exact Heap.Ns1.of_empty hnd) hxs.symm ⟨{ cls := o.cls, dict := some h.objs.size, data := o.data, slots := o.slots }, ?_, hc, rfl, rfl, .inr get_size⟩ fun b o' hbx hbd hb => ?_
    · refine Heap.get?_update_self _ hx₁ ?_
      have hfr := (Heap.get?_some_iff.mp hx).2
      obtain ⟨oc, od, odt, osl⟩ := o
      cases odt <;> first | rfl | exact hfr
    · exact (Heap.get?_update_ne _ _ _ _ hbx).trans (Heap.get?_push_of_some _ hb)
  · rw [hdx]
    refine wpAny_pure ?_
    exact fin h dx _ hns hne ⟨o, hx, hc, rfl, hdx, .inl hdx⟩ fun b o' _ _ e => e

/-- self.name = v on a Die -/
theorem die_set {name : Str} {v : Value} {mA : Str → Option Value} {ns : List Str} {s : Shared} {Q : Unit → Shared → Prop} (X : (KK w).In s.heap) (hna : findIn (KK w) (.ref 51) name = some none) (I : s.heap.Inst x 51 mA) (hw : Within mA ns) (hsz : ns.length ≤ 1000)
    (hq : ∀ h' tk', h'.Inst x 51 (fun y => if y = name then some v else mA y) →
      (∀ b o, b ≠ x → (∀ o₀ dx, s.heap.get? x = some o₀ → o₀.dict = some dx → b ≠ dx) → s.heap.get? b = some o → h'.get? b = some o) →
      (∀ o₀, s.heap.get? x = some o₀ → ∃ o₁, h'.get? x = some o₁ ∧ o₁.cls = o₀.cls ∧ o₁.data = o₀.data ∧ (∀ dx, o₁.dict = some dx → o₀.dict = some dx ∨ s.heap.get? dx = none)) → Q () { s with heap := h', toks := tk' }) :
    wpAny (model prog w) A (setAttr (.ref x) name v) Q E s := by
  have I' := I
  obtain ⟨o, hx, hc, hnc, hd⟩ := I
  have hT : Looks (model prog w) s.heap (typeOf (.ref x)) (.ref 51) := (Looks.ld hx).andThen (by rw [hc]; exact .now)
  refine wpAny_bind (wpAny_mkText (wpAny_bind (wpAny_bind (wpAny_bind (hT _ _ _ _ (fun _ _ e => e) (looks_findIn X (show findIn (KK w) (.ref 51) "__setattr__" = some (some (.builtin "object.__setattr__")) by kernel_rfl) _ _ _ _ (fun _ _ e => e) (wpAny_holding ?_)))))))
  rw [PySem.F.store_Exception.slot.bind]
  refine wpAny_bind (wpAny_pure (wpAny_bind (wpAny_call ?_)))
  exact die_osa X hna I' hw hsz fun h' tk' i k c => wpAny_pure (wpAny_pure (hq h' tk' i k c))
end
end Mine

-- X2
namespace Mine
set_option linter.unusedVariables false
open PySem PySem.W PySem.Calls PyProof.Rows

abbrev excObj (t0 : Addr) : Obj := { cls := .ref 51, data := .fields #[.ref t0, .none, .none, .none, .bool false, .none] }

section
variable {prog : Program} {w : World} {A : Around} {E : Value → Shared → Prop} {h : Heap} {g : Array GenState} {d : Drawn} {t : Nat} {os : OsState} {e t0 : Addr}

theorem die_check_init {M : Model} {rest : List Value} {Q : Unit → Shared → Prop} (X : (KK w).In h) (he : h.get? e = some (excObj t0)) (hq : Q () ⟨h, g, d, t, os⟩) :
    wpAny M A (checkBuiltinCall "Exception.__init__" ⟨.ref e :: rest, []⟩) Q E ⟨h, g, d, t, os⟩ := by
  have F := PySem.F.excBase_Exception
  have hsub : Looks M h (isSubtype (.ref 51) (.type "Exception")) true := looks_mroIn X (by kernel_rfl)
  have hT : Looks M h (typeOf (.ref e)) (.ref 51) := (Looks.ld he).andThen .now
  have hshort := F.noStar
  have hC := X 51 _ rfl
  simp only [checkBuiltinCall, F.initKind, F.initSplit, F.initRow]
  repeat (first | (with_reducible refine wpAny_loadPart_at he ?_) | with_reducible refine hsub.at ?_ | with_reducible refine wpAny_load hC ?_ | with_reducible refine wpAny_loadPart_at hC ?_ | wp_step)
  refine wpAny_onRaise ?_
  rw [show ∀ (a b : String) (n : Nat), Bind.check ⟨.positional, "*", "Exception", .self, [⟨"args", .varPos, false⟩]⟩ a b n (List.map (fun x => x.fst) ({ pos := Value.ref e :: rest } : Args).kw) = pure () from
    fun a b n => check_star_args _ _ _ _ _ _]
  exact wpAny_pure hq

theorem die_bi {v : Value} {Q : Value → Shared → Prop} (X : (KK w).In h) (he : h.get? e = some (excObj t0))
    (hq : ∀ h', (∀ b o, b ≠ e → h.get? b = some o → h'.get? b = some o) → h'.get? e = some (excObj h.objs.size) → Q .none ⟨h', g, d, t, os⟩) :
    wpAny (model prog w) A (call (.builtin "Exception.__init__") [.ref e, v]) Q E ⟨h, g, d, t, os⟩ := by
  have F := PySem.F.excBase_Exception
  refine wpAny_call (codeAny_call_builtin F.init.plain F.initEntry (die_check_init X he ?_))
  wp_walk
  have hp : (h.push { cls := .type "tuple", data := .seq #[v] }).get? e = some (excObj t0) := Heap.get?_push_of_some _ he
  have hte : h.objs.size ≠ e := Nat.ne_of_gt (Heap.lt_size he)
  refine hq _ (fun b o hb ho => (Heap.get?_update_ne _ _ _ _ hb).trans (Heap.get?_push_of_some _ ho)) ?_
  rw [Heap.get?_update_self _ hp rfl]
  rfl
end
end Mine

-- X3
namespace Mine
set_option linter.unusedVariables false
open PySem PySem.W PySem.Calls PyProof.Rows

structure Own (b : Heap) (env : Env) (l : Addr) : Prop where
  nb : b.get? l = none
  nl : l ≠ env.locals
  nc : ∀ n c, env.cells.lookup n = some c → l ≠ c

section
variable {b : Heap} {env : Env} {vars cvars : List (Str × Value)} {news news' : List (Addr × Obj)} {s₀ s s' : Shared} {names : List (Str × NameKind)} {l : Addr} {o : Obj}
theorem Fm.fresh (F : Fm b env vars cvars news s₀ s) (hf : s.heap.get? l = none) : Own b env l where
  nb := F.keep.none hf
  nl := by
    rintro rfl
    obtain ⟨m, ⟨oL, _, _, hL, _⟩, _⟩ := F.ns
    rw [hf] at hL; cases hL
  nc := fun n c hc q => by
    obtain ⟨⟨v, oc, hoc, _⟩, _⟩ := F.celOk n c hc
    rw [← q, hf] at hoc; cases hoc
theorem Fm.own (F : Fm b env vars cvars news s₀ s) (h : (l, o) ∈ news) : Own b env l := let ⟨_, a, c, d⟩ := F.nw _ h; ⟨a, c, d⟩
theorem Fm.chg {X : List Addr} {h' : Heap} {tk : Nat} (F : Fm b env vars cvars news s₀ s) (hX : ∀ a ∈ X, Own b env a) (k : But X s.heap h') (hn : ∀ p ∈ news', h'.get? p.1 = some p.2 ∧ Own b env p.1) :
    Fm b env vars cvars news' s₀ { s with heap := h', toks := tk } where
  same := by obtain ⟨h, t, rfl⟩ := F.same; exact ⟨_, _, rfl⟩
  keep := fun a o e => k a o (fun hm => by rw [(hX a hm).nb] at e; cases e) (F.keep _ _ e)
  ns := let ⟨m, ⟨oL, es, ep, hL, r⟩, e⟩ := F.ns; ⟨m, ⟨oL, es, ep, k _ _ (fun hm => (hX _ hm).nl rfl) hL, r⟩, e⟩
  locNew := F.locNew
  cel := fun p hp => let ⟨c, hc, oc, hoc, r⟩ := F.cel p hp; ⟨c, hc, oc, k _ _ (fun hm => (hX _ hm).nc _ _ hc rfl) hoc, r⟩
  celOk := fun n c hc => let ⟨⟨v, oc, hoc, r⟩, e⟩ := F.celOk n c hc; ⟨⟨v, oc, k _ _ (fun hm => (hX _ hm).nc _ _ hc rfl) hoc, r⟩, e⟩
  apart := F.apart
  nw := fun p hp => let ⟨a, w⟩ := hn p hp; ⟨a, w.nb, w.nl, w.nc⟩
theorem Fm.expose {e : Addr} (F : Fm s₀.heap env vars cvars [] s₀ s) (he : s₀.heap.get? e = some o) : Fm (hideAll s₀.heap [e]) env vars cvars [(e, o)] s₀ s := by
  have k : Sub (hideAll s₀.heap [e]) s₀.heap := fun a o h => of_hideAll _ h
  refine { F.base k with nw := fun p hp => ?_ }
  obtain rfl := List.mem_singleton.mp hp
  exact ⟨F.keep _ _ he, hideAll_none _ List.mem_cons_self, (fun q => by have := F.locNew; rw [← q, he] at this; cases this), fun n c hc q => by have := (F.celOk n c hc).2.1; rw [← q, he] at this; cases this⟩
end

theorem EnvOk.quiet {env : Env} {names : List (Str × NameKind)} (h : EnvOk env names) : interactive env = false := by
  unfold interactive; rw [h.kind]; rfl

section
variable {prog : Program} {w : World} {A : Around} {E : Value → Shared → Prop} {s : Shared}
theorem call_d {K : Frag} {Q : Value → Shared → Prop} {f : Addr} {oc : Value} {od : Option Addr} {fd : FuncData} {osl : Array (Option Value)} {body : List Stmt} {vs : List Value} {names : List (Str × NameKind)} (binds vars cvars : List (Str × Value))
    (X : K.In s.heap) (hlim : s.heap.NoLimit) (hroom : A.depth < recursionLimit) (ho : K.lookup f = some ⟨oc, od, .func fd, osl⟩) (hcd : codeIn K fd.code fd.qualname = true) (hbody : fd.body = .stmts body)
    (hcl : fd.closure = []) (hgl : fd.globals = mainGlobals) (hbl : fd.builtins = builtinsNs)
    (hnames : fd.scope.names = names) (hbind : bindArgs fd ⟨vs, []⟩ = pure binds) (hdist : decide ((binds.map (·.1)).Nodup) = true)
    (hk1 : (vars.all fun p => decide (names.lookup p.1 = some .local)) = true) (hk2 : (cvars.all fun p => decide (names.lookup p.1 = some .cell)) = true) (hk3 : (binds.all fun p => decide (names.lookup p.1 = some .local ∨ names.lookup p.1 = some .cell)) = true)
    (hco : fd.scope.isCoroutine = false) (hgen : fd.scope.isGenerator = false) (hk : fd.scope.kind = .function)
    (hv : ∀ p ∈ vars, p ∈ binds) (hc : ∀ p ∈ cvars, p ∈ binds)
    (h : ∀ env s', EnvOk env names → FrOk env names → Fm s.heap env vars cvars [] s s' →
      wpAny (model prog w) (A.deeper env) (execs body env) (fun fl s' => Q (retV fl) s')
        (fun e s' => wpAny (model prog w) (A.deeper env) (leaving env e) (fun _ s'' => E e s'') (fun e' s'' => E e' s'') s') s') :
    wpAny (model prog w) A (call (.ref f) vs) Q E s :=
  wpAny_call (call_in X hlim ho hcd hroom hbody hcl hgl hbl hnames (BindsTo.of_eq hbind) (of_decide_eq_true hdist)
    (fun p hp => ⟨hv p hp, of_decide_eq_true (all_mem hk1 p hp)⟩) (fun p hp => ⟨hc p hp, of_decide_eq_true (all_mem hk2 p hp)⟩) (fun p hp => of_decide_eq_true (all_mem hk3 p hp))
    (fun env s' hE hF F => wpAny_mono (h env s' hE hF F) (fun fl s'' hq => hq) fun _ _ x => x) hco hgen hk)

theorem meth_exc {pl : Sem Bool} {Q : Value × List Value → Shared → Prop} (W : WW w s.heap) (h : Q (.builtin "Exception.__init__", []) { s with toks := s.toks + 1 }) :
    wpAny (model prog w) A (getMethod (.type "Exception") "__init__" pl) Q E s := by
  obtain ⟨mg, G⟩ := W.g
  refine method_type (K := []) (h₀ := {}) (L := mainGlobals) (m := mg) ⟨G, fun b o e => ?_, Nat.zero_le _⟩ (fun a o e => by cases e) rfl rfl (show findCls [] (.type "Exception") (.type "type") "__init__" = some (.val (.builtin "Exception.__init__")) by kernel_rfl) rfl h
  have : (({} : Heap).get? b) = none := Heap.get?_none_of_le (Nat.zero_le _)
  rw [this] at e; cases e
theorem meth_perl {pl : Sem Bool} {Q : Value × List Value → Shared → Prop} (W : WW w s.heap) (h : Q (.ref 28, []) { s with toks := s.toks + 1 }) :
    wpAny (model prog w) A (getMethod (.ref 31) "__init__" pl) Q E s :=
  method_cls W.K (show specialIn (KK w) (.ref 31) "__getattribute__" = some (some (.builtin "type.__getattribute__")) by kernel_rfl)
    (cls_value W.K (show readsIn (KK w) 31 (.type "type") = true by kernel_rfl) (show findCls (KK w) (.ref 31) (.type "type") "__init__" = some (.val (.ref 28)) by kernel_rfl) rfl h)

/-- e is a Die with these attributes -/
structure DieAt (b : Heap) (h : Heap) (e : Addr) (mA : Str → Option Value) : Prop where
  inst : h.Inst e 51 mA
  there : ∃ t d sl, h.get? e = some { cls := .ref 51, dict := d, data := .fields #[.ref t, .none, .none, .none, .bool false, .none], slots := sl } ∧ ∀ dx, d = some dx → b.get? dx = none
theorem DieAt.up {b h h' : Heap} {e : Addr} {mA : Str → Option Value} (x : DieAt b h e mA) (k : Sub h h') : DieAt b h' e mA :=
  ⟨let ⟨o, a, c, d, r⟩ := x.inst; ⟨o, k _ _ a, c, d, r.imp id fun ⟨dx, p, q, n⟩ => ⟨dx, p, q, n.at fun o e => k _ _ e⟩⟩, let ⟨t, d, sl, a, c⟩ := x.there; ⟨t, d, sl, k _ _ a, c⟩⟩
theorem DieAt.base {b b' h : Heap} {e : Addr} {mA : Str → Option Value} (x : DieAt b' h e mA) (k : Sub b b') : DieAt b h e mA := ⟨x.inst, let ⟨t, d, sl, a, c⟩ := x.there; ⟨t, d, sl, a, fun dx q => k.none (c dx q)⟩⟩


theorem set_die {b : Heap} {env : Env} {vars : List (Str × Value)} {o : Obj} {s₀ : Shared} {e : Addr} {name : Str} {v : Value} {mA : Str → Option Value} {ns : List Str} {Q : Unit → Shared → Prop} (F : Fm b env vars [] [(e, o)] s₀ s) (W : WW w s.heap)
    (D : DieAt b s.heap e mA) (hna : findIn (KK w) (.ref 51) name = some none) (hd : ∀ dx, (∃ o, s.heap.get? e = some o ∧ o.dict = some dx) → Own b env dx) (hw : Within mA ns) (hsz : ns.length ≤ 1000)
    (k : ∀ s', Fm b env vars [] [] s₀ s' → DieAt b s'.heap e (fun y => if y = name then some v else mA y) → (∃ X, (∀ a ∈ X, a = e ∨ Own b env a) ∧ But X s.heap s'.heap) → Q () s') : wpAny (model prog w) A (setAttr (.ref e) name v) Q E s := by
  obtain ⟨I, t0, d, sl, he, hdd⟩ := D
  have hOe : Own b env e := F.own List.mem_cons_self
  refine die_set W.K hna I hw hsz fun h' tk' I' kb kc => ?_
  have hbut : But (e :: d.toList) s.heap h' := fun a oa ha hoa => kb a oa (fun q => ha (by rw [q]; exact List.mem_cons_self)) (fun o₀ dx h0 hdx q => ha (by
    rw [he] at h0; cases h0
    rw [q, show d = some dx from hdx]; exact List.mem_cons_of_mem _ (by simp))) hoa
  obtain ⟨o₁, ho₁, hc₁, hd₁, hdx₁⟩ := kc _ he
  have hX : ∀ a ∈ e :: d.toList, Own b env a := fun a ha => by
    rcases List.mem_cons.mp ha with rfl | ha
    · exact hOe
    · exact hd a ⟨_, he, by simpa using ha⟩
  refine k _ (F.chg hX hbut fun p hp => nomatch hp) ⟨I', t0, o₁.dict, o₁.slots, ?_, fun dx q => ?_⟩ ⟨_, fun a ha => .inr (hX a ha), hbut⟩
  · rw [ho₁]
    obtain ⟨c, dd, dt, sl⟩ := o₁
    simp only at hc₁ hd₁ ⊢
    rw [hc₁, hd₁]
  · rcases hdx₁ dx q with q | q
    · exact (hd dx ⟨_, he, q⟩).nb
    · exact F.keep.none q
end
end Mine

-- X4
namespace Mine
set_option linter.unusedVariables false
open PySem PySem.W PySem.Calls PyProof.Rows

abbrev prg : Program := PySem.Challenge.rw_nz0176_01.prog
local macro_rules | `(tactic| walk_at "mem") => `(tactic| first | (with_reducible exact List.mem_cons_self) | ((with_reducible refine List.mem_cons_of_mem _ ?_); walk_at "mem") | ((refine mem_dropP ?_ (by decide)); walk_at "mem"))
local macro_rules | `(tactic| walk_at "has") => `(tactic| first | (with_reducible assumption) | (refine Fm.has (by assumption) (by assumption) (by walk_at "mem") (by rfl)) | (refine Fm.hasC (by assumption) (by assumption) (by walk_at "mem") (by rfl)))

section
variable {w : World} {A : Around} {E : Value → Shared → Prop} {s : Shared}

theorem hide1 {h₀ h : Heap} {e : Addr} (k : Sub h₀ h) (hen : h₀.get? e = none) : Sub h₀ (hideAll h [e]) := fun a o q =>
  hideAll_get _ (k _ _ q) fun hm => by rw [List.mem_singleton.mp hm, hen] at q; cases q
theorem unhide1 {h : Heap} {e dx : Addr} (n : (hideAll h [e]).get? dx = none) (hne : dx ≠ e) : h.get? dx = none := by
  cases q : h.get? dx with
  | none => rfl
  | some o => rw [hideAll_get [e] q (by simpa using hne)] at n; cases n
theorem DieAt.unhide {h h' : Heap} {e : Addr} {mA : Str → Option Value} (x : DieAt (hideAll h [e]) h' e mA) : DieAt h h' e mA := by
  obtain ⟨I, t, d, sl, a, c⟩ := x
  refine ⟨I, t, d, sl, a, fun dx q => unhide1 (c dx q) ?_⟩
  obtain ⟨o, ho, _, _, hd⟩ := I
  rw [a] at ho; cases ho
  rcases hd with ⟨hn, _⟩ | ⟨d', hd', hne, _⟩
  · rw [show d = none from hn] at q; cases q
  · rw [show d = some d' from hd'] at q; cases q; exact hne
theorem but_of_hide {h h' : Heap} {e : Addr} (k : Sub (hideAll h [e]) h') : But [e] h h' := fun a o ha ho => k _ _ (hideAll_get _ ho ha)

theorem perl_init {h₀ : Heap} {e t0 : Addr} {v : Value} {Q : Value → Shared → Prop} (W : WW w h₀) (hs : Sub h₀ s.heap) (hen : h₀.get? e = none) (hroom : A.depth < recursionLimit) (he : s.heap.get? e = some (excObj t0))
    (k : ∀ s', (∃ h tk, s' = { s with heap := h, toks := tk }) → But [e] s.heap s'.heap → DieAt s.heap s'.heap e (fun y => if y = "text" then some v else none) → Q .none s') :
    wpAny (model prg w) A (call (.ref 28) [.ref e, v]) Q E s := by
  refine call_d [(Str.ofString "self", .ref e), (Str.ofString "text", v)] [(Str.ofString "self", .ref e), (Str.ofString "text", v)] [] (W.up hs).K (W.up hs).lim hroom rfl rfl rfl rfl rfl rfl rfl rfl rfl rfl rfl rfl rfl rfl rfl (fun _ h => h) (fun _ h => (nomatch h)) ?_
  intro env s₁ hE hF F0
  have F := F0.expose he
  have W₁ := (W.up (hide1 hs hen)).up F.keep
  have hself := F.has hE (x := Str.ofString "self") (v := .ref e) (by walk_at "mem") rfl
  have htext := F.has hE (x := Str.ofString "text") (v := v) (by walk_at "mem") rfl
  refine wpAny_execs_cons (wpAny_Expr (hi := hE.quiet) ?_)
  refine methodCall_KW (wpAny_Name ((Has.built W₁ hE (by rfl) (by rfl) (show bootBuiltins (Str.ofString "Exception") = some (.type "Exception") by rfl) (by decide)) _ _ _ s₁ _ Sub.rfl' ?_))
  refine meth_exc W₁ ?_
  dsimp only
  refine PyProof.Rows.callWith_builtin1 (Ev.use' (h₀ := s₁.heap) (Ev.args (Ev.name hself) (Ev.args (Ev.name htext) Ev.args0)) Sub.rfl' fun vs s₂ k₂ hb => ?_)
  obtain ⟨v1, _, rfl, h1, v2, _, rfl, h2, rfl⟩ := hb.here
  rw [show v1 = .ref e from h1, show v2 = v from h2]
  have F₂ := F.kp (⟨⟨s₁.heap, s₁.toks + 1, rfl⟩, Sub.rfl'⟩ : Kp s₁ { s₁ with toks := s₁.toks + 1 }) |>.kp k₂
  have W₂ := W₁.up k₂.sub
  refine die_bi W₂.K (F₂.get List.mem_cons_self) fun h' hk ho => ?_
  dsimp only
  have F₃ := F₂.chg (X := [e]) (tk := s₂.toks) (h' := h') (news' := [(e, excObj s₂.heap.objs.size)]) (fun a ha => by rw [List.mem_singleton.mp ha]; exact F₂.own List.mem_cons_self) (fun a o ha ho => hk a o (by simpa using ha) ho)
    (fun p hp => by rw [List.mem_singleton.mp hp]; exact ⟨ho, F₂.own List.mem_cons_self⟩)
  have W₃ := (W.up (hide1 hs hen)).up F₃.keep
  have hself₃ : Has env h' (Str.ofString "self") _ := F₃.has hE List.mem_cons_self rfl
  have htext₃ : Has env h' (Str.ofString "text") _ := F₃.has hE (List.mem_cons_of_mem _ List.mem_cons_self) rfl
  refine wpAny_execs_cons (plainObj_wpAny_Assign_Attribute ?_)
  refine Ev.use' (h₀ := h') (Ev.name htext₃) Sub.rfl' fun v' s₄ k₄ hb₄ => ?_
  have : v = v' := Eq.symm hb₄.here
  subst this
  refine Ev.use' (h₀ := h') (Ev.name hself₃) k₄.sub fun v₅ s₅ k₅ hb₅ => ?_
  have : v₅ = .ref e := hb₅.here
  subst this
  have F₅ := (F₃.kp k₄).kp k₅
  have he5 := F₅.get (List.mem_cons_self (l := []))
  refine set_die F₅ (W₃.up (k₄.sub.tr k₅.sub)) ⟨⟨_, he5, rfl, fun c => by simp, .inl ⟨rfl, fun _ => rfl⟩⟩, _, _, _, he5, fun dx q => nomatch q⟩ (by kernel_rfl) (fun dx ⟨o, ho, hd⟩ => by rw [he5] at ho; cases ho; cases hd) Within.nil (by decide) fun s₆ F₆ D _ => ?_
  exact wpAny_execs_nil (k s₆ F₆.same (but_of_hide F₆.keep) D.unhide)

theorem die_init {h₀ : Heap} {e t0 : Addr} {v : Value} {Q : Value → Shared → Prop} (W : WW w h₀) (hs : Sub h₀ s.heap) (hen : h₀.get? e = none) (hroom : A.depth + 1 < recursionLimit) (he : s.heap.get? e = some (excObj t0))
    (k : ∀ s', (∃ h tk, s' = { s with heap := h, toks := tk }) → But [e] s.heap s'.heap → (∃ t d sl, s'.heap.get? e = some { cls := .ref 51, dict := d, data := .fields #[.ref t, .none, .none, .none, .bool false, .none], slots := sl }) → Q .none s') :
    wpAny (model prg w) A (call (.ref 48) [.ref e, v]) Q E s := by
  refine call_d [(Str.ofString "self", .ref e), (Str.ofString "value", v)] [(Str.ofString "self", .ref e), (Str.ofString "value", v)] [] (W.up hs).K (W.up hs).lim (Nat.lt_of_succ_lt hroom) rfl rfl rfl rfl rfl rfl rfl rfl rfl rfl rfl rfl rfl rfl rfl (fun _ h => h) (fun _ h => (nomatch h)) ?_
  intro env s₁ hE hF F0
  have F := F0.expose he
  have W₁ := (W.up (hide1 hs hen)).up F.keep
  have hself := F.has hE (x := Str.ofString "self") (v := .ref e) (by walk_at "mem") rfl
  refine wpAny_execs_cons (wpAny_Expr (hi := hE.quiet) ?_)
  refine methodCall_KW (wpAny_Name ((Has.glob W₁ hE (by rfl) (show nsIn (KK w) mainGlobals (Str.ofString "PerlError") = some (some (.ref 31)) by rfl)) _ _ _ s₁ _ Sub.rfl' ?_))
  refine meth_perl W₁ ?_
  dsimp only
  refine callWith_K W₁.K (by rfl) (Ev.use' (h₀ := s₁.heap) (Ev.args (Ev.name hself) (Ev.args Ev.cStr Ev.args0)) Sub.rfl' fun vs s₂ k₂ hb => ?_)
  obtain ⟨_, _, rfl, rfl, _, _, rfl, ⟨tt, rfl⟩, rfl⟩ := hb.here
  have F₂ := F.kp (⟨⟨s₁.heap, s₁.toks + 1, rfl⟩, Sub.rfl'⟩ : Kp s₁ { s₁ with toks := s₁.toks + 1 }) |>.kp k₂
  have W₂ := W₁.up k₂.sub
  refine ⟨W₂.K, perl_init W ((hide1 hs hen).tr F₂.keep) hen (show A.depth + 1 < recursionLimit from hroom) (F₂.get List.mem_cons_self) fun s₃ sm bt D => ?_⟩
  obtain ⟨h', tk, rfl⟩ := sm
  dsimp only
  obtain ⟨t1, d1, sl1, ho1, hd1⟩ := id D.there
  have F₃ := F₂.chg (X := [e]) (tk := tk) (h' := h') (news' := [(e, _)]) (fun a ha => by rw [List.mem_singleton.mp ha]; exact F₂.own List.mem_cons_self) bt
    (fun p hp => by rw [List.mem_singleton.mp hp]; exact ⟨ho1, F₂.own List.mem_cons_self⟩)
  have W₃ := (W.up (hide1 hs hen)).up F₃.keep
  have hself₃ : Has env h' (Str.ofString "self") _ := F₃.has hE List.mem_cons_self rfl
  have htext₃ : Has env h' (Str.ofString "value") _ := F₃.has hE (List.mem_cons_of_mem _ List.mem_cons_self) rfl
  refine wpAny_execs_cons (plainObj_wpAny_Assign_Attribute ?_)
  refine Ev.use' (h₀ := h') (Ev.name htext₃) Sub.rfl' fun v' s₄ k₄ hb₄ => ?_
  have : v = v' := Eq.symm hb₄.here
  subst this
  refine Ev.use' (h₀ := h') (Ev.name hself₃) k₄.sub fun v₅ s₅ k₅ hb₅ => ?_
  have : v₅ = .ref e := hb₅.here
  subst this
  have F₅ := (F₃.kp k₄).kp k₅
  have he5 := F₅.get (List.mem_cons_self (l := []))
  have D' : DieAt (hideAll s.heap [e]) s₅.heap e _ := (D.up (k₄.sub.tr k₅.sub)).base F₂.keep
  refine set_die F₅ (W₃.up (k₄.sub.tr k₅.sub)) D' (by kernel_rfl) (fun dx ⟨o, ho, hd⟩ => by rw [he5] at ho; cases ho; exact F₂.fresh (hd1 dx hd)) (Within.cons "text" _ Within.nil) (by decide) fun s₆ F₆ D _ => ?_
  obtain ⟨t, d, sl, a, _⟩ := D.there
  exact wpAny_execs_nil (k s₆ F₆.same (but_of_hide F₆.keep) ⟨t, d, sl, a⟩)
end

-- X5
section
variable {prog : Program} {w : World} {A : Around} {E : Value → Shared → Prop} {h : Heap} {g : Array GenState} {d : Drawn} {t : Nat} {os : OsState} {rest : List Value}

theorem die_check_new {M : Model} {Q : Unit → Shared → Prop} (X : (KK w).In h) (hq : Q () ⟨h, g, d, t, os⟩) :
    wpAny M A (checkBuiltinCall "Exception.__new__" ⟨.ref 51 :: rest, []⟩) Q E ⟨h, g, d, t, os⟩ := by
  have F := PySem.F.excBase_Exception
  have hC := X 51 _ rfl
  have hcont : ([Value.ref 51, .ref 31, .type "Exception", .type "BaseException", .type "object"] : List Value).contains (.type "Exception") = true := by decide
  have hstar := F.noStar
  simp only [checkBuiltinCall, F.newKind, F.newSplit, F.newRow]
  repeat (first | refine wpAny_loadPart_at hC ?_ | (refine wpAny_isSubtype_exc hC ?_; rw [hcont]) | refine wpAny_staticBase_exc hC ?_ | refine wpAny_madeBy_exc hC ?_ | simp only [bne_self_eq_false, Bool.false_eq_true, if_false] | wp_step)
  exact hq

theorem die_new {R : Result → Shared → Prop} (X : (KK w).In h)
    (hq : R (.ok (.ret (.ref (h.objs.size + 1)))) ⟨(h.push { cls := .type "tuple", data := .seq rest.toArray }).push { cls := .ref 51, data := .fields #[.ref h.objs.size, .none, .none, .none, .bool false, .none] }, g, d, t, os⟩) (hrest : rest.length ≤ sizeLine := by size_fits) :
    codeAny (model prog w) A (.builtin "Exception.__new__" ⟨.ref 51 :: rest, []⟩) R ⟨h, g, d, t, os⟩ := by
  have F := PySem.F.excBase_Exception
  have hC := X 51 _ rfl
  have hends := F.ends
  have hcB : ([Value.ref 51, .ref 31, .type "Exception", .type "BaseException", .type "object"] : List Value).contains (.type "Exception") = true := by decide
  have hcA : ([Value.ref 51, .ref 31, .type "Exception", .type "BaseException", .type "object"] : List Value).contains (.type "AttributeError") = false := by decide
  have hcN : ([Value.ref 51, .ref 31, .type "Exception", .type "BaseException", .type "object"] : List Value).contains (.type "NameError") = false := by decide
  refine PySem.codeAny_builtinAt F.entry ?_
  unfold Builtin.«BaseException.__new__»
  refine PySem.wpAt_bind ?_
  show PySem.wpAt _ _ _ (stack >>= _) _ _ _
  refine PySem.wpAt_bind (PySem.wpAt_stack fun p below => PySem.wpAt_of_wpAny ?_)
  wp_walk
  refine PySem.wpAt_of_wpAny ?_
  rw [F.owner]
  repeat (first | with_reducible refine wpAny_madeHere_exc F.canon hC ?_ | with_reducible refine wpAny_loadPart_at hC ?_ | (with_reducible refine wpAny_isSubtype_exc hC ?_; first | rw [hcB] | rw [hcA] | rw [hcN]) | wp_step)
  show R _ _
  rw [Heap.size_push]
  exact hq

theorem die_type_call {Q : Fin → Shared → Prop} (X : (KK w).In h)
    (hq : ∀ h' e, Heap.MadeExcOf h h' e (.ref 51) rest →
      wpAny (model prog w) A (call (.ref 48) (.ref e :: rest)) (fun r s' => r = .none ∧ Q (.done (.ret (.ref e))) s') E ⟨h', g, d, t, os⟩) (hrest : rest.length ≤ sizeLine := by size_fits) :
    wpAny (model prog w) A (Builtin.«type.__call__» ⟨.ref 51 :: rest, []⟩) Q E ⟨h, g, d, t, os⟩ := by
  have F := PySem.F.excBase_Exception
  have hC := X 51 _ rfl
  repeat (first | with_reducible refine wpAny_loadPart_at hC ?_ | with_reducible refine wpAny_madeBy_exc hC ?_ | wp_step)
  refine codeAny_call_builtin_code (Code.quiet_builtin _ F.quiet) (die_check_new X ?_)
  refine die_new X ?_ hrest
  show wpAny _ _ _ _ _ _
  have X₁ : (KK w).In ((h.push { cls := .type "tuple", data := .seq rest.toArray }).push { cls := .ref 51, data := .fields #[.ref h.objs.size, .none, .none, .none, .bool false, .none] }) := fun a o e =>
    Heap.get?_push_of_some _ (Heap.get?_push_of_some _ (X a o e))
  have hC₁ := X₁ 51 _ rfl
  have hget : ((h.push { cls := .type "tuple", data := .seq rest.toArray }).push
      { cls := .ref 51, data := .fields #[.ref h.objs.size, .none, .none, .none, .bool false, .none] }).get? (h.objs.size + 1) = some
      { cls := .ref 51, data := .fields #[.ref h.objs.size, .none, .none, .none, .bool false, .none] } := by heap_get
  have hcC : ([Value.ref 51, .ref 31, .type "Exception", .type "BaseException", .type "object"] : List Value).contains (.ref 51) = true := by decide
  unfold isInstance
  repeat (first | with_reducible refine wpAny_loadPart_at hget ?_ | (with_reducible refine wpAny_isSubtype_exc hC₁ ?_; rw [hcC]) | wp_step)
  show wpAny _ _ (typeLookup (.ref 51) _) _ _ _
  refine (looks_findIn X₁ (show findIn (KK w) (.ref 51) "__init__" = some (some (.ref 48)) by kernel_rfl)).at ?_
  refine wpAny_holding (wpAny_bind ?_)
  unfold bindSpecial
  refine wpAny_bind (wpAny_typeOf (T := "function") ⟨_, X₁ 48 _ rfl, rfl⟩ ?_)
  rw [if_pos (by decide)]
  refine wpAny_pure (wpAny_bind (wpAny_mono (hq _ (h.objs.size + 1) ⟨fun b o hb => Heap.get?_push_of_some _ (Heap.get?_push_of_some _ hb), Heap.get?_none_of_le (Nat.le_succ _), h.objs.size, hget, Heap.get?_none_of_le (Nat.le_refl _), ?_⟩) (fun r s' hr => ?_) fun _ _ x => x))
  · exact Heap.get?_push_of_some _ (Heap.get?_push_at rfl rfl)
  · obtain ⟨rfl, hQ⟩ := hr
    wp_walk
    exact hQ

theorem die_call0 {Q : Value → Shared → Prop} (X : (KK w).In h)
    (hq : ∀ h' e, Heap.MadeExcOf h h' e (.ref 51) rest →
      wpAny (model prog w) (A.under (.builtin "type.__call__" ⟨.ref 51 :: rest, []⟩)) (call (.ref 48) (.ref e :: rest)) (fun r s' => r = .none ∧ Q (.ref e) s') E ⟨h', g, d, t, os⟩) (hrest : rest.length ≤ sizeLine := by size_fits) :
    wpAny (model prog w) A (call (.ref 51) rest) Q E ⟨h, g, d, t, os⟩ := by
  have f1 := tc_lookup
  have f2 := tc_bind (.ref 51)
  have hC := X 51 _ rfl
  have hT : (⟨h, g, d, t, os⟩ : Shared).TypeIs (.ref 51) "type" := ⟨_, hC, rfl⟩
  refine wpAny_call (codeAny_of_tree ?_)
  show wpAny _ _ (callAny (.ref 51) _) _ _ _
  repeat (any_goals (first | assumption | with_reducible refine wpAny_loadPart_at hC ?_ | wp_step))
  refine ⟨rfl, ?_⟩
  refine codeAny_call_builtin_at (Code.quiet_builtin _ (by decide +kernel)) entry_typeCall (wpAny_check_type_call_sub hC (die_type_call (hrest := hrest) X fun h' e hm => ?_))
  exact hq h' e hm
end

/-- a Die that was just made -/
def IsDie (h₀ : Heap) (v : Value) (h : Heap) : Prop := ∃ e t d sl, v = .ref e ∧ h₀.get? e = none ∧ h.get? e = some { cls := .ref 51, dict := d, data := .fields #[.ref t, .none, .none, .none, .bool false, .none], slots := sl }

theorem ev_die {w : World} {A : Around} {h₀ : Heap} {v : Value} (W : WW w h₀) (hroom : A.depth + 2 < recursionLimit) : Ev prg w A (call (.ref 51) [v]) h₀ (IsDie h₀) := fun s E hs => by
  obtain ⟨h, g, d, t, os⟩ := s
  refine die_call0 (W.up hs).K fun h' e hm => ?_
  obtain ⟨t0, he, htn, ht⟩ := hm.there
  have hen : h.get? e = none := hm.new
  refine die_init (h₀ := h) (W.up hs) (fun b o hb => hm.keeps b o hb) hen hroom he fun s' sm bt ⟨t1, d1, sl1, ho⟩ => ⟨rfl, ?_⟩
  obtain ⟨h2, tk, rfl⟩ := sm
  exact ⟨fun h3 k3 => ⟨e, t1, d1, sl1, rfl, Sub.none hs hen, k3 _ _ ho⟩, ⟨h2, tk, rfl⟩, fun b o hb => bt b o (by simp only [List.mem_singleton]; rintro rfl; rw [show h.get? b = some o from hb] at hen; cases hen) (hm.keeps b o hb)⟩

-- X6
section
variable {A : Around} {base : Heap} {outer : List Env} {env : Env} {h h' : Heap} {s₀ s s' : Shared} {names : List (Str × NameKind)}

theorem below_up (K : Below A base outer h) (k : Sub h h') : Below A base outer h' := ⟨K.stack, fun b o e => k _ _ (K.stays b o e), K.frames.of_keeps fun b o e _ => ⟨o, k _ _ e, rfl⟩⟩
theorem below_in {b : Heap} {vars cvars : List (Str × Value)} {news : List (Addr × Obj)} (K : Below A base outer s₀.heap) (hE : EnvOk env names) (hF : FrOk env names) (F : Fm b env vars cvars news s₀ s) (k : Sub s₀.heap s.heap) (hn : s₀.heap.get? env.locals = none) :
    Below (A.deeper env) base (env :: outer) s.heap := by
  have K' := below_up K k
  obtain ⟨m, ⟨oL, es, ep, hL, hd, _⟩, _⟩ := F.ns
  exact ⟨Around.frames_deeper K.stack, K'.stays, by rw [hE.kind]; decide, ⟨env.locals, oL, hF.frame, Sub.none K.stays hn, hL, fun vs q => by rw [hd] at q; cases q⟩, K'.frames⟩

/-- s' is s with another heap -/
def Like (s s' : Shared) : Prop := ∃ h tk, s' = { s with heap := h, toks := tk }
theorem Like.rfl' : Like s s := ⟨s.heap, s.toks, rfl⟩
theorem Like.tr {a b c : Shared} (x : Like a b) (y : Like b c) : Like a c := by
  obtain ⟨h, t, rfl⟩ := x; obtain ⟨h', t', rfl⟩ := y; exact ⟨h', t', rfl⟩
theorem Like.mk' {s : Shared} {h : Heap} : Like s { s with heap := h } := ⟨h, s.toks, rfl⟩

/-- a Die flies, below these frames -/
structure Rz (base : Heap) (outer : List Env) (s : Shared) (e : Value) (s' : Shared) : Prop where
  fl : ∃ a a0, e = .ref a ∧ Heap.FlyingW base outer a (.ref 51) a0 s'.heap
  like : Like s s'
  up : s.heap.UpToSlots s'.heap
/-- .. just made -/
structure Rn (s : Shared) (e : Value) (s' : Shared) : Prop where
  kp : Kp s s'
  die : IsDie s.heap e s'.heap
/-- .. held by a loop of the frame -/
structure Rh (base : Heap) (outer : List Env) (env : Env) (s : Shared) (e : Value) (s' : Shared) : Prop where
  fl : ∃ a a0, e = .ref a ∧ Heap.HeldW base (env :: outer) a (.ref 51) a0 env.locals s'.heap
  like : Like s s'
  up : s.heap.UpToSlots s'.heap

section
variable {M : Model} {E : Value → Shared → Prop} {e : Value} {Q : Unit → Shared → Prop}
theorem leave_new (K : Below (A.deeper env) base (env :: outer) s.heap) (hf : env.frame = some env.locals) (R : Rn s e s') (hQ : ∀ s'', Rz base outer s e s'' → Q () s'') : wpAny M (A.deeper env) (leaving env e) Q E s' := by
  obtain ⟨kp, a, t, d, sl, rfl, hn, ho⟩ := R
  have K' := below_up K kp.sub
  refine wpAny_leaving_firstW K'.stack K'.frames hf ho K'.stays (Sub.none K.stays hn) rfl rfl rfl fun h' hL => ?_
  obtain ⟨k1, ⟨_, _, k2⟩, k3, k4⟩ := hL
  refine hQ _ ⟨⟨a, _, rfl, k1, Sub.none K.stays hn, k2, k3⟩, Like.tr kp.same Like.mk', Heap.UpToSlots.trans (Heap.UpToSlots.of_keeps kp.sub) k4⟩
theorem leave_on (K : Below (A.deeper env) base (env :: outer) s.heap) (hf : env.frame = some env.locals) (R : Rz base (env :: outer) s e s') (hQ : ∀ s'', Rz base outer s e s'' → Q () s'') : wpAny M (A.deeper env) (leaving env e) Q E s' := by
  obtain ⟨⟨a, a0, rfl, fl⟩, lk, up⟩ := R
  exact wpAny_leaves_onW K.stack hf fl fun h' x1 x2 => hQ _ ⟨⟨a, a0, rfl, x1⟩, lk.tr Like.mk', up.trans x2⟩
theorem leave_held (hf : env.frame = some env.locals) (R : Rh base outer env s e s') (hQ : ∀ s'', Rz base outer s e s'' → Q () s'') : wpAny M (A.deeper env) (leaving env e) Q E s' := by
  obtain ⟨⟨a, a0, rfl, hh⟩, lk, up⟩ := R
  unfold leaving
  refine wpAny_bind (wpAny_noteFrame_againW hf hh.2.2.2 ?_)
  refine wpAny_landsW hh fun h' hfl sm => ?_
  obtain ⟨k1, k2, ⟨_, _, k3⟩, k4⟩ := hfl
  exact hQ _ ⟨⟨a, a0, rfl, k1, k2, k3, k4⟩, lk.tr Like.mk', up.trans sm⟩
/-- a new Die is noted by a loop .. -/
theorem note_new (K : Below A base (env :: outer) s.heap) (hf : env.frame = some env.locals) (R : Rn s e s') (hQ : ∀ s'', Rh base outer env s e s'' → Q () s'') : wpAny M A (noteFrame e env) Q E s' := by
  obtain ⟨kp, a, t, d, sl, rfl, hn, ho⟩ := R
  have K' := below_up K kp.sub
  unfold noteFrame
  simp only [hf]
  refine wpAny_bind (wpAny_field (x := .none) ho rfl rfl ?_)
  rw [if_neg (by decide)]
  refine wpAny_entryW (a0 := .ref t) K'.stack K'.frames hf ho K'.stays (Sub.none K.stays hn) rfl (Nat.le_of_ble_eq_true rfl) rfl fun h' hN => ?_
  obtain ⟨k1, k2, k3, k4⟩ := hN
  exact hQ _ ⟨⟨a, _, rfl, k1, Sub.none K.stays hn, k2, k3⟩, Like.tr kp.same Like.mk', Heap.UpToSlots.trans (Heap.UpToSlots.of_keeps kp.sub) k4⟩
/-- .. and comes back from it -/
theorem back_held (hf : env.frame = some env.locals) (R : Rh base outer env s e s') (hE : ∀ s'', Rh base outer env s e s'' → E e s'') : cameBackBy M A env E e s' := by
  obtain ⟨⟨a, a0, rfl, f1, f2, f3, oe, vs, T, oT, ts, he, hcls, hd, h1, hnT, hTe, hT, hdT, h3⟩, lk, up⟩ := R
  have hsz3 : 3 < ts.size := (Array.getElem?_eq_some_iff.mp h3).1
  have other : ∀ b, b ≠ T → (s'.heap.update T (Obj.mapFields (·.setIfInBounds 3 (rawInt env.locals)))).get? b = s'.heap.get? b := fun b hb => Heap.get?_update_other _ _ (Ne.symm hb)
  have noRecord : ∀ b o, s'.heap.get? b = some o → (∀ vs, o.data ≠ .fields vs) → b ≠ T := fun b o hb hnf q => by
    rw [q, hT] at hb; injection hb with hb; subst hb; exact hnf ts hdT
  unfold cameBackBy
  refine wpAny_bind (wpAny_field he hd h1 ?_)
  rw [if_neg (by simp)]
  unfold setFlight
  rw [hf]
  refine wpAny_bind (wpAny_field he hd h1 ?_)
  rw [if_pos (show (Value.ref T != Value.none) = true from by simp)]
  refine wpAny_setField hT hdT hsz3 ?_
  refine hE _ ⟨⟨a, a0, rfl, fun b o hbo => (other b fun q => by rw [q, hnT] at hbo; cases hbo).trans (f1 b o hbo), f2, f3.of_keeps fun b o hb hnf => ⟨o, (other b (noRecord b o hb hnf)).trans hb, rfl⟩,
    oe, vs, T, _, _, (other a (Ne.symm hTe)).trans he, hcls, hd, h1, hnT, hTe, Heap.get?_update_self _ hT (Obj.isFreed_of_fields (Obj.data_mapFields hdT _)), Obj.data_mapFields hdT _, by simp [hsz3]⟩, lk.tr Like.mk', up.trans fun b o hb hn => ⟨o.slots, (other b (noRecord b o hb hn)).trans hb⟩⟩
end
end

section
variable {w : World} {A : Around} {b : Heap} {env : Env} {vars cvars : List (Str × Value)} {news : List (Addr × Obj)} {s₀ s s' : Shared} {names : List (Str × NameKind)} {E : Value → Shared → Prop} {Q : Flow → Shared → Prop} {rest : List Stmt}
theorem raise_die {x : Sem Value} (W : WW w s.heap) (hh : A.handled = none) (h : wpAny (model prg w) A x (fun v s₁ => Kp s s₁ ∧ IsDie s.heap v s₁.heap) E s) (hE : ∀ e s', Rn s e s' → E e s') :
    wpAny (model prg w) A (raiseStmt env (some x) none) Q E s := by
  have hcB : ([Value.ref 51, .ref 31, .type "Exception", .type "BaseException", .type "object"] : List Value).contains (.type "BaseException") = true := by decide
  unfold raiseStmt
  refine wpAny_bind (wpAny_mono h (fun v s₁ h₁ => ?_) fun _ _ x => x)
  obtain ⟨kp, a, t, d, sl, rfl, hn, ho⟩ := h₁
  have hC := (W.up kp.sub).K 51 _ rfl
  have R : Rn s (.ref a) s₁ := ⟨kp, a, t, d, sl, rfl, hn, ho⟩
  have hE' := hE _ _ R
  clear R kp hE h
  obtain ⟨hp, g, d', tk, os⟩ := s₁
  repeat (first | with_reducible refine wpAny_loadPart_at ho ?_ | with_reducible refine wpAny_loadPart_at hC ?_ | (with_reducible refine wpAny_isSubtype_exc hC ?_; rw [hcB]) | wp_step)
  exact wpAny_raiseNew_none hh hE'

theorem x_raise {fp p1 p2 : Pos} {k : Nat} {txt : Str} (W : WW w s.heap) (hE : EnvOk env names) (hl : names.lookup (Str.ofString "Die") = some .globalImplicit) (hh : A.handled = none) (hroom : A.depth + 2 < recursionLimit)
    (hR : ∀ e s', Rn s e s' → E e s') {kp : Pos} : wpAny (model prg w) A (execs (.Raise (some (.Call (.Name (Str.ofString "Die") fp) [.Constant (.str txt) k kp] [] p1)) none p2 :: rest) env) Q E s := by
  refine wpAny_execs_cons ?_
  rw [arm_exec_Raise]
  refine wpAny_bind (wpAny_standAt (raise_die W hh (wpAny_bind (?_ : wpAny _ _ (eval (.Call (.Name (Str.ofString "Die") fp) [.Constant (.str txt) k kp] [] p1) env) _ _ _)) hR))
  refine Ev.use (P := IsDie s.heap) (Ev.callD W (Has.glob W hE hl (show nsIn (KK w) mainGlobals (Str.ofString "Die") = some (some (.ref 51)) by rfl)) (by rfl) (by decide) (Ev.args Ev.cStr Ev.args0) fun vs h hs hv => ?_) fun v s' k hb => wpAny_bind (wpAny_standAt (wpAny_pure ⟨k, hb.here⟩))
  obtain ⟨v, r, rfl, _, rfl⟩ := hv
  exact (ev_die (W.up hs) hroom).mono fun v h' _ ⟨e, t, d, sl, q1, q2, q3⟩ => ⟨e, t, d, sl, q1, hs.none q2, q3⟩
end

-- X7
section
variable {w : World} {A : Around} {base : Heap} {outer : List Env} {env : Env} {h₀ h₁ : Heap} {s₀ s s' : Shared} {names : List (Str × NameKind)} {α : Type}

theorem Rz.of {e : Value} (R : Rz base outer s e s') (l : Like s₀ s) (k : Sub s₀.heap s.heap) : Rz base outer s₀ e s' := ⟨R.fl, l.tr R.like, Heap.UpToSlots.trans (Heap.UpToSlots.of_keeps k) R.up⟩

/-- the tree ends by a Die that flies -/
def Rs (w : World) (A : Around) (base : Heap) (outer : List Env) (t : Sem α) (h₀ : Heap) : Prop :=
  ∀ (s : Shared) (E : Value → Shared → Prop) (Q : α → Shared → Prop), Sub h₀ s.heap → Below A base outer s.heap → (∀ e s', Rz base outer s e s' → E e s') → wpAny (model prg w) A t Q E s

/-- what a frame's body leaves with -/
def RB (A : Around) (base : Heap) (outer : List Env) (env : Env) (s₀ : Shared) (e : Value) (s' : Shared) : Prop :=
  ∃ s, Like s₀ s ∧ Sub s₀.heap s.heap ∧ Below (A.deeper env) base (env :: outer) s.heap ∧ (Rn s e s' ∨ Rz base (env :: outer) s e s' ∨ Rh base outer env s e s')

theorem leave_RB {E : Value → Shared → Prop} {e : Value} {Q : Unit → Shared → Prop} (hf : env.frame = some env.locals) (R : RB A base outer env s₀ e s') (hQ : ∀ s'', Rz base outer s₀ e s'' → Q () s'') : wpAny (model prg w) (A.deeper env) (leaving env e) Q E s' := by
  obtain ⟨s, l, k, K, R | R | R⟩ := R
  · exact leave_new K hf R fun s'' R => hQ s'' (R.of l k)
  · exact leave_on K hf R fun s'' R => hQ s'' (R.of l k)
  · exact leave_held hf R fun s'' R => hQ s'' (R.of l k)

theorem Rs.def {K : Frag} {f : Addr} {oc : Value} {od : Option Addr} {fd : FuncData} {osl : Array (Option Value)} {body : List Stmt} {vs : List Value} {names : List (Str × NameKind)} (binds vars cvars : List (Str × Value))
    (X : K.In h₀) (hlim : h₀.NoLimit) (hroom : A.depth < recursionLimit) (ho : K.lookup f = some ⟨oc, od, .func fd, osl⟩) (hcd : codeIn K fd.code fd.qualname = true) (hbody : fd.body = .stmts body)
    (hcl : fd.closure = []) (hgl : fd.globals = mainGlobals) (hbl : fd.builtins = builtinsNs)
    (hnames : fd.scope.names = names) (hbind : bindArgs fd ⟨vs, []⟩ = pure binds) (hdist : decide ((binds.map (·.1)).Nodup) = true)
    (hk1 : (vars.all fun p => decide (names.lookup p.1 = some .local)) = true) (hk2 : (cvars.all fun p => decide (names.lookup p.1 = some .cell)) = true) (hk3 : (binds.all fun p => decide (names.lookup p.1 = some .local ∨ names.lookup p.1 = some .cell)) = true)
    (hco : fd.scope.isCoroutine = false) (hgen : fd.scope.isGenerator = false) (hk : fd.scope.kind = .function)
    (hv : ∀ p ∈ vars, p ∈ binds) (hc : ∀ p ∈ cvars, p ∈ binds)
    (h : ∀ env s₀ s', Sub h₀ s₀.heap → EnvOk env names → FrOk env names → Fm s₀.heap env vars cvars [] s₀ s' →
      (∀ {b vars cvars news s}, Fm b env vars cvars news s₀ s → Sub s₀.heap s.heap → Below (A.deeper env) base (env :: outer) s.heap) →
      wpAny (model prg w) (A.deeper env) (execs body env) (fun _ _ => False) (RB A base outer env s₀) s') :
    Rs w A base outer (call (.ref f) vs) h₀ := fun s E Q hs KB hR =>
  call_d binds vars cvars (fun a o e => hs _ _ (X a o e)) (hlim.keeps hs) hroom ho hcd hbody hcl hgl hbl hnames hbind hdist hk1 hk2 hk3 hco hgen hk hv hc
    fun env s' hE hF F => wpAny_mono (h env s s' hs hE hF F (fun F' k' => below_in KB hE hF F' k' F.locNew)) (fun _ _ x => x.elim) fun e s'' R => leave_RB hF.frame R fun s3 R3 => hR e s3 R3

theorem Rs.up {t : Sem α} (h : Rs w A base outer t h₀) (k : Sub h₀ h₁) : Rs w A base outer t h₁ := fun s E Q hs => h s E Q (k.tr hs)

/-- a call by name that raises -/
theorem Rs.callD {f : Str} {a : Addr} {fp pos : Pos} {e : Expr} {rest : List Expr} {PL : List Value → Heap → Prop} (W : WW w h₀) (hf : Has env h₀ f (.ref a)) (hk : keepIn (hd.heap_39 w.params) (.ref a) = true) (hd : (f == ("__debug__" : Str)) = false)
    (ha : Ev prg w A (spliced (backTo pos (starEach (e :: rest) env))) h₀ PL) (hc : ∀ vs h, Sub h₀ h → PL vs h → Rs w A base outer (call (.ref a) vs) h)
    (he : starEach (e :: rest) env = (false, eval e env) :: starEach rest env := by rfl) (hplain : (backTo pos (starEach rest env)).any (·.1) = false := by rfl) :
    Rs w A base outer (eval (.Call (.Name f fp) (e :: rest) [] pos) env) h₀ :=
  fun s E Q hs K hR => wpAny_Call_ofName (wpAny_Name (hf _ _ _ s _ hs (callWith_K W.K hk (wpAny_mono (ha s E hs) (fun vs s₁ hv =>
    ⟨(W.up (hs.tr hv.2.sub)).K, hc vs s₁.heap (hs.tr hv.2.sub) hv.1.here s₁ E _ Sub.rfl' (below_up K hv.2.sub) fun e s' R => hR e s' (R.of hv.2.same hv.2.sub)⟩) fun _ _ e => e) he hplain)) hd)

variable {b : Heap} {vars cvars : List (Str × Value)} {news : List (Addr × Obj)} {E : Value → Shared → Prop} {Q : Flow → Shared → Prop} {rest : List Stmt}
theorem x_exprR {e : Expr} {pos : Pos} (hE : EnvOk env names) (h : Rs w A base outer (eval e env) s.heap) (K : Below A base outer s.heap) (hR : ∀ e s', Rz base outer s e s' → E e s')
    (hs : swapsWith e none pos.line env = pure false := by rfl) : wpAny (model prg w) A (execs (.Expr e pos :: rest) env) Q E s :=
  wpAny_execs_cons (wpAny_Expr (hi := hE.quiet) (hs := hs) (h s _ _ Sub.rfl' K hR))
theorem x_assignR' {x : Str} {xp pos : Pos} {value : Expr} (h : Rs w A base outer (eval value env) s.heap) (K : Below A base outer s.heap) (hR : ∀ e s', Rz base outer s e s' → E e s')
    (hs : swapsWith value (some (.Name x xp)) pos.line env = pure false := by rfl) : wpAny (model prg w) A (execs (.Assign [.Name x xp] value pos :: rest) env) Q E s :=
  wpAny_execs_cons (wpAny_Assign_Name (hs := hs) (h s _ _ Sub.rfl' K hR))
theorem x_retR {e : Expr} {pos : Pos} (h : Rs w A base outer (eval e env) s.heap) (K : Below A base outer s.heap) (hR : ∀ e s', Rz base outer s e s' → E e s') :
    wpAny (model prg w) A (execs (.Return (some e) pos :: rest) env) Q E s := wpAny_execs_cons (wpAny_Return_some (h s _ _ Sub.rfl' K hR))
/-- an expression statement -/
theorem x_expr {e : Expr} {pos : Pos} {P : Value → Heap → Prop} (F : Fm b env vars cvars news s₀ s) (hE : EnvOk env names) (h : Ev prg w A (eval e env) s.heap P) (hn : ∀ v h, P v h → ∀ a, v ≠ .ref a)
    (k : ∀ s', Kp s s' → Fm b env vars cvars news s₀ s' → wpAny (model prg w) A (execs rest env) Q E s') (hs : swapsWith e none pos.line env = pure false := by rfl) : wpAny (model prg w) A (execs (.Expr e pos :: rest) env) Q E s :=
  wpAny_execs_cons (wpAny_Expr (hi := hE.quiet) (hs := hs) (h.use fun v s' k' hb => by
    have := hn v _ hb.here
    cases v <;> first | exact (this _ rfl).elim | exact k s' k' (F.kp k')))

/-- except Die: return None -/
theorem catch_die {e : Value} {np p p' pos : Pos} {kk : Nat} (W : WW w base) (K : Below (A.deeper env) base (env :: outer) s.heap) (hE : EnvOk env names) (hF : FrOk env names) (hl : names.lookup (Str.ofString "Die") = some .globalImplicit)
    (R : Rz base (env :: outer) s e s') (k : ∀ s'', Like s s'' → base.StaysIn s''.heap → s.heap.UpToSlots s''.heap → Q (.ret .none) s'') :
    wpAny (model prg w) (A.deeper env) (noteFrame e env) (fun _ s₂ => wpAny (model prg w) (A.deeper env) (setFlight e none) (fun _ s₃ =>
      wpAny (model prg w) (A.deeper env) (handleBy e env [.ExceptHandler (some (.Name (Str.ofString "Die") np)) none [.Return (some (.Constant .none kk p)) p'] pos]) Q E s₃) E s₂) E s' := by
  obtain ⟨⟨a, a0, rfl, fl⟩, lk, up⟩ := R
  refine wpAny_looks_onW K.stack hF.frame fl fun h₄ hheld₄ sm₄ => ?_
  refine wpAny_landsW hheld₄ fun h₅ fl₅ sm₅ => ?_
  have W₅ : WW w h₅ := W.up fl₅.1
  obtain ⟨ob, hob, hobc⟩ := fl₅.there
  refine wpAny_handleBy_cons (codeAny_handlers_test (wpAny_Name ((Has.glob W₅ hE hl (show nsIn (KK w) mainGlobals (Str.ofString "Die") = some (some (.ref 51)) by rfl)) _ _ _ _ _ Sub.rfl' ?_))) (by intro q; cases q)
  refine wpAny_excMatches_sub_self (W₅.K 51 _ rfl) hob hobc (by decide) (codeAny_handlers_suite ?_)
  refine lands_againW fl₅ fun h₆ fl₆ sm₆ => ?_
  refine wpAny_execs_cons (wpAny_Return_some (wpAny_Constant_none (k _ ((lk.tr Like.mk').tr Like.mk') fl₆.1 (((up.trans sm₄).trans sm₅).trans sm₆))))
end

-- X8
abbrev tobj (vs : List Value) : Obj := { cls := .type "tuple", data := .seq vs.toArray }

section
variable {prog : Program} {w : World} {A : Around} {E : Value → Shared → Prop} {s : Shared}

theorem iadd_lists {l b : Addr} {items items2 : Array Value} {n n2 : Nat} {Q : Value → Shared → Prop} (hl : s.heap.get? l = some { cls := .type "list", data := .seq items n }) (hb : s.heap.get? b = some { cls := .type "list", data := .seq items2 n2 })
    (hsz : items.size + items2.size ≤ sizeLine) (h : Q (.ref l) { s with heap := s.heap.update l (Obj.mapSeq fun x => x ++ items2) }) :
    wpAny (model prog w) A (inplaceOp .Add (.ref l) (.ref b)) Q E s := by
  have ha : s.TypeIs (.ref l) "list" := ⟨_, hl, rfl⟩
  have hb' : s.TypeIs (.ref b) "list" := ⟨_, hb, rfl⟩
  unfold inplaceOp
  refine wpAny_holding ?_
  have hfi : fillsInplaceSlot (.type "list") "add" (Operator.Add == .Add) = pure false := by
    unfold fillsInplaceSlot
    show (typeLookup (.type "list") (dunderI "add") >>= fun fi => pure (fi.isSome && !isSeqSlot fi)) = pure false
    rw [PySem.F.slot_list_iadd.lookup, pure_bind]
    rw [show ((some (Value.builtin "list.__iadd__")).isSome && !isSeqSlot (some (Value.builtin "list.__iadd__"))) = false by decide +kernel]
  have hsi : seqSlot? (.type "list") (dunderI "add") = pure (some (.builtin "list.__iadd__")) := PySem.seqSlot_of PySem.F.slot_list_iadd.lookup (by decide +kernel)
  refine wpAny_bind (wpAny_typeOf ha (wpAny_bind (wpAny_of_eq hfi ?_)))
  rw [if_neg (by decide)]
  refine wpAny_bind (wpAny_binaryOp1_none (nm := "add") ha hb' noFill_list_add ?_)
  refine wpAny_bind (wpAny_of_eq hsi ?_)
  refine wpAny_bind (wpAny_rule ?_)
  exact call_meets PySem.F.slot_list_iadd ha PySem.F.entry_list_iadd (PySem.F.args_list_iadd_2 _ _) (AutoSeq1.list___iadd___list_list_0 l items n b items2 n2 (extend_door hsz) (Nat.le_trans (Nat.le_add_right _ _) hsz) (Nat.le_succ_of_le hsz)) ⟨hl, hb, h⟩
end

-- X9
noncomputable def limEs (w : World) : Array DictEntry := match (KK w).lookup 109 with | some ⟨_, _, .dict es _, _⟩ => es | _ => #[]
theorem limNs {w : World} {h : Heap} (X : (KK w).In h) : h.Ns 109 (fun n => nsFind (limEs w) n) := by
  refine ⟨_, _, _, X 109 _ rfl, rfl, fun e he => ?_, fun n => rfl⟩
  have hl := Array.mem_toList_iff.mpr he
  simp only [List.mem_cons, List.not_mem_nil, or_false] at hl
  rcases hl with rfl | rfl | rfl | rfl | rfl | rfl | rfl <;> exact ⟨_, _, rfl⟩

def LimI (h : Heap) (x dx : Addr) (mA : Str → Option Value) : Prop := h.Inst x 110 mA ∧ ∃ o, h.get? x = some o ∧ o.dict = some dx
/-- a Limits whose text is m -/
def Lim (h : Heap) (x : Addr) (m : Int) : Prop := ∃ mA t, h.Inst x 110 mA ∧ mA (Str.ofString "text") = some (.int m t)
theorem Lim.up {h h' : Heap} {x : Addr} {m : Int} (L : Lim h x m) (k : Sub h h') : Lim h' x m := let ⟨mA, t, I, e⟩ := L; ⟨mA, t, I.keeps k, e⟩

section
variable {prog : Program} {w : World} {A : Around} {E : Value → Shared → Prop} {b : Heap} {env : Env} {vars : List (Str × Value)} {s₀ s : Shared} {names : List (Str × NameKind)} {Q : Flow → Shared → Prop} {rest : List Stmt} {x dx : Addr} {mA : Str → Option Value}

theorem lim_set {ns : List Str} {name y : Str} {v : Value} {ps pa py p : Pos} (F : Fm b env vars [] [] s₀ s) (W : WW w b) (hE : EnvOk env names) (Ox : Own b env x) (Od : Own b env dx) (I : LimI s.heap x dx mA)
    (hself : (Str.ofString "self", Value.ref x) ∈ vars) (hy : (y, v) ∈ vars) (hl1 : names.lookup (Str.ofString "self") = some .local) (hl2 : names.lookup y = some .local) (hd : (y == ("__debug__" : Str)) = false)
    (hna : nsFind (limEs w) name = none) (hB : typeLookup (.type "object") name = pure none) (hw : Within mA ns) (hsz : ns.length ≤ sizeLine)
    (k : ∀ s', Fm b env vars [] [] s₀ s' → LimI s'.heap x dx (fun y => if y = name then some v else mA y) → wpAny (model prog w) A (execs rest env) Q E s') :
    wpAny (model prog w) A (execs (.Assign [.Attribute (.Name (Str.ofString "self") ps) name pa] (.Name y py) p :: rest) env) Q E s := by
  refine wpAny_execs_cons (plainObj_wpAny_Assign_Attribute ?_ (hs := by rfl))
  refine Ev.use' (h₀ := s.heap) (Ev.name (F.has hE hy hl2) hd) Sub.rfl' fun v' s₁ k₁ hb₁ => ?_
  have : v = v' := Eq.symm hb₁.here
  subst this
  refine Ev.use' (h₀ := s.heap) (Ev.name (F.has hE hself hl1) (by decide)) k₁.sub fun v₂ s₂ k₂ hb₂ => ?_
  have : v₂ = .ref x := hb₂.here
  subst this
  have F₂ := (F.kp k₁).kp k₂
  have X₂ := (W.up F₂.keep).K
  obtain ⟨I, o, ho, hod⟩ := I
  have k12 := k₁.sub.tr k₂.sub
  obtain ⟨hp, g, d, tk, os⟩ := s₂
  refine store_attr PySem.F.store_object (X₂ 110 _ rfl) (limNs X₂) (by rfl) hna hB (by rintro rfl; have := W.K 110 _ rfl; rw [Ox.nb] at this; cases this) (I.keeps k12) (fun h' tk' I' kb kc => ?_) hw hsz
  have ho₂ : hp.get? x = some o := k12 _ _ ho
  obtain ⟨o₁, ho₁, _, _, _, hd₁⟩ := kc o ho₂
  have F₃ := F₂.chg (X := [x, dx]) (h' := h') (tk := tk') (news' := []) (fun a ha => by
    rcases List.mem_cons.mp ha with rfl | ha
    · exact Ox
    · rw [List.mem_singleton.mp ha]; exact Od) (fun a oa ha hoa => kb a oa (fun q => ha (by rw [q]; exact List.mem_cons_self)) (fun o₀ dx' h0 hdx q => ha (by
      rw [ho₂] at h0; cases h0
      rw [hod] at hdx; cases hdx
      rw [q]; exact List.mem_cons_of_mem _ List.mem_cons_self)) hoa) (fun p hp => nomatch hp)
  exact k _ F₃ ⟨I', o₁, ho₁, hd₁ dx hod⟩
end

theorem Fm.exposeAll {env : Env} {vars cvars : List (Str × Value)} {s₀ s : Shared} {news : List (Addr × Obj)} (F : Fm s₀.heap env vars cvars [] s₀ s) (h : ∀ p ∈ news, s₀.heap.get? p.1 = some p.2) : Fm (hideAll s₀.heap (news.map (·.1))) env vars cvars news s₀ s := by
  have k : Sub (hideAll s₀.heap (news.map (·.1))) s₀.heap := fun a o h => of_hideAll _ h
  refine { F.base k with nw := fun p hp => ⟨F.keep _ _ (h p hp), hideAll_none _ (List.mem_map_of_mem hp), (fun q => by have := F.locNew; rw [← q, h p hp] at this; cases this), fun n c hc q => by have := (F.celOk n c hc).2.1; rw [← q, h p hp] at this; cases this⟩ }
theorem hideSubAll {h₀ h : Heap} {X : List Addr} (k : Sub h₀ h) (hX : ∀ a ∈ X, h₀.get? a = none) : Sub h₀ (hideAll h X) := fun a o q => hideAll_get _ (k _ _ q) fun hm => by rw [hX a hm] at q; cases q

def IsLim (m : Int) (v : Value) (h : Heap) : Prop := ∃ q, v = .ref q ∧ Lim h q m

theorem ev_limits0 {w : World} {A : Around} {h₀ : Heap} {m : Int} {t : Tok} (W : WW w h₀) (hroom : A.depth + 1 < recursionLimit) : Ev prg w A (call (.ref 110) [] [(Str.ofString "text", .int m t)]) h₀ (IsLim m) := fun s E hs => by
  have W' := W.up hs
  obtain ⟨hp, g, d, tk, os⟩ := s
  have X := W'.K
  refine wpAny_call (make_core (makes_of X (by kernel_rfl)) (looks_findIn X (show findIn (KK w) (.ref 110) "__init__" = some (some (.ref 107)) by kernel_rfl)) (fun self => bind_fn X self (by rfl)) (.inl rfl) ?_)
  have hx : ((hp.push emptyDict).push (instObj 110 hp.objs.size)).get? (hp.objs.size + 1) = some (instObj 110 hp.objs.size) := by heap_get
  have hdx : ((hp.push emptyDict).push (instObj 110 hp.objs.size)).get? hp.objs.size = some emptyDict := by heap_get
  have k0 : Sub hp ((hp.push emptyDict).push (instObj 110 hp.objs.size)) := Sub.push.tr Sub.push
  have hfx : hp.get? (hp.objs.size + 1) = none := Heap.get?_none_of_le (Nat.le_succ _)
  have hfd : hp.get? hp.objs.size = none := Heap.get?_none_of_le (Nat.le_refl _)
  have hne : hp.objs.size ≠ hp.objs.size + 1 := Nat.ne_of_lt (Nat.lt_succ_self _)
  have W₁ : WW w ((hp.push emptyDict).push (instObj 110 hp.objs.size)) := W'.up k0
  generalize hH : ((hp.push emptyDict).push (instObj 110 hp.objs.size)) = H at hx hdx k0 W₁ ⊢
  generalize hp.objs.size + 1 = x at hx hfx hne ⊢
  generalize hp.objs.size = dx at hdx hfd hx hne
  have hcall := @call_in prg w (A.under (.builtin "type.__call__" ⟨[.ref 110], [(Str.ofString "text", .int m t)]⟩)) ⟨H, g, d, tk, os⟩ (KK w) (InitBack x fun r s' => match r with
      | .ok (.ret v) => Box (IsLim m) v s'.heap ∧ Kp ⟨hp, g, d, tk, os⟩ s'
      | .ok _ => False
      | .error e => E e s') 107 _ _ _ _ _ ⟨[.ref x], [(Str.ofString "text", .int m t)]⟩
    [(Str.ofString "self", .ref x), (Str.ofString "width", .int 64 319), (Str.ofString "depth", .int 50 320), (Str.ofString "steps", .int 1000000 323), (Str.ofString "text", .int m t), (Str.ofString "items", .int 10000 329)]
    [(Str.ofString "self", .ref x), (Str.ofString "width", .int 64 319), (Str.ofString "depth", .int 50 320), (Str.ofString "steps", .int 1000000 323), (Str.ofString "text", .int m t), (Str.ofString "items", .int 10000 329)] []
    [(Str.ofString "self", .local), (Str.ofString "width", .local), (Str.ofString "depth", .local), (Str.ofString "steps", .local), (Str.ofString "text", .local), (Str.ofString "items", .local)]
    W₁.K W₁.lim rfl (by rfl) (show A.depth + 1 < recursionLimit from hroom) rfl rfl rfl rfl rfl (binds_K W₁.K rfl (show (KK w).lookup 100 = _ by rfl) rfl (by rfl) (by rfl)) (of_decide_eq_true (by rfl))
    (fun p hp => ⟨hp, of_decide_eq_true (all_mem (p := fun p => decide (List.lookup p.1 [(Str.ofString "self", NameKind.local), (Str.ofString "width", .local), (Str.ofString "depth", .local), (Str.ofString "steps", .local), (Str.ofString "text", .local), (Str.ofString "items", .local)] = some .local)) (by rfl) p hp)⟩) (fun p hp => nomatch hp)
    (fun p hp => .inl (of_decide_eq_true (all_mem (p := fun p => decide (List.lookup p.1 [(Str.ofString "self", NameKind.local), (Str.ofString "width", .local), (Str.ofString "depth", .local), (Str.ofString "steps", .local), (Str.ofString "text", .local), (Str.ofString "items", .local)] = some .local)) (by rfl) p hp)))
    (fun env s' hE hF F0 => ?_) rfl rfl rfl
  · exact hcall
  have F := F0.exposeAll (news := [(x, instObj 110 dx), (dx, emptyDict)]) (fun p hp => by
    rcases List.mem_cons.mp hp with rfl | hp
    · exact hx
    · rw [List.mem_singleton.mp hp]; exact hdx)
  have Ox := F.own (l := x) (o := instObj 110 dx) List.mem_cons_self
  have Od := F.own (l := dx) (o := emptyDict) (List.mem_cons_of_mem _ List.mem_cons_self)
  have kb : Sub hp (hideAll H [x, dx]) := hideSubAll k0 fun a ha => by
    rcases List.mem_cons.mp ha with rfl | ha
    · exact hfx
    · rw [List.mem_singleton.mp ha]; exact hfd
  have Wb : WW w (hideAll H [x, dx]) := W'.up kb
  have I0 : LimI s'.heap x dx (fun _ => none) := ⟨⟨_, F.get List.mem_cons_self, rfl, (fun c => by simp), .inr ⟨dx, rfl, hne, Heap.Ns1.of_empty ⟨_, #[], _, F.get (List.mem_cons_of_mem _ List.mem_cons_self), rfl, fun e he => absurd he (by simp), fun _ => rfl⟩⟩⟩, _, F.get List.mem_cons_self, rfl⟩
  have F1 := F.sub (vars' := [(Str.ofString "self", .ref x), (Str.ofString "width", .int 64 319), (Str.ofString "depth", .int 50 320), (Str.ofString "steps", .int 1000000 323), (Str.ofString "text", .int m t), (Str.ofString "items", .int 10000 329)]) (cvars' := []) (news' := []) (fun _ h => h) (fun _ h => h) (fun _ h => nomatch h)
  refine lim_set F1 Wb hE Ox Od I0 (by walk_at "mem") (v := .int 64 319) (by walk_at "mem") rfl rfl rfl rfl (by rw [typeLookup_type, builtinLookup_eq_fast]; kernel_rfl) Within.nil (by decide +kernel) fun s2 F2 I2 => ?_
  refine lim_set F2 Wb hE Ox Od I2 (by walk_at "mem") (v := .int 50 320) (by walk_at "mem") rfl rfl rfl rfl (by rw [typeLookup_type, builtinLookup_eq_fast]; kernel_rfl) (Within.cons _ _ Within.nil) (by decide +kernel) fun s3 F3 I3 => ?_
  refine lim_set F3 Wb hE Ox Od I3 (by walk_at "mem") (v := .int 1000000 323) (by walk_at "mem") rfl rfl rfl rfl (by rw [typeLookup_type, builtinLookup_eq_fast]; kernel_rfl) (Within.cons _ _ (Within.cons _ _ Within.nil)) (by decide +kernel) fun s4 F4 I4 => ?_
  refine lim_set F4 Wb hE Ox Od I4 (by walk_at "mem") (v := .int m t) (by walk_at "mem") rfl rfl rfl rfl (by rw [typeLookup_type, builtinLookup_eq_fast]; kernel_rfl) (Within.cons _ _ (Within.cons _ _ (Within.cons _ _ Within.nil))) (by decide +kernel) fun s5 F5 I5 => ?_
  refine lim_set F5 Wb hE Ox Od I5 (by walk_at "mem") (v := .int 10000 329) (by walk_at "mem") rfl rfl rfl rfl (by rw [typeLookup_type, builtinLookup_eq_fast]; kernel_rfl) (Within.cons _ _ (Within.cons _ _ (Within.cons _ _ (Within.cons _ _ Within.nil)))) (by decide +kernel) fun s6 F6 I6 => ?_
  refine wpAny_execs_nil ⟨rfl, fun h' k' => ⟨x, rfl, Lim.up ⟨_, t, I6.1, by rfl⟩ k'⟩, ?_, kb.tr F6.keep⟩
  obtain ⟨h6, t6, e6⟩ := F6.same
  exact ⟨h6, t6, e6⟩

-- Y1
section
variable {w : World} {A : Around} {h₀ : Heap} {env : Env} {names : List (Str × NameKind)}
theorem Ev.limits {e : Expr} {kp fp pos : Pos} {m : Int} (W : WW w h₀) (hE : EnvOk env names) (hl : names.lookup (Str.ofString "Limits") = some .globalImplicit) (hroom : A.depth + 1 < recursionLimit) (he : Ev prg w A (eval e env) h₀ (IsI m)) :
    Ev prg w A (eval (.Call (.Name (Str.ofString "Limits") fp) [] [⟨some (Str.ofString "text"), e, kp⟩] pos) env) h₀ (IsLim m) := fun s E hs => by
  refine wpAny_Call_ofName (wpAny_Name ((Has.glob W hE hl (show nsIn (KK w) mainGlobals (Str.ofString "Limits") = some (some (.ref 110)) by rfl)) _ _ _ s _ hs ?_))
  refine callWith_KW0 W.K (by rfl) (by rfl) ?_
  refine evalAll_cons (wpAny_bind (wpAny_mono (he s E hs) (fun v s₁ hv => wpAny_bind (wpAny_standAt (wpAny_pure (evalAll_nil ⟨(W.up (hs.tr hv.2.sub)).K, ?_⟩)))) fun _ _ e => e))
  obtain ⟨t, rfl⟩ := hv.1.here
  exact wpAny_mono (ev_limits0 (t := t) (W.up (hs.tr hv.2.sub)) hroom s₁ E Sub.rfl') (fun _ _ hq => ⟨hq.1, hv.2.tr hq.2⟩) fun _ _ e => e
end
section
variable {prog : Program} {w : World} {A : Around} {h₀ : Heap} {env : Env}
theorem Ev.limText {x : Str} {xp pos : Pos} {q : Addr} {m : Int} (W : WW w h₀) (hx : Has env h₀ x (.ref q)) (L : Lim h₀ q m) (hd : (x == ("__debug__" : Str)) = false) :
    Ev prog w A (eval (.Attribute (.Name x xp) (Str.ofString "text") pos) env) h₀ (IsI m) := fun s E hs => by
  refine Attribute_name (wpAny_Name (hx _ _ _ s _ hs ?_) hd)
  obtain ⟨mA, t, I, e⟩ := L.up hs
  have X := (W.up hs).K
  obtain ⟨hp, g, d, tk, os⟩ := s
  exact load_attr (X 110 _ rfl) (limNs X) (by rfl) (by rfl) (by rw [typeLookup_type, builtinLookup_eq_fast]; kernel_rfl) I e rfl ⟨IsI.box, Kp.mk' Sub.rfl'⟩
end

-- Y2
/-- a list with these ints -/
def LV (ns : List Int) (v : Value) (h : Heap) : Prop := ∃ l, v = .ref l ∧ Lst h l ns
/-- a range -/
def IsR (a b c : Int) (v : Value) (h : Heap) : Prop := ∃ r t u x, v = .ref r ∧ IsRange h r a b c t u x
theorem typeIs_lst {h : Heap} {l : Addr} {vs : Array Value} {s : Shared} (e : s.heap = h) (a : h.IsList l vs) : s.TypeIs (.ref l) "list" := by subst e; exact a.typeIs

section
variable {prog : Program} {w : World} {A : Around} {h₀ h₁ : Heap} {env : Env}

theorem LV.of {v : Value} {ns : List Int} {h : Heap} (x : NewL h₁ ns v h) : LV ns v h := x.lst
theorem Ev.lv {t : Sem Value} {ns : List Int} (h : Ev prog w A t h₀ (NewL h₁ ns)) : Ev prog w A t h₀ (LV ns) := h.mono fun _ _ _ x => x.lst
theorem Ev.nameL {x : Str} {l : Addr} {ns : List Int} {pos : Pos} (h : Has env h₀ x (.ref l)) (hl : Lst h₀ l ns) (hd : (x == ("__debug__" : Str)) = false := by decide) : Ev prog w A (eval (.Name x pos) env) h₀ (LV ns) :=
  (Ev.name h hd).mono fun v h' hs e => ⟨l, e, hl.up hs⟩
theorem Ev.lv_eq {t : Sem Value} {k k' : List Int} (h : Ev prog w A t h₀ (LV k)) (e : k = k') : Ev prog w A t h₀ (LV k') := e ▸ h
theorem Ev.new_eq {t : Sem Value} {k k' : List Int} (h : Ev prog w A t h₀ (NewL h₁ k)) (e : k = k') : Ev prog w A t h₀ (NewL h₁ k') := e ▸ h
theorem Ev.str_eq {t : Sem Value} {k k' : Str} (h : Ev prog w A t h₀ (IsS k)) (e : k = k') : Ev prog w A t h₀ (IsS k') := e ▸ h

/-- a call of a builtin type by its name -/
theorem Ev.callTy {f : Str} {T : String} {fp pos : Pos} {e : Expr} {rest : List Expr} {P : Value → Heap → Prop} {PL : List Value → Heap → Prop} (hf : Has env h₀ f (.type T)) (hd : (f == ("__debug__" : Str)) = false)
    (ha : Ev prog w A (spliced (backTo pos (starEach (e :: rest) env))) h₀ PL) (hc : ∀ vs h, Sub h₀ h → PL vs h → Ev prog w A (call (.type T) vs) h P)
    (he : starEach (e :: rest) env = (false, eval e env) :: starEach rest env := by rfl) (hplain : (backTo pos (starEach rest env)).any (·.1) = false := by rfl) :
    Ev prog w A (eval (.Call (.Name f fp) (e :: rest) [] pos) env) h₀ P :=
  fun s E hs => wpAny_Call_ofName (wpAny_Name (hf _ _ _ s _ hs (PyProof.Rows.callWith_type1 (wpAny_mono (ha s E hs) (fun vs s₁ hv =>
    wpAny_mono (hc vs s₁.heap (hs.tr hv.2.sub) hv.1.here s₁ E Sub.rfl') (fun _ _ hq => ⟨hq.1, hv.2.tr hq.2⟩) fun _ _ e => e) fun _ _ e => e) he hplain)) hd)

-- ranges
theorem Ev.range1 {n : Int} {t : Tok} : Ev prog w A (call (.type "range") [.int n t]) h₀ (IsR 0 n 1) :=
  Ev.of fun s E Q hs hq => call_range_1 (hq _ _ _ Sub.push fun h' k => ⟨_, _, _, _, rfl, k _ _ (Heap.get?_push_size _ rfl)⟩)
theorem Ev.range2 {a b : Int} {t u : Tok} : Ev prog w A (call (.type "range") [.int a t, .int b u]) h₀ (IsR a b 1) :=
  Ev.of fun s E Q hs hq => call_range_2 (hq _ _ _ Sub.push fun h' k => ⟨_, _, _, _, rfl, k _ _ (Heap.get?_push_size _ rfl)⟩)
theorem Ev.range3 {a b c : Int} {t u x : Tok} (hc : c ≠ 0) (hp : Builtin.divisionGoesByPylong (b - a) c = false) : Ev prog w A (call (.type "range") [.int a t, .int b u, .int c x]) h₀ (IsR a b c) :=
  Ev.of fun s E Q hs hq => call_range_3 hc (hq _ _ _ Sub.push fun h' k => ⟨_, _, _, _, rfl, k _ _ (Heap.get?_push_size _ rfl)⟩) (.inl hp)
theorem IsR.itr (hh : A.handled = none) {bad : List Addr} {a b c : Int} {v : Value} {h : Heap} {n : Nat} (x : IsR a b c v h) (hs : Builtin.Range.small a b c = true) (hn : Builtin.Range.rangeSize a b c = n) : Itr prog w A v h bad n (fun i v => ∃ t, v = .int (a + i * c) t) := by
  obtain ⟨r, t, u, x, rfl, hr⟩ := x
  exact Itr.range hh hr hs hn
theorem IsR.itr1 (hh : A.handled = none) {a b c : Int} {v : Value} {h : Heap} {n : Nat} (x : IsR a b c v h) (hs : Builtin.Range.small a b c = true) (hn : Builtin.Range.rangeSize a b c = n) : Itr1 prog w A v h n (fun i v => ∃ t, v = .int (a + i * c) t) := by
  obtain ⟨r, t, u, x, rfl, hr⟩ := x
  exact Itr1.range hh hr hs hn

section
variable {names : List (Str × NameKind)} {e e1 e2 e3 : Expr} {fp pos : Pos} {a b c : Int}
theorem Ev.rangeN1 (W : WW w h₀) (hE : EnvOk env names) (hn : names.lookup (Str.ofString "range") = some .globalImplicit) (h1 : Ev prog w A (eval e1 env) h₀ (IsI a))
    (he : starEach [e1] env = (false, eval e1 env) :: starEach [] env := by rfl) : Ev prog w A (eval (.Call (.Name (Str.ofString "range") fp) [e1] [] pos) env) h₀ (IsR 0 a 1) :=
  Ev.callTy (Has.built W hE hn rfl rfl (by decide)) (by decide) (Ev.args h1 Ev.args0 he) (fun vs h hs q => by
    obtain ⟨v, r, rfl, ⟨t, rfl⟩, rfl⟩ := q
    exact Ev.range1) he
theorem Ev.rangeN2 (W : WW w h₀) (hE : EnvOk env names) (hn : names.lookup (Str.ofString "range") = some .globalImplicit) (h1 : Ev prog w A (eval e1 env) h₀ (IsI a)) (h2 : Ev prog w A (eval e2 env) h₀ (IsI b))
    (he : starEach [e1, e2] env = (false, eval e1 env) :: starEach [e2] env := by rfl) (he2 : starEach [e2] env = (false, eval e2 env) :: starEach [] env := by rfl) (hp : (backTo pos (starEach [e2] env)).any (·.1) = false := by rfl) : Ev prog w A (eval (.Call (.Name (Str.ofString "range") fp) [e1, e2] [] pos) env) h₀ (IsR a b 1) :=
  Ev.callTy (Has.built W hE hn rfl rfl (by decide)) (by decide) (Ev.args h1 (Ev.args h2 Ev.args0 he2) he) (fun vs h hs q => by
    obtain ⟨v, r, rfl, ⟨t, rfl⟩, v2, r2, rfl, ⟨t2, rfl⟩, rfl⟩ := q
    exact Ev.range2) he hp
theorem Ev.rangeN3 (W : WW w h₀) (hE : EnvOk env names) (hn : names.lookup (Str.ofString "range") = some .globalImplicit) (h1 : Ev prog w A (eval e1 env) h₀ (IsI a)) (h2 : Ev prog w A (eval e2 env) h₀ (IsI b)) (h3 : Ev prog w A (eval e3 env) h₀ (IsI c))
    (hc : c ≠ 0) (hp : Builtin.divisionGoesByPylong (b - a) c = false)
    (he : starEach [e1, e2, e3] env = (false, eval e1 env) :: starEach [e2, e3] env := by rfl) (he2 : starEach [e2, e3] env = (false, eval e2 env) :: starEach [e3] env := by rfl) (he3 : starEach [e3] env = (false, eval e3 env) :: starEach [] env := by rfl) (hp' : (backTo pos (starEach [e2, e3] env)).any (·.1) = false := by rfl) : Ev prog w A (eval (.Call (.Name (Str.ofString "range") fp) [e1, e2, e3] [] pos) env) h₀ (IsR a b c) :=
  Ev.callTy (Has.built W hE hn rfl rfl (by decide)) (by decide) (Ev.args h1 (Ev.args h2 (Ev.args h3 Ev.args0 he3) he2) he) (fun vs h hs q => by
    obtain ⟨v, r, rfl, ⟨t, rfl⟩, v2, r2, rfl, ⟨t2, rfl⟩, v3, r3, rfl, ⟨t3, rfl⟩, rfl⟩ := q
    exact Ev.range3 hc hp) he hp'

-- builtin functions
/-- one argument, by name -/
theorem Ev.b1 {f : Str} {id : String} {Pa P : Value → Heap → Prop} (hf : Has env h₀ f (.builtin id)) (hd : (f == ("__debug__" : Str)) = false) (h1 : Ev prog w A (eval e1 env) h₀ Pa)
    (hc : ∀ v h, Sub h₀ h → Pa v h → Ev prog w A (call (.builtin id) [v]) h P) (he : starEach [e1] env = (false, eval e1 env) :: starEach [] env := by rfl) : Ev prog w A (eval (.Call (.Name f fp) [e1] [] pos) env) h₀ P :=
  Ev.callB hf hd (Ev.args h1 Ev.args0 he) (fun vs h hs q => by obtain ⟨v, r, rfl, hv, rfl⟩ := q; exact hc v h hs hv) he
theorem Ev.b2 {f : Str} {id : String} {Pa Pb P : Value → Heap → Prop} (hf : Has env h₀ f (.builtin id)) (hd : (f == ("__debug__" : Str)) = false) (h1 : Ev prog w A (eval e1 env) h₀ Pa) (h2 : Ev prog w A (eval e2 env) h₀ Pb)
    (hc : ∀ v u h, Sub h₀ h → Pa v h → Pb u h → Ev prog w A (call (.builtin id) [v, u]) h P) (he : starEach [e1, e2] env = (false, eval e1 env) :: starEach [e2] env := by rfl) (he2 : starEach [e2] env = (false, eval e2 env) :: starEach [] env := by rfl) (hp : (backTo pos (starEach [e2] env)).any (·.1) = false := by rfl) :
    Ev prog w A (eval (.Call (.Name f fp) [e1, e2] [] pos) env) h₀ P :=
  Ev.callB hf hd (Ev.args h1 (Ev.args h2 Ev.args0 he2) he) (fun vs h hs q => by obtain ⟨v, r, rfl, hv, v2, r2, rfl, hu, rfl⟩ := q; exact hc v v2 h hs hv hu) he hp
theorem Ev.lenL {ns : List Int} (W : WW w h₀) (hE : EnvOk env names) (hn : names.lookup (Str.ofString "len") = some .globalImplicit) (h1 : Ev prog w A (eval e1 env) h₀ (LV ns)) (hz : ns.length < 2 ^ 62) (he : starEach [e1] env = (false, eval e1 env) :: starEach [] env := by rfl) :
    Ev prog w A (eval (.Call (.Name (Str.ofString "len") fp) [e1] [] pos) env) h₀ (IsI ns.length) :=
  Ev.b1 (Has.built W hE hn rfl rfl (by decide)) (by decide) h1 (fun v h hs ⟨l, e, hl⟩ => e ▸ Ev.len hl hz) he
theorem Ev.sumL {ns : List Int} (hh : A.handled = none) (W : WW w h₀) (hE : EnvOk env names) (hn : names.lookup (Str.ofString "sum") = some .globalImplicit) (h1 : Ev prog w A (eval e1 env) h₀ (LV ns)) (he : starEach [e1] env = (false, eval e1 env) :: starEach [] env := by rfl) :
    Ev prog w A (eval (.Call (.Name (Str.ofString "sum") fp) [e1] [] pos) env) h₀ (IsI ns.sum) :=
  Ev.b1 (Has.built W hE hn rfl rfl (by decide)) (by decide) h1 (fun v h hs ⟨l, e, hl⟩ => e ▸ Ev.of fun s E Q hs' hq => by
    obtain ⟨vs, a, i⟩ := hl.up hs'
    obtain ⟨xs, hx⟩ := i.allInts.items
    rw [hx] at a
    refine sum_intListG hh a fun h' tk t' hk => ?_
    have e2 : preSum (numAt xs) xs.size = ns.sum := by
      rw [preSum_eq, List.take_of_length_le (by simp), ← nums_intItems, ← hx]
      exact congrArg List.sum i.numsOf
    rw [e2]
    exact hq _ _ _ hk IsI.box) he
theorem Ev.maxI (hh : A.handled = none) (W : WW w h₀) (hE : EnvOk env names) (hn : names.lookup (Str.ofString "max") = some .globalImplicit) (h1 : Ev prog w A (eval e1 env) h₀ (IsI a)) (h2 : Ev prog w A (eval e2 env) h₀ (IsI b))
    (he : starEach [e1, e2] env = (false, eval e1 env) :: starEach [e2] env := by rfl) (he2 : starEach [e2] env = (false, eval e2 env) :: starEach [] env := by rfl) (hp : (backTo pos (starEach [e2] env)).any (·.1) = false := by rfl) :
    Ev prog w A (eval (.Call (.Name (Str.ofString "max") fp) [e1, e2] [] pos) env) h₀ (IsI (max a b)) :=
  Ev.b2 (Has.built W hE hn rfl rfl (by decide)) (by decide) h1 h2 (fun v u h hs ⟨t, e⟩ ⟨t', e'⟩ => e ▸ e' ▸ Ev.of fun s E Q hs' hq => max_two_ints hh fun h' tk hk => by
    split
    · exact hq _ _ _ hk fun _ _ => ⟨t', by rw [Int.max_eq_right (by omega)]⟩
    · exact hq _ _ _ hk fun _ _ => ⟨t, by rw [Int.max_eq_left (by omega)]⟩) he he2 hp
theorem Ev.minI (hh : A.handled = none) (W : WW w h₀) (hE : EnvOk env names) (hn : names.lookup (Str.ofString "min") = some .globalImplicit) (h1 : Ev prog w A (eval e1 env) h₀ (IsI a)) (h2 : Ev prog w A (eval e2 env) h₀ (IsI b))
    (he : starEach [e1, e2] env = (false, eval e1 env) :: starEach [e2] env := by rfl) (he2 : starEach [e2] env = (false, eval e2 env) :: starEach [] env := by rfl) (hp : (backTo pos (starEach [e2] env)).any (·.1) = false := by rfl) :
    Ev prog w A (eval (.Call (.Name (Str.ofString "min") fp) [e1, e2] [] pos) env) h₀ (IsI (min a b)) :=
  Ev.b2 (Has.built W hE hn rfl rfl (by decide)) (by decide) h1 h2 (fun v u h hs ⟨t, e⟩ ⟨t', e'⟩ => e ▸ e' ▸ Ev.of fun s E Q hs' hq => min_two_ints hh fun h' tk hk => by
    split
    · exact hq _ _ _ hk fun _ _ => ⟨t', by rw [Int.min_eq_right (by omega)]⟩
    · exact hq _ _ _ hk fun _ _ => ⟨t, by rw [Int.min_eq_left (by omega)]⟩) he he2 hp
/-- the text of these octets -/
def tx (os : List Int) : Str := ⟨(os.map Int.toNat).toArray⟩
theorem Ev.chr (W : WW w h₀) (hE : EnvOk env names) (hn : names.lookup (Str.ofString "chr") = some .globalImplicit) (h1 : Ev prog w A (eval e1 env) h₀ (IsI a)) (h0 : 0 ≤ a) (hm : a ≤ 1114111)
    (he : starEach [e1] env = (false, eval e1 env) :: starEach [] env := by rfl) : Ev prog w A (eval (.Call (.Name (Str.ofString "chr") fp) [e1] [] pos) env) h₀ (IsS (tx [a])) :=
  Ev.b1 (Has.built W hE hn rfl rfl (by decide)) (by decide) h1 (fun v h hs ⟨t, e⟩ => e ▸ Ev.of0 fun s E Q hs' hq => chr_of_range h0 hm (hq _ _ fun _ _ => ⟨_, rfl⟩)) he
theorem Ev.ord {c : Nat} (W : WW w h₀) (hE : EnvOk env names) (hn : names.lookup (Str.ofString "ord") = some .globalImplicit) (h1 : Ev prog w A (eval e1 env) h₀ (IsS ⟨#[c]⟩))
    (he : starEach [e1] env = (false, eval e1 env) :: starEach [] env := by rfl) : Ev prog w A (eval (.Call (.Name (Str.ofString "ord") fp) [e1] [] pos) env) h₀ (IsI c) :=
  Ev.b1 (Has.built W hE hn rfl rfl (by decide)) (by decide) h1 (fun v h hs ⟨t, e⟩ => e ▸ Ev.of0 fun s E Q hs' hq => PySem.P.ord_of_char (hq _ _ IsI.box)) he
end
end

-- Y3
section
variable {prog : Program} {w : World} {A : Around} {h₀ h₁ : Heap} {env : Env} {names : List (Str × NameKind)} {e e1 e2 e3 : Expr} {fp pos p : Pos} {a b c : Int} {ns ms : List Int}

theorem fresh_size {h₀ h : Heap} (hs : Sub h₀ h) : h₀.get? h.objs.size = none := Sub.none hs get_size
-- slices
def IsSlc (lo hi : Option Int) (v : Value) (h : Heap) : Prop := ∃ sl vl vu, v = .ref sl ∧ h.IsSliceOf sl vl vu .none ∧ IsPart vl lo ∧ IsPart vu hi
def EvP (prog : Program) (w : World) (A : Around) (env : Env) (h₀ : Heap) (x : Option Expr) (lo : Option Int) : Prop := Ev prog w A (evalPart x env) h₀ (fun v _ => IsPart v lo)
theorem EvP.no : EvP prog w A env h₀ none none := Ev.ret fun _ _ => .none
theorem EvP.int (h : Ev prog w A (eval e env) h₀ (IsI a)) : EvP prog w A env h₀ (some e) (some a) := (show Ev prog w A (eval e env) h₀ _ from h).mono fun v _ _ ⟨t, q⟩ => q ▸ .int a t
theorem Ev.slc {lower upper : Option Expr} {lo hi : Option Int} (hl : EvP prog w A env h₀ lower lo) (hu : EvP prog w A env h₀ upper hi) : Ev prog w A (eval (.Slice lower upper none p) env) h₀ (IsSlc lo hi) := fun s E hs =>
  wpAny_Slice (wpAny_mono (hl s E hs) (fun v s₁ hv => wpAny_mono (hu s₁ E (hs.tr hv.2.sub)) (fun u s₂ hu' => by
    rw [evalPart_none]
    exact wpAny_pure ⟨fun h' k => ⟨_, v, u, rfl, let ⟨o, a, b, c⟩ := Heap.IsSliceOf.new s₂.heap v u .none; ⟨o, k _ _ a, b, c⟩, hv.1 _ Sub.rfl', hu'.1 _ Sub.rfl'⟩, hv.2.tr (hu'.2.tr (Kp.mk' Sub.push))⟩) fun _ _ e => e) fun _ _ e => e)
theorem Ev.slice {value : Expr} {lower upper : Option Expr} {lo hi : Option Int} (hv : Ev prog w A (eval value env) h₀ (LV ns)) (hl : EvP prog w A env h₀ lower lo) (hu : EvP prog w A env h₀ upper hi) (hsz : ns.length ≤ sizeLine) :
    Ev prog w A (eval (.Subscript value (.Slice lower upper none p) pos) env) h₀ (NewL h₀ (pickNums ns lo hi none)) :=
  fun s E hs => Subscript_ (wpAny_mono (hv s E hs) (fun v s₁ h1 => wpAny_mono (Ev.slc hl hu s₁ E (hs.tr h1.2.sub)) (fun u s₂ h2 => by
    obtain ⟨l, rfl, vs, hl, hi'⟩ := h1.1 _ h2.2.sub
    obtain ⟨sl, vl, vu, rfl, hsl, pl, pu⟩ := h2.1.here
    refine tail_any (ops := [.ref sl, .ref l]) hl.typeIs list_getitem_lookup (wpAny_getItem_list_slice hl hsl pl pu .none (by simp) ?_ (by rw [List.size_toArray, hi'.length]; exact hsz)) (by with_unfolding_all rfl)
    refine ⟨?_, h1.2.tr (h2.2.tr (Kp.mk' Sub.push))⟩
    refine NewL.box (vs := (slicePick vs.toArray lo hi none).toList) (n := 0) (fresh_size (hs.tr (h1.2.sub.tr h2.2.sub))) (Heap.get?_push_size _ rfl) (hi'.pick lo hi none)) fun _ _ e => e) fun _ _ e => e)

-- concatenation, repetition, displays
theorem Ev.addL (h1 : Ev prog w A (eval e1 env) h₀ (LV ns)) (h2 : Ev prog w A (eval e2 env) h₀ (LV ms)) (hsz : ns.length + ms.length ≤ sizeLine) : Ev prog w A (eval (.BinOp e1 .Add e2 pos) env) h₀ (NewL h₀ (ns ++ ms)) :=
  Ev.bin h1 h2 fun a b h hs x y => Ev.of fun s E Q hs' hq => by
    obtain ⟨l, rfl, vs, hl, hi⟩ := x
    obtain ⟨m, rfl, ws, hm, hj⟩ := y
    obtain ⟨⟨cls, dd, data, sl⟩, ho, hc, n, hd⟩ := IsList.up hl hs'
    obtain ⟨⟨cls2, dd2, data2, sl2⟩, ho2, hc2, n2, hd2⟩ := IsList.up hm hs'
    simp only at hc hd hc2 hd2
    subst hc hd hc2 hd2
    have e : vs.toArray ++ ws.toArray = (vs ++ ws).toArray := by simp
    have l1 := hi.length
    have l2 := hj.length
    refine concat_meets ⟨_, ho, rfl⟩ ⟨_, ho2, rfl⟩ noFill_list_add seq_list_add PySem.F.slot_list_add PySem.F.entry_list_add (PySem.F.args_list_add_2 _ _) (list_addW l m vs.toArray ws.toArray n n2 dd dd2 sl sl2 (by simp [l1, l2]; exact hsz)) ⟨ho, ho2, ?_⟩
    rw [e]
    exact hq _ _ _ Sub.push (NewL.box (fresh_size (hs.tr hs')) (Heap.get?_push_size _ rfl) (hi.append hj))
theorem IntsAre.rep {k : Int} {t : Tok} : ∀ n : Nat, IntsAre (List.replicate n (.int k t)) (List.replicate n k)
  | 0 => .nil
  | n + 1 => .cons _ _ (IntsAre.rep n)
theorem rep_fold (v : Value) (n : Nat) : List.foldl (fun x1 x2 => x1 ++ x2) #[] (List.replicate n #[v]) = (List.replicate n v).toArray := by
  have key : ∀ (n : Nat) (acc : Array Value), List.foldl (fun x1 x2 => x1 ++ x2) acc (List.replicate n #[v]) = acc ++ (List.replicate n v).toArray := by
    intro n
    induction n with
    | zero => intro acc; simp
    | succ n ih =>
      intro acc
      rw [List.replicate_succ, List.foldl_cons, ih, List.replicate_succ]
      apply Array.ext'
      simp
  simpa using key n #[]
/-- a list of one, exactly -/
def One (k : Int) (v : Value) (h : Heap) : Prop := ∃ l t n, v = .ref l ∧ h.get? l = some (lobj [.int k t] n)
theorem Ev.repL (h1 : Ev prog w A (eval e1 env) h₀ (One a)) (h2 : Ev prog w A (eval e2 env) h₀ (IsI b)) (hlo : -(2 ^ 63 : Int) ≤ b) (hsz : b ≤ 2 ^ 20) : Ev prog w A (eval (.BinOp e1 .Mult e2 pos) env) h₀ (NewL h₀ (List.replicate b.toNat a)) :=
  Ev.bin h1 h2 fun x y h hs hx hy => Ev.of fun s E Q hs' hq => by
    obtain ⟨l, t, n, rfl, hl⟩ := hx
    obtain ⟨u, rfl⟩ := hy
    have hl := hs' _ _ hl
    refine wpAny_binaryOp_repeat_ref (T := "list") (U := "int") (by decide) ⟨_, hl, rfl⟩ (fun s' => typeIs_int s' b u) noFill_list_mul PySem.F.fills_int_mul PySem.F.slot_int_rmul repeat_list PySem.F.slot_int_index.lookup
      (call_meets PySem.F.slot_int_rmul (typeIs_int s b u) PySem.F.entry_int_rmul (PySem.F.args_int_rmul_2 _ _) (int___rmul___int_list b u l _ n)
        ⟨hl, rfl, ⟨_, hl, rfl⟩, call_meets PySem.F.slot_list_mul ⟨_, hl, rfl⟩ PySem.F.entry_list_mul (PySem.F.args_list_mul_2 _ _)
          (AutoListH.list___mul___list_int_3 l _ n b u (by simp [Builtin.List.listFitsIndex]; omega) (by simp; omega) (by simp [Builtin.List.listTooLong, sizeLine]; omega))
          ⟨hl, hq _ _ _ Sub.push ?_⟩⟩)
    refine NewL.box (vs := List.replicate b.toNat (.int a t)) (n := 0) (fresh_size (hs.tr hs')) ?_ (IntsAre.rep _)
    rw [show (if ([Value.int a t].toArray).isEmpty = true then 0 else b.toNat) = b.toNat by simp, show [Value.int a t].toArray = #[Value.int a t] from rfl, rep_fold]
    exact Heap.get?_push_size _ rfl
theorem Ev.disp1 (h1 : Ev prog w A (eval e1 env) h₀ (IsI a)) (he : starEach [e1] env = (false, eval e1 env) :: starEach [] env := by rfl) : Ev prog w A (eval (.List [e1] pos) env) h₀ (One a) := fun s E hs =>
  wpAny_List_spliced (wpAny_mono (Ev.args (pos := pos) h1 Ev.args0 he s E hs) (fun vs s₁ hv => by
    obtain ⟨v, r, rfl, ⟨t, rfl⟩, rfl⟩ := hv.1.here
    exact ⟨(show 1 ≤ sizeLine by decide +kernel), fun h' k => ⟨_, t, 0, rfl, k _ _ (Heap.get?_push_size _ rfl)⟩, hv.2.tr (Kp.mk' Sub.push)⟩) fun _ _ e => e)
/-- arguments that are ints -/
theorem Ev.argsI {rest : List Expr} (h1 : Ev prog w A (eval e1 env) h₀ (IsI a)) (hr : Ev prog w A (spliced (backTo pos (starEach rest env))) h₀ (fun vs _ => IntsAre vs ns)) (he : starEach (e1 :: rest) env = (false, eval e1 env) :: starEach rest env := by rfl) :
    Ev prog w A (spliced (backTo pos (starEach (e1 :: rest) env))) h₀ (fun vs _ => IntsAre vs (a :: ns)) :=
  (Ev.args h1 hr he).mono fun vs h _ ⟨v, r, e, ⟨t, e'⟩, hi⟩ => by subst e; subst e'; exact .cons _ _ hi
theorem Ev.argsI0 : Ev prog w A (spliced (backTo pos (starEach [] env))) h₀ (fun vs _ => IntsAre vs []) := Ev.args0.mono fun vs _ _ e => by rw [e]; exact .nil
theorem Ev.dispL {elts : List Expr} (h : Ev prog w A (spliced (backTo pos (starEach elts env))) h₀ (fun vs _ => IntsAre vs ns)) (hsz : ns.length ≤ sizeLine) : Ev prog w A (eval (.List elts pos) env) h₀ (NewL h₀ ns) := fun s E hs =>
  wpAny_List_spliced (wpAny_mono (h s E hs) (fun vs s₁ hv => by
    have hi := hv.1.here
    exact ⟨by rw [hi.length]; exact hsz, NewL.box (n := 0) (fresh_size (hs.tr hv.2.sub)) (Heap.get?_push_size _ rfl) hi, hv.2.tr (Kp.mk' Sub.push)⟩) fun _ _ e => e)
/-- a tuple of ints -/
def TV (ns : List Int) (v : Value) (h : Heap) : Prop := ∃ l vs, v = .ref l ∧ h.IsTuple l vs ∧ IntsAre vs.toList ns
theorem Ev.dispT {elts : List Expr} {k : Nat} (h : Ev prog w A (spliced (backTo pos (starEach elts env))) h₀ (fun vs _ => IntsAre vs ns)) (hsz : ns.length ≤ sizeLine) : Ev prog w A (eval (.Tuple elts k pos) env) h₀ (TV ns) := fun s E hs =>
  wpAny_Tuple_spliced (wpAny_mono (h s E hs) (fun vs s₁ hv => by
    have hi := hv.1.here
    exact ⟨by rw [hi.length]; exact hsz, fun h' k => ⟨_, vs.toArray, rfl, ⟨_, k _ _ (Heap.get?_push_size _ rfl), rfl, 0, rfl⟩, hi⟩, hv.2.tr (Kp.mk' Sub.push)⟩) fun _ _ e => e)
theorem ints_eqAt {A : Around} {s : Shared} {vs : List Value} {ns : List Int} (hi : IntsAre vs ns) (k : Int) (t : Tok) : ∀ y ∈ vs, SeqAt.EqAt A s y (.int k t) (match y with | .int i _ => i == k | _ => false) := fun y hy => by
  obtain ⟨n, t', rfl⟩ := hi.all y hy
  exact (MeetsSeq.EqGives.int n k t' t).at A s
theorem ints_anyEq {k : Int} : ∀ {vs : List Value} {ns : List Int}, IntsAre vs ns → (vs.any fun y => match y with | .int i _ => i == k | _ => false) = ns.contains k
  | _, _, .nil => rfl
  | _, _, .cons n t h => by
    rw [List.any_cons, ints_anyEq h, List.contains_cons]
    congr 1
    exact Bool.eq_iff_iff.mpr ⟨fun q => by simpa using (beq_iff_eq.mp q).symm, fun q => by simpa using (beq_iff_eq.mp q).symm⟩
theorem Ev.inT {v u : Value} {h : Heap} (x : IsI a v h) (y : TV ns u h) : Ev prog w A (compareOp .In v u) h (IsB (ns.contains a)) := by
  obtain ⟨t, rfl⟩ := x
  obtain ⟨l, vs, rfl, ⟨o, ho, hc, n, hd⟩, hi⟩ := y
  refine Ev.of0 fun s E Q hs hq => SeqAt.in_tupleAt _ ⟨o, hs _ _ ho, hc, n, hd⟩ (fun y hy => ints_eqAt hi a t y (Array.mem_toList_iff.mpr hy)) ?_
  rw [← Array.any_toList, ints_anyEq hi]
  exact hq _ _ IsV.box
theorem Ev.notInT {v u : Value} {h : Heap} (x : IsI a v h) (y : TV ns u h) : Ev prog w A (compareOp .NotIn v u) h (IsB (!ns.contains a)) := by
  obtain ⟨t, rfl⟩ := x
  obtain ⟨l, vs, rfl, ⟨o, ho, hc, n, hd⟩, hi⟩ := y
  refine Ev.of0 fun s E Q hs hq => SeqAt.notIn_tupleAt _ ⟨o, hs _ _ ho, hc, n, hd⟩ (fun y hy => ints_eqAt hi a t y (Array.mem_toList_iff.mpr hy)) ?_
  rw [← Array.any_toList, ints_anyEq hi]
  exact hq _ _ IsV.box
end

-- Y4
section
variable {prog : Program} {w : World} {A : Around} {h₀ h₁ : Heap} {env : Env} {names : List (Str × NameKind)} {e e1 e2 e3 : Expr} {fp pos p p1 p2 : Pos} {a b c : Int} {ns ms : List Int} {x y : Str}

theorem Ev.itemL {value slice : Expr} {k : Int} (hx : Ev prog w A (eval value env) h₀ (LV ns)) (hk : Ev prog w A (eval slice env) h₀ (IsI k)) (h0 : 0 ≤ k) (h1 : k < ns.length) (h2 : k < 2 ^ 62)
    (hss : ∀ l u, subscripted slice false (.ref l) (.int k u) = operate [.ref l, .int k u] (getItem (.ref l) (.int k u)) := by intro _ _; with_unfolding_all rfl) :
    Ev prog w A (eval (.Subscript value slice pos) env) h₀ (IsI (ns.getD k.toNat 0)) :=
  Ev.sub0 hx hk fun a b h hs ⟨l, e, hl⟩ ⟨u, e'⟩ => by
    subst e; subst e'
    exact Ev.of0 fun s E Q hs' hq => by
      obtain ⟨vs, il, hi⟩ := hl.up hs'
      obtain ⟨t, hv⟩ := hi.get k.toNat _ (by rw [List.getElem?_eq_getElem (by omega)])
      refine tail_any il.typeIs list_getitem_lookup (wpAny_getItem_list il h0 (by omega) (by simpa using hv) ?_) (hss l u)
      have : ns.getD k.toNat 0 = ns[k.toNat]'(by omega) := by simp [List.getD, show k.toNat < ns.length by omega]
      rw [this] at hq
      exact hq _ _ IsI.box
theorem Ev.addS (h1 : Ev prog w A (eval e1 env) h₀ (IsS x)) (h2 : Ev prog w A (eval e2 env) h₀ (IsS y)) (hsz : x.length + y.length ≤ sizeLine) : Ev prog w A (eval (.BinOp e1 .Add e2 pos) env) h₀ (IsS (x ++ y)) :=
  Ev.bin h1 h2 fun a b h hs ⟨t, e⟩ ⟨u, e'⟩ => e ▸ e' ▸ Ev.of0 fun s E Q hs' hq => PyProof.Rows.add_str (fun t' tk => hq _ _ IsS.box) hsz
theorem Ev.cutS {v : Str} {vp : Pos} {k : Int} (h1 : Ev prog w A (eval (.Name v vp) env) h₀ (IsS x)) (h2 : Ev prog w A (eval e2 env) h₀ (IsI k)) (hsz : x.length ≤ sizeLine) : Ev prog w A (eval (.Subscript (.Name v vp) (.Slice none (some e2) none p) pos) env) h₀ (IsS (Txt.slice x none (some k))) :=
  fun s E hs => Subscript_ (wpAny_mono (h1 s E hs) (fun u s₁ q1 => by
    obtain ⟨t, rfl⟩ := q1.1.here
    refine wpAny_Slice ?_
    rw [evalPart_none]
    refine wpAny_pure ?_
    rw [evalPart_some]
    refine wpAny_mono (h2 s₁ E (hs.tr q1.2.sub)) (fun u s₂ q2 => ?_) fun _ _ e => e
    obtain ⟨t2, rfl⟩ := q2.1.here
    refine wpAny_pure ?_
    refine tail_of_ItemOn (SBH.sliceItem_ns (P := fun h => Sub s₂.heap h) (fun h ob k => k.tr Sub.push) Sub.rfl' (fun h' t' k kp => ⟨IsS.box, q1.2.tr (q2.2.tr (Kp.mk' kp))⟩) hsz) (by with_unfolding_all rfl) (by intro _; rfl)) fun _ _ e => e)

/-- ''.join of one-sign texts -/
theorem strs_of {os : List Int} {ys : List Value} (hl : ys.length = os.length) (h : ∀ (i : Nat) (y : Value), ys[i]? = some y → ∃ t, y = Value.str (tx [os.getD i 0]) t) : StrsAre ys (os.map fun o => tx [o]) := by
  induction ys generalizing os with
  | nil => cases os with
    | nil => exact .nil
    | cons o os => simp at hl
  | cons y ys ih => cases os with
    | nil => simp at hl
    | cons o os =>
      obtain ⟨t, rfl⟩ := h 0 _ rfl
      exact .cons _ t (ih (by simpa using hl) fun i y hy => h (i + 1) y (by simpa using hy))
theorem join_fold : ∀ (os : List Int) (acc : Array Nat), (os.map fun o => tx [o]).foldl (fun acc p => acc ++ (Str.ofString "").cps ++ p.cps) acc = acc ++ (os.map Int.toNat).toArray
  | [], acc => by simp
  | o :: os, acc => by
    rw [List.map_cons, List.foldl_cons, join_fold os]
    apply Array.ext'
    simp [tx, show (Str.ofString "").cps = #[] from rfl]
theorem join_tx (os : List Int) : Txt.join (Str.ofString "") (os.map fun o => tx [o]) = tx os := by
  cases os with
  | nil => rfl
  | cons o os =>
    show (⟨_⟩ : Str) = ⟨_⟩
    congr 1
    show (os.map fun o => tx [o]).foldl _ _ = _
    rw [join_fold]
    apply Array.ext'
    simp [tx]
theorem lengths_one : ∀ os : List Int, ((os.map fun o => tx [o]).map (·.length)).sum = os.length
  | [] => rfl
  | o :: os => by
    have ih := lengths_one os
    simp only [List.map_cons, List.sum_cons, List.length_cons]
    simp only [List.map_map] at ih ⊢
    rw [ih]
    show 1 + _ = _
    omega
theorem strs_pairs {ys : List Value} {xs : List Str} (h : StrsAre ys xs) : ∃ l : List (Str × Tok), ys = strValues l ∧ l.map (·.1) = xs := by
  induction h with
  | nil => exact ⟨[], rfl, rfl⟩
  | cons y t h ih =>
    obtain ⟨l, rfl, rfl⟩ := ih
    exact ⟨(y, t) :: l, rfl, rfl⟩

theorem Ev.joinE {os : List Int} {k : Nat} (h1 : Ev prog w A (eval e1 env) h₀ (ListR h₁ os.length fun i y => ∃ t, y = Value.str (tx [os.getD i 0]) t)) (hsz : os.length ≤ 1048576) (he : starEach [e1] env = [(false, eval e1 env)] := by rfl) (hline : (p2.endLine == pos.line) = true := by rfl) (hbase : attributeBase (.Constant (.str (Str.ofString "")) k p1) (Str.ofString "join") env (eval (.Constant (.str (Str.ofString "")) k p1) env) = eval (.Constant (.str (Str.ofString "")) k p1) env := by rfl) :
    Ev prog w A (eval (.Call (.Attribute (.Constant (.str (Str.ofString "")) k p1) (Str.ofString "join") p2) [e1] [] pos) env) h₀ (IsS (tx os)) := fun s E hs => by
  refine PySem.Call_method1 hbase he hline (Constant_str ?_)
  refine PySem.SB.join ?_
  refine wpAny_mono (h1 _ E hs) (fun v s₁ hv => ?_) fun _ _ e => e
  obtain ⟨l, ys, rfl, _, hl, hlen, hR⟩ := hv.1.here
  obtain ⟨ps, rfl, hp⟩ := strs_pairs (strs_of hlen hR)
  refine ⟨l, ps, rfl, ⟨_, hl, rfl, _, rfl⟩, _, hp, ?_, fun t' k => ?_⟩
  · refine joinOk_of ?_
    rw [lengths_one, show (Str.ofString "").length = 0 from rfl]
    omega
  · rw [join_tx]
    exact ⟨IsS.box, (Kp.mk' Sub.rfl' : Kp s { s with toks := _ }).tr (hv.2.tr (Kp.mk' Sub.rfl'))⟩

-- comparisons
theorem Ev.neI {v u : Value} {h : Heap} (x : IsI a v h) (y : IsI b u h) : Ev prog w A (compareOp .NotEq v u) h (IsB (a != b)) := by
  obtain ⟨t, rfl⟩ := x
  obtain ⟨t', rfl⟩ := y
  exact Ev.of0 fun s E Q hs hq => PyProof.Rows.ne_int (hq _ _ IsV.box)
theorem Ev.neN : Ev prog w A (compareOp .NotEq .none .none) h₀ (IsB false) := Ev.of0 fun s E Q hs hq => EqNone.ne_none_none (hq _ _ IsV.box)
theorem Ev.isN {v : Value} : Ev prog w A (compareOp .Is v .none) h₀ (IsB (v == .none)) := Ev.of0 fun s E Q hs hq => is_none_gen (hq _ _ IsV.box)
theorem Ev.eqS {v u : Value} {h : Heap} (h1 : IsS x v h) (h2 : IsS y u h) : Ev prog w A (compareOp .Eq v u) h (IsB (x == y)) := by
  obtain ⟨t, rfl⟩ := h1
  obtain ⟨t', rfl⟩ := h2
  exact Ev.of0 fun s E Q hs hq => PyProof.Rows.eq_str (hq _ _ IsV.box)
end

def ObjL (o : Obj) (ns : List Int) : Prop := o.cls = .type "list" ∧ ∃ n vs, o.data = .seq (List.toArray vs) n ∧ IntsAre vs ns
theorem ObjL.lobj {vs : List Value} {n : Nat} {ns : List Int} (i : IntsAre vs ns) : ObjL (lobj vs n) ns := ⟨rfl, n, vs, rfl, i⟩
section
variable {prog : Program} {w : World} {A : Around} {b : Heap} {env : Env} {vars cvars : List (Str × Value)} {news : List (Addr × Obj)} {s₀ s s' : Shared} {names : List (Str × NameKind)} {E : Value → Shared → Prop} {Q : Flow → Shared → Prop} {rest : List Stmt} {ns ms : List Int} {l : Addr} {o : Obj}

theorem Fm.lstO (F : Fm b env vars cvars news s₀ s) (h : (l, o) ∈ news) (i : ObjL o ns) : Lst s.heap l ns := let ⟨c, n, vs, d, hi⟩ := i; ⟨vs, ⟨o, F.get h, c, n, d⟩, hi⟩

/-- row[i] = v -/
theorem x_store {r : Str} {rp sp pos : Pos} {ie value : Expr} {k v : Int} (F : Fm b env vars cvars news s₀ s) (hv : Ev prog w A (eval value env) s.heap (IsI v)) (hr : Has env s.heap r (.ref l)) (hd : (r == ("__debug__" : Str)) = false)
    (hk : Ev prog w A (eval ie env) s.heap (IsI k)) (hl : (l, o) ∈ news) (ho : ObjL o ns) (h0 : 0 ≤ k) (h1 : k < ns.length) (h2 : k < 2 ^ 62)
    (cont : ∀ o' s', ObjL o' (ns.set k.toNat v) → Fm b env vars cvars ((l, o') :: news.filter fun p => p.1 != l) s₀ s' → But [l] s.heap s'.heap → wpAny (model prog w) A (execs rest env) Q E s')
    (hs : swapsWith value (some (.Subscript (.Name r rp) ie sp)) pos.line env = pure false := by rfl) :
    wpAny (model prog w) A (execs (.Assign [.Subscript (.Name r rp) ie sp] value pos :: rest) env) Q E s := by
  refine wpAny_execs_cons (wpAny_Assign_Subscript (hs := hs) (hv.use fun v' s₁ k₁ hb => ?_))
  obtain ⟨t, rfl⟩ := hb.here
  refine Ev.use' (Ev.name hr hd) k₁.sub fun rv s₂ k₂ hb2 => ?_
  have : rv = .ref l := hb2.here
  subst this
  refine hk.use' (k₁.sub.tr k₂.sub) fun kv s₃ k₃ hb3 => ?_
  obtain ⟨u, rfl⟩ := hb3.here
  have F₃ := ((F.kp k₁).kp k₂).kp k₃
  obtain ⟨c, n, vs, d, hi⟩ := ho
  refine wpAny_setItem_list ⟨o, F₃.get hl, c, n, d⟩ h0 (by omega) (by rw [List.size_toArray, hi.length]; omega) fun h' hl' sb => ?_
  obtain ⟨o', ho', hc', n', hd'⟩ := hl'
  have bt : But [l] s₃.heap h' := fun a oa ha hoa => (sb.2 a (by simpa using ha)).trans hoa
  refine cont o' _ ⟨hc', n', vs.set k.toNat (.int v t), ?_, ?_⟩ (F₃.upd hl (tk := s₃.toks) bt ho') fun a oa ha hoa => bt a oa ha (k₃.sub _ _ (k₂.sub _ _ (k₁.sub _ _ hoa)))
  · rw [hd']; congr 1; apply Array.ext'; simp
  · exact ints_set hi _ _ _
where
  ints_set : ∀ {vs : List Value} {ns : List Int}, IntsAre vs ns → ∀ (i : Nat) (v : Int) (t : Tok), IntsAre (vs.set i (.int v t)) (ns.set i v)
    | _, _, .nil, _, _, _ => .nil
    | _, _, .cons n t h, 0, v, u => .cons v u h
    | _, _, .cons n t h, i + 1, v, u => .cons n t (ints_set h i v u)

/-- row.extend(list) -/
theorem x_extend {r : Str} {rp ap pos pos' : Pos} {e : Expr} {vs : List Value} {n : Nat} (F : Fm b env vars cvars news s₀ s) (hE : EnvOk env names) (hr : Has env s.heap r (.ref l)) (hd : (r == ("__debug__" : Str)) = false)
    (he : Ev prog w A (eval e env) s.heap (NewL s.heap ms)) (hl : (l, lobj vs n) ∈ news) (ho : IntsAre vs ns) (hsz : ns.length + ms.length ≤ sizeLine)
    (cont : ∀ vs' n' s', IntsAre vs' (ns ++ ms) → Fm b env vars cvars ((l, lobj vs' n') :: news.filter fun p => p.1 != l) s₀ s' → But [l] s.heap s'.heap → wpAny (model prog w) A (execs rest env) Q E s')
    (hbase : attributeBase (.Name r rp) (Str.ofString "extend") env (eval (.Name r rp) env) = eval (.Name r rp) env := by rfl) (hs1 : starEach [e] env = [(false, eval e env)] := by rfl) (hline : (ap.endLine == pos.line) = true := by rfl)
    (hs : swapsWith (.Call (.Attribute (.Name r rp) (Str.ofString "extend") ap) [e] [] pos) none pos'.line env = pure false := by rfl) :
    wpAny (model prog w) A (execs (.Expr (.Call (.Attribute (.Name r rp) (Str.ofString "extend") ap) [e] [] pos) pos' :: rest) env) Q E s := by
  refine wpAny_execs_cons (wpAny_Expr (hi := hE.quiet) (hs := hs) ?_)
  refine PySem.Call_method1 hbase hs1 hline ?_
  refine Ev.use' (h₀ := s.heap) (Ev.name hr hd) Sub.rfl' fun rv s₁ k₁ hb => ?_
  have : rv = .ref l := hb.here
  subst this
  have F₁ := F.kp k₁
  have hl₁ := F₁.get hl
  refine ⟨"list", "list.extend", PySem.F.plainAttrs_list, PySem.F.slot_list_extend, PySem.F.type_list_extend, ⟨_, hl₁, rfl⟩, fun a e => by cases e; exact ⟨_, hl₁, rfl⟩, PySem.P.extend_list ?_⟩
  refine he.use' k₁.sub fun v s₂ k₂ hb₂ => ?_
  obtain ⟨m, ws, n2, rfl, hnew, hm, hj⟩ := hb₂.here
  have F₂ := F₁.kp k₂
  have hl₂ := F₂.get hl
  have l1 := ho.length
  have l2 := hj.length
  refine ⟨m, vs.toArray, ws.toArray, n, n2, by simp; omega, by simp; omega, extend_door (by simp; omega), rfl, hl₂, hm, ?_⟩
  have e : vs.toArray ++ ws.toArray = (vs ++ ws).toArray := by simp
  have ho' : (s₂.heap.update l (Obj.mapSeq fun x => x ++ ws.toArray)).get? l = some (lobj (vs ++ ws) (if (vs.toArray ++ ws.toArray).size == vs.toArray.size then n else n + 1)) := by
    rw [Heap.get?_update_self _ hl₂ (by rw [mapSeq_app]; rfl), mapSeq_app, e]
  have bt : But [l] s₂.heap (s₂.heap.update l (Obj.mapSeq fun x => x ++ ws.toArray)) := fun a oa ha hoa => (Heap.get?_update_ne _ _ _ _ (by simpa using ha)).trans hoa
  exact cont _ _ _ (ho.append hj) (F₂.upd hl (tk := s₂.toks) bt ho') fun a oa ha hoa => bt a oa ha (k₂.sub _ _ (k₁.sub _ _ hoa))

/-- a, b = tuple of two ints -/
theorem x_two {x y : Str} {px py tp pos : Pos} {kk : Nat} {value : Expr} {i j : Int} (F : Fm b env vars cvars news s₀ s) (hE : EnvOk env names) (hh : A.handled = none) (hlx : names.lookup x = some .local) (hly : names.lookup y = some .local)
    (hv : Ev prog w A (eval value env) s.heap (TV [i, j]))
    (cont : ∀ t u s', Fm b env ((y, .int j u) :: dropN y ((x, .int i t) :: dropN x vars)) cvars news s₀ s' → wpAny (model prog w) A (execs rest env) Q E s')
    (hs : swapsWithSole [.Tuple [.Name x px, .Name y py] kk tp] value pos.line env = pure false := by rfl) (hw : swappedStores [.Tuple [.Name x px, .Name y py] kk tp] value env = pure none := by rfl) :
    wpAny (model prog w) A (execs (.Assign [.Tuple [.Name x px, .Name y py] kk tp] value pos :: rest) env) Q E s := by
  refine wpAny_execs_cons (Assign_Tuple (hs := hs) (hw := hw) (hv.use fun v s₁ k₁ hb => ?_))
  obtain ⟨l, vs, rfl, ht, hi⟩ := hb.here
  obtain ⟨its, rfl⟩ : ∃ its : List Value, vs = its.toArray := ⟨vs.toList, by simp⟩
  rw [show its.toArray.toList = its from rfl] at hi
  cases hi with
  | cons _ t hi =>
    cases hi with
    | cons _ u hi =>
      cases hi
      refine wpAny_assign_Tuple hh ht rfl rfl fun h' hx => ?_
      have F₁ := (F.kp k₁).kp (⟨⟨h', s₁.toks, rfl⟩, fun c o e => hx c o (Nat.ne_of_lt (Heap.lt_size e)) e⟩ : Kp s₁ { s₁ with heap := h' })
      refine assignInOrder_cons (wpAny_assign_Name (F₁.store hE hlx fun s₂ F₂ _ => ?_))
      refine assignInOrder_cons (wpAny_assign_Name (F₂.store hE hly fun s₃ F₃ _ => ?_))
      exact assignInOrder_nil (cont t u s₃ F₃)
end

-- P2
theorem mulOk_of_bd {a b : Int} (h : (-(2^60) < a ∧ a < 2^60) ∨ (-(2^60) < b ∧ b < 2^60)) : IntMulOk a b := by
  rcases h with ⟨h, h'⟩ | ⟨h, h'⟩
  · exact IntMulOk.of_left (intBits_le_64 (by omega) (by omega))
  · exact IntMulOk.of_right (intBits_le_64 (by omega) (by omega))


local macro_rules | `(tactic| walk_at "side") => `(tactic| first | (with_reducible assumption) | omega | decide)
local macro_rules | `(tactic| walk_at "mul") => `(tactic| first | (with_reducible assumption) | exact IntMulOk.of_left (by decide) | exact IntMulOk.of_right (by decide) | exact mulOk_of_bd (.inl ⟨by omega, by omega⟩) | exact mulOk_of_bd (.inr ⟨by omega, by omega⟩) | exact IntMulOk.of_right (intBits_le_64 (by omega) (by omega)) | exact IntMulOk.of_left (intBits_le_64 (by omega) (by omega)))
local macro_rules | `(tactic| walk_at "ev") => `(tactic| first
  | (with_reducible assumption)
  | (with_reducible exact Ev.cInt)
  | ((with_reducible refine' Ev.nameI ?h1); (case h1 => walk_at "has"))
  | ((with_reducible refine' Ev.nameS ?h1); (case h1 => walk_at "has"))
  | ((with_reducible refine' Ev.add ?h1 ?h2); (case h1 => walk_at "ev"); (case h2 => walk_at "ev"))
  | ((with_reducible refine' Ev.sub ?h1 ?h2); (case h1 => walk_at "ev"); (case h2 => walk_at "ev"))
  | ((with_reducible refine' Ev.mul ?h1 ?h2 ?h3); (case h1 => walk_at "ev"); (case h2 => walk_at "ev"); (case h3 => walk_at "mul"))
  | ((with_reducible refine' Ev.mod ?h1 ?h2 ?h3); (case h1 => walk_at "ev"); (case h2 => walk_at "ev"); (case h3 => walk_at "side"))
  | ((with_reducible refine' Ev.fdiv ?h1 ?h2 ?h3 ?h4); (case h1 => walk_at "ev"); (case h2 => walk_at "ev"); (case h3 => walk_at "side"); (case h4 => walk_at "side"))
  | ((with_reducible refine' Ev.pow ?h1 ?h2 ?h3 ?h4 ?h5); (case h1 => walk_at "ev"); (case h2 => walk_at "ev"); (case h3 => walk_at "side"); (case h4 => walk_at "side"); (case h5 => walk_at "side"))
  | ((with_reducible refine' Ev.shl ?h1 ?h2 ?h3 ?h4 ?h5); (case h1 => walk_at "ev"); (case h2 => walk_at "ev"); (case h3 => walk_at "side"); (case h4 => walk_at "side"); (case h5 => walk_at "side"))
  | ((with_reducible refine' Ev.neg ?h1); (case h1 => walk_at "ev"))
  )

theorem ev_small {w : World} {A : Around} {h₀ : Heap} (W : WW w h₀) (hroom : A.depth < recursionLimit) {p b m : Int} {t u : Tok} (hb0 : 0 < b) (hb : b < 2 ^ 60) (hm : (8 : Int).fdiv b = m) (hm0 : 0 < m) (hm1 : m < 2 ^ 60) :
    Ev PySem.Challenge.rw_nz0176_01.prog w A (call (.ref 73) [.int p t, .int b u]) h₀ (TV [p.fdiv m, p.fmod m * b]) := by
  refine Ev.def [(PySem.Str.ofString "offset", .int p t), (PySem.Str.ofString "bits", .int b u)] [(PySem.Str.ofString "offset", .int p t), (PySem.Str.ofString "bits", .int b u)] [] W.K W.lim hroom rfl rfl rfl rfl rfl rfl rfl rfl rfl rfl rfl rfl rfl rfl rfl (fun _ h => h) (fun _ h => (nomatch h)) ?_
  intro env s₀ s hs hE hF F
  refine x_assignI F hE rfl (i := m) (Ev.int_eq (by walk_at "ev") hm) ?_
  intro tk s' F'
  refine x_retD (P := TV [p.fdiv m, p.fmod m * b]) F' (Ev.dispT (Ev.argsI ?_ (Ev.argsI ?_ Ev.argsI0)) (show 2 ≤ sizeLine by decide))
  · walk_at "ev"
  · walk_at "ev"

-- P1
def pick (ns : List Int) (p : Int) : Int := if p < ns.length then ns.getD p.toNat 0 else 3 * p + 1

theorem ev_pick {w : World} {A : Around} {h₀ : Heap} (W : WW w h₀) (hroom : A.depth < recursionLimit) {l : Addr} {ns : List Int} (hl : Lst h₀ l ns) (hz : ns.length < 2 ^ 62) {p : Int} {t : Tok} (h0 : 0 ≤ p) (h1 : p < 2 ^ 62) :
    Ev PySem.Challenge.rw_nz0176_01.prog w A (call (.ref 121) [.ref l, .int p t]) h₀ (IsI (pick ns p)) := by
  refine Ev.def [(PySem.Str.ofString "script", .ref l), (PySem.Str.ofString "place", .int p t)] [(PySem.Str.ofString "script", .ref l), (PySem.Str.ofString "place", .int p t)] [] W.K W.lim hroom rfl rfl rfl rfl rfl rfl rfl rfl rfl rfl rfl rfl rfl rfl rfl (fun _ h => h) (fun _ h => (nomatch h)) ?_
  intro env s₀ s hs hE hF F
  have W' := W.up (hs.tr F.keep)
  have hl' := hl.up (hs.tr F.keep)
  refine x_if0 F (Ev.ltT (Ev.nameI (by walk_at "has")) (Ev.lenN W' hE rfl (Ev.name (by walk_at "has")) hl' hz)) ?_ ?_
  · intro hc s' F' k'
    have hc' := of_decide_eq_true hc
    refine x_retD F' (Ev.int_eq (Ev.item (Ev.name (by walk_at "has")) (Ev.nameI (by walk_at "has")) (hl'.up k'.sub) h0 hc' h1) ?_)
    simp [pick, hc']
  · intro hc s' F' k'
    have hc' := of_decide_eq_false hc
    refine x_retD F' (Ev.int_eq (by walk_at "ev") ?_)
    simp [pick, hc']

-- P3
section
variable {prog : Program} {w : World} {A : Around} {h₀ h₁ : Heap} {env : Env} {names : List (Str × NameKind)}
theorem Ev.itrL {t : Sem Value} {ns : List Int} (hh : A.handled = none) (h : Ev prog w A t h₀ (LV ns)) : Ev prog w A t h₀ (fun xv h => Itr prog w A xv h [] ns.length (fun i v => ∃ k t, ns[i]? = some k ∧ v = .int k t)) :=
  h.mono fun v h' hs x => by obtain ⟨l, rfl, hl⟩ := x; exact Itr.ints hh hl (fun h => nomatch h)
theorem Ev.itrR {t : Sem Value} {a b : Int} {n : Nat} {bad : List Addr} (hh : A.handled = none) (h : Ev prog w A t h₀ (IsR a b 1)) (ha : -(2 ^ 62) ≤ a) (hb : b < 2 ^ 62) (hn : (b - a).toNat = n) (ha' : a < 2 ^ 62 := by omega) (hb' : -(2 ^ 62) ≤ b := by omega) : Ev prog w A t h₀ (fun xv h => Itr prog w A xv h bad n (fun i v => ∃ t, v = .int (a + i) t)) :=
  h.mono fun v h' hs x => by
    have y := IsR.itr (prog := prog) (w := w) (A := A) (bad := bad) (n := n) hh x (small_one ha ha' hb' hb) (by rw [rangeSize_nat]; exact congrArg Nat.cast hn)
    simpa only [Int.mul_one] using y
theorem Ev.itrR1 {t : Sem Value} {a b : Int} {n : Nat} (hh : A.handled = none) (h : Ev prog w A t h₀ (IsR a b 1)) (ha : -(2 ^ 62) ≤ a) (hb : b < 2 ^ 62) (hn : (b - a).toNat = n) (ha' : a < 2 ^ 62 := by omega) (hb' : -(2 ^ 62) ≤ b := by omega) : Ev prog w A t h₀ (fun xv h => Itr1 prog w A xv h n (fun i v => ∃ t, v = .int (a + i) t)) :=
  h.mono fun v h' hs x => by
    have y := IsR.itr1 (prog := prog) (w := w) (A := A) (n := n) hh x (small_one ha ha' hb' hb) (by rw [rangeSize_nat]; exact congrArg Nat.cast hn)
    simpa only [Int.mul_one] using y
theorem Ev.new_base {t : Sem Value} {ns : List Int} (h : Ev prog w A t h₁ (NewL h₁ ns)) (k : Sub h₀ h₁) : Ev prog w A t h₁ (NewL h₀ ns) := h.mono fun _ _ _ x => x.base k
theorem getD_of {ns : List Int} {i : Nat} {k : Int} (h : ns[i]? = some k) : ns.getD i 0 = k := by rw [List.getD_eq_getElem?_getD, h]; rfl
end

def bitAt (v : Int) (k : Nat) : Int := (v.fdiv (2 ^ k)).fmod 2
def bitsOf (os : List Int) : List Int := (List.range os.length).flatMap fun i => (List.range 8).map fun k => bitAt (os.getD i 0) k

theorem pow_pos' (k : Nat) : (0 : Int) < 2 ^ k := Int.pow_pos (by decide)
theorem pow_lt' {k m : Nat} (h : k < m) : (2 : Int) ^ k < 2 ^ m := by
  have := Nat.pow_lt_pow_right (a := 2) (by decide) h
  exact_mod_cast this

theorem ev_bitsOf {w : World} {A : Around} {h₀ : Heap} (W : WW w h₀) (hh : A.handled = none) (hroom : A.depth < recursionLimit) {l : Addr} {os : List Int} (hl : Lst h₀ l os) (hz : os.length ≤ 100) :
    Ev prg w A (call (.ref 126) [.ref l]) h₀ (NewL h₀ (bitsOf os)) := by
  refine Ev.def [(PySem.Str.ofString "octets", .ref l)] [(PySem.Str.ofString "octets", .ref l)] [] W.K W.lim hroom rfl rfl rfl rfl rfl rfl rfl rfl rfl rfl rfl rfl rfl rfl rfl (fun _ h => h) (fun _ h => (nomatch h)) ?_
  intro env s₀ s hs hE hF F
  have k₀ := hs.tr F.keep
  have W' := W.up k₀
  have hl' := hl.up k₀
  have hh' : (A.deeper env).handled = none := hh
  refine x_retD F (Ev.new_base (Ev.new_eq (Ev.comp2 (n1 := os.length) (n2 := 8) (P2 := fun i v => ∃ t, v = Value.int (0 + (i : Int)) t) (fun i k => bitAt (os.getD i 0) k) hE rfl (by decide) (by decide) (by decide) (by decide) (by decide) (by decide) (Ev.itrL hh' (Ev.nameL (by walk_at "has") hl')) (Nat.le_trans (Nat.mul_le_mul_right 8 hz) (by decide)) ?_ ?_) rfl) k₀)
  · intro cenv h hs' C
    exact Ev.itrR1 hh' (Ev.rangeN1 (W'.up hs') C.ok rfl Ev.cInt) (by decide) (by decide) (by decide)
  · intro i j v u cenv h hs' hi hj h1 h2 C n1 n2
    obtain ⟨k, t, hk, rfl⟩ := h1
    obtain ⟨t', rfl⟩ := h2
    have hp := pow_pos' j
    have hp2 : (2 : Int) ^ j < 2 ^ 60 := pow_lt' (by omega)
    have e : (0 + (j : Int)).toNat = j := by omega
    refine Ev.int_eq (k := (k.fdiv (2 ^ (0 + (j : Int)).toNat)).fmod 2) ?_ (by rw [e, getD_of hk]; rfl)
    rw [← e] at hp hp2
    walk_at "ev"

-- P4
theorem IntsAre.uniq : ∀ {vs : List Value} {ns ms : List Int}, IntsAre vs ns → IntsAre vs ms → ns = ms
  | _, _, _, .nil, .nil => rfl
  | _, _, _, .cons n t h, .cons _ _ h' => by rw [IntsAre.uniq h h']
theorem IntsAre.mk' : ∀ ns : List Int, IntsAre (ns.map fun n => .int n 0) ns
  | [] => .nil
  | n :: ns => .cons n 0 (IntsAre.mk' ns)
theorem pick_both (ns : List Int) {x y : Int} (h0 : 0 ≤ x) (h1 : x ≤ y) : pickNums ns (some x) (some y) none = (ns.drop x.toNat).take (y - x).toNat := by
  have h := IntsAre.uniq ((IntsAre.mk' ns).pick (some x) (some y) none) (slice_ints_plain (IntsAre.mk' ns) x y)
  rw [h]
  have cx : clipAt ns.length x = min x.toNat ns.length := by have := clipAt_cast ns.length x; rw [if_neg (by omega)] at this; omega
  have cy : clipAt ns.length y = min y.toNat ns.length := by have := clipAt_cast ns.length y; rw [if_neg (by omega)] at this; omega
  rw [cx, cy]
  by_cases hx : x.toNat ≤ ns.length
  · rw [Nat.min_eq_left hx]
    by_cases hy : y.toNat ≤ ns.length
    · rw [Nat.min_eq_left hy]; congr 1; omega
    · rw [Nat.min_eq_right (by omega), List.take_of_length_le (by simp), List.take_of_length_le (by simp; omega)]
  · rw [List.drop_of_length_le (i := min x.toNat ns.length) (by omega), List.drop_of_length_le (i := x.toNat) (by omega)]; simp
theorem pick_from (ns : List Int) {x : Int} (h0 : 0 ≤ x) : pickNums ns (some x) none none = ns.drop x.toNat :=
  IntsAre.uniq ((IntsAre.mk' ns).pick (some x) none none) (slice_ints_fromW (IntsAre.mk' ns) h0)
theorem pick_upto (ns : List Int) {x : Int} (h0 : 0 ≤ x) : pickNums ns none (some x) none = ns.take x.toNat :=
  IntsAre.uniq ((IntsAre.mk' ns).pick none (some x) none) (slice_ints_uptoW (IntsAre.mk' ns) h0)

section
variable {prog : Program} {w : World} {A : Around} {h₀ h₁ b : Heap} {env : Env} {names : List (Str × NameKind)} {vars cvars : List (Str × Value)} {news : List (Addr × Obj)} {s₀ s : Shared} {rest : List Stmt} {Q : Flow → Shared → Prop} {E : Value → Shared → Prop}
theorem x_assignLN {x : Str} {xp pos : Pos} {value : Expr} {ns : List Int} (F : Fm b env vars cvars news s₀ s) (e : EnvOk env names) (hl : names.lookup x = some .local) (hv : Ev prog w A (eval value env) s.heap (NewL s.heap ns))
    (k : ∀ l vs n s', IntsAre vs ns → s.heap.get? l = none → Fm b env ((x, .ref l) :: dropN x vars) cvars ((l, lobj vs n) :: news) s₀ s' → wpAny (model prog w) A (execs rest env) Q E s')
    (hs : swapsWith value (some (.Name x xp)) pos.line env = pure false := by rfl) :
    wpAny (model prog w) A (execs (.Assign [.Name x xp] value pos :: rest) env) Q E s :=
  wpAny_execs_cons (wpAny_Assign_Name (hs := hs) (hv.use fun v s₁ k₁ hb => by
    obtain ⟨l, vs, n, rfl, hf, ho, hi⟩ := hb.here
    exact (F.join hf k₁ ho).store e hl fun s' F' _ => k l vs n s' hi hf F'))
/-- x += a new list, x a list of ours -/
theorem x_augL {x : Str} {xp pos : Pos} {value : Expr} {l : Addr} {ns ms : List Int} {vs : List Value} {n : Nat} (F : Fm b env vars cvars news s₀ s) (e : EnvOk env names) (hl : names.lookup x = some .local) (hm : (x, .ref l) ∈ vars) (hln : (l, lobj vs n) ∈ news) (ho : IntsAre vs ns)
    (hv : Ev prog w A (eval value env) s.heap (NewL s.heap ms)) (hsz : ns.length + ms.length ≤ sizeLine)
    (k : ∀ vs' n' s', IntsAre vs' (ns ++ ms) → Fm b env ((x, .ref l) :: dropN x vars) cvars ((l, lobj vs' n') :: news.filter fun p => p.1 != l) s₀ s' → wpAny (model prog w) A (execs rest env) Q E s') :
    wpAny (model prog w) A (execs (.AugAssign (.Name x xp) .Add value pos :: rest) env) Q E s :=
  wpAny_execs_cons (wpAny_AugAssign_Name (F.has e hm hl _ _ _ s _ Sub.rfl' (hv.use fun v s₁ k₁ hb => by
    obtain ⟨m, ws, n2, rfl, hnew, hmm, hj⟩ := hb.here
    have F₂ := F.kp k₁
    have hl₂ := F₂.get hln
    have l1 := ho.length
    have l2 := hj.length
    refine iadd_lists hl₂ hmm (by simp; omega) ?_
    have e' : vs.toArray ++ ws.toArray = (vs ++ ws).toArray := by simp
    have ho' : (s₁.heap.update l (Obj.mapSeq fun x => x ++ ws.toArray)).get? l = some (lobj (vs ++ ws) (if (vs.toArray ++ ws.toArray).size == vs.toArray.size then n else n + 1)) := by
      rw [Heap.get?_update_self _ hl₂ (by rw [mapSeq_app]; rfl), mapSeq_app, e']
    have bt : But [l] s₁.heap (s₁.heap.update l (Obj.mapSeq fun x => x ++ ws.toArray)) := fun a oa ha hoa => (Heap.get?_update_ne _ _ _ _ (by simpa using ha)).trans hoa
    exact (F₂.upd hln (tk := s₁.toks) bt ho').store e hl fun s' F' _ => k _ _ _ (ho.append hj) F')))
theorem Fm.notHidden (F : Fm b env vars cvars news s₀ s) (hcn : CellsOne env) {l : Addr} {o : Obj} {mu : List (Addr × Obj)} (hl : (l, o) ∈ news) (hm : l ∉ mu.map (·.1)) : l ∉ hidden env mu := by
  obtain ⟨_, _, h1, h2⟩ := F.nw _ hl
  intro h
  rcases List.mem_cons.mp h with h | h
  · exact h1 h
  · rcases List.mem_append.mp h with h | h
    · obtain ⟨p, hp, e⟩ := List.mem_map.mp h
      exact h2 p.1 p.2 (hcn _ _ hp) e.symm
    · exact hm h
theorem Fm.baseHidden (F : Fm b env vars cvars news s₀ s) (hcn : CellsOne env) {l : Addr} {o : Obj} {mu : List (Addr × Obj)} (hl : b.get? l = some o) (hm : ∀ p ∈ mu, p ∈ news) : l ∉ hidden env mu := by
  intro h
  rcases List.mem_cons.mp h with h | h
  · rw [h, F.locNew] at hl; cases hl
  · rcases List.mem_append.mp h with h | h
    · obtain ⟨p, hp, e⟩ := List.mem_map.mp h
      rw [← e, (F.celOk p.1 p.2 (hcn _ _ hp)).2.1] at hl; cases hl
    · obtain ⟨p, hp, e⟩ := List.mem_map.mp h
      rw [← e, (F.nw p (hm p hp)).2.1] at hl; cases hl
end

-- P5
def SZ (b : Nat) : Prop := b = 1 ∨ b = 2 ∨ b = 4 ∨ b = 8 ∨ b = 16 ∨ b = 32 ∨ b = 64
def PB (b : Nat) : Prop := b < 9 ∨ b = 16 ∨ b = 32 ∨ b = 64
theorem SZ.one {b : Nat} (h : SZ b) : 1 ≤ b := by unfold SZ at h; rcases h with rfl | rfl | rfl | rfl | rfl | rfl | rfl <;> decide
theorem SZ.le {b : Nat} (h : SZ b) : b ≤ 64 := by unfold SZ at h; rcases h with rfl | rfl | rfl | rfl | rfl | rfl | rfl <;> decide
theorem SZ.pb {b : Nat} (h : SZ b) : PB b := by unfold SZ at h; unfold PB; rcases h with rfl | rfl | rfl | rfl | rfl | rfl | rfl <;> decide
theorem SZ.m {b : Nat} (h : SZ b) : b < 8 ∨ b % 8 = 0 := by unfold SZ at h; rcases h with rfl | rfl | rfl | rfl | rfl | rfl | rfl <;> decide
theorem PB.le {b : Nat} (h : PB b) : b ≤ 64 := by unfold PB at h; rcases h with h | rfl | rfl | rfl <;> omega
def clip (row : List Int) (p b : Nat) : List Int := ((row.drop p).take b ++ List.replicate b 0).take b
def turnUp (p : List Int) (b i : Nat) : List Int := (List.range i).flatMap fun j => (p.drop (b - 8 - 8 * j)).take 8
def pieceN (row : List Int) (p b : Nat) : List Int := if 8 < b then turnUp (clip row p b) b (b / 8) else clip row p b
theorem clip_len (row : List Int) (p b : Nat) : (clip row p b).length = b := by unfold clip; simp
theorem turnUp_succ (p : List Int) (b i : Nat) : turnUp p b (i + 1) = turnUp p b i ++ (p.drop (b - 8 - 8 * i)).take 8 := by unfold turnUp; rw [List.range_succ]; simp
theorem turnUp_len {p : List Int} {b : Nat} : ∀ i, 8 * i ≤ b → b ≤ p.length → (turnUp p b i).length = 8 * i
  | 0, _, _ => rfl
  | i + 1, h, h' => by
    rw [turnUp_succ, List.length_append, turnUp_len i (by omega) h']
    simp; omega
theorem pieceN_len {row : List Int} {p b : Nat} (hb : b < 8 ∨ b % 8 = 0) : (pieceN row p b).length = b := by
  unfold pieceN
  split
  · rw [turnUp_len _ (by omega) (by rw [clip_len]; exact Nat.le_refl _)]; omega
  · exact clip_len _ _ _
theorem noCells {env : Env} {names : List (Str × NameKind)} (hF : FrOk env names) (h : cellsFrom (env.locals + 1) names [] = []) : CellsOne env := by
  intro n c hm
  rw [hF.cells, h] at hm
  cases hm

theorem ev_piece {w : World} {A : Around} {h₀ : Heap} (W : WW w h₀) (hh : A.handled = none) (hroom : A.depth < recursionLimit) {l : Addr} {row : List Int} {o : Int} {b : Nat} {t u : Tok} (hl : Lst h₀ l row) (hz : row.length ≤ 10000) (h0 : 0 ≤ o) (h1 : o < 2 ^ 40) (hb : PB b) :
    Ev prg w A (call (.ref 133) [.ref l, .int o t, .int b u]) h₀ (NewL h₀ (pieceN row (o * b).toNat b)) := by
  refine Ev.def [(PySem.Str.ofString "row", .ref l), (PySem.Str.ofString "offset", .int o t), (PySem.Str.ofString "bits", .int b u)] [(PySem.Str.ofString "row", .ref l), (PySem.Str.ofString "offset", .int o t), (PySem.Str.ofString "bits", .int b u)] [] W.K W.lim hroom rfl rfl rfl rfl rfl rfl rfl rfl rfl rfl rfl rfl rfl rfl rfl (fun _ h => h) (fun _ h => (nomatch h)) ?_
  intro env s₀ s hs hE hF F
  have k₀ := hs.tr F.keep
  have W' := W.up k₀
  have hl' := hl.up k₀
  have hh' : (A.deeper env).handled = none := hh
  have hcn := noCells hF rfl
  have hb64' := hb.le
  have hb64 : (b : Int) ≤ 64 := by omega
  have ob0 : 0 ≤ o * b := Int.mul_nonneg h0 (by omega)
  have hsl : ∀ n : Nat, n ≤ 20000 → n ≤ sizeLine := fun n h => Nat.le_trans h (by decide)
  have key : pickNums (pickNums row (some (o * b)) (some (o * b + b)) none ++ List.replicate ((b : Int).toNat) 0) none (some (b : Int)) none = clip row (o * b).toNat b := by
    rw [pick_both _ ob0 (by omega), pick_upto _ (by omega)]
    have : (o * b + b - o * b).toNat = b := by omega
    rw [this]
    rfl
  refine x_assignLN F hE rfl (Ev.new_eq (Ev.slice (Ev.lv (Ev.addL (Ev.lv (Ev.slice (Ev.nameL (by walk_at "has") hl') (EvP.int (a := o * b) (by walk_at "ev")) (EvP.int (a := o * b + b) (by walk_at "ev")) (hsl _ (by omega)))) (Ev.lv (Ev.repL (Ev.disp1 (a := 0) (by walk_at "ev")) (b := b) (by walk_at "ev") (by omega) (by omega))) ?_)) EvP.no (EvP.int (a := b) (by walk_at "ev")) ?_) key) ?_
  · rw [pick_both _ ob0 (by omega)]; simp; exact hsl _ (by omega)
  · rw [pick_both _ ob0 (by omega)]; simp; exact hsl _ (by omega)
  intro pl pvs pn s₁ hpi hpf F₁
  refine x_if0 F₁ (Ev.gtT (by walk_at "ev") (by walk_at "ev")) ?_ ?_
  · intro hc s₂ F₂ k₂
    have hc' : 8 < b := by have := of_decide_eq_true hc; omega
    refine x_assignLN (ns := []) F₂ hE rfl (Ev.dispL Ev.argsI0 (by decide)) ?_
    intro tl tvs tn s₃ hti htf F₃
    have hne : pl ≠ tl := fun e => by have := F₂.get (l := pl) (by walk_at "mem"); rw [e, htf] at this; cases this
    refine x_for (n := b / 8) (P := fun i v => ∃ t, v = Value.int ((b : Int) - 8 + i * (-8)) t) (σ := List Value × Nat) (fun i z => IntsAre z.1 (turnUp (clip row (o * b).toNat b) b i))
      (fun i z => [(PySem.Str.ofString "piece", .ref pl), (PySem.Str.ofString "turned", .ref tl)]) (fun i z => [(tl, lobj z.1 z.2)]) [(tl, lobj tvs tn)] [] F₃ hE rfl hcn ?_ ?_ ?_ ?_ ?_ ?_
    · refine (Ev.rangeN3 (a := (b : Int) - 8) (b := -1) (c := -8) ((W.up hs).up F₃.keep) hE rfl (by walk_at "ev") (by walk_at "ev") (by walk_at "ev") (by decide) ?_).mono ?_
      · unfold PB at hb
        rcases hb with h | rfl | rfl | rfl
        · omega
        all_goals decide +kernel
      · intro v h' hs' x
        refine IsR.itr hh' x ?_ ?_
        · unfold PB at hb
          rcases hb with h | rfl | rfl | rfl
          · omega
          all_goals decide +kernel
        · unfold PB at hb
          rcases hb with h | rfl | rfl | rfl
          · omega
          all_goals decide +kernel
    · intro p hp
      simp only [List.mem_singleton] at hp
      subst hp
      walk_at "mem"
    · intro p hp; cases hp
    · refine ⟨(tvs, tn), hti, ?_, ?_⟩
      · intro p hp
        simp only [List.mem_cons, List.not_mem_nil, or_false] at hp
        rcases hp with rfl | rfl <;> walk_at "mem"
      · intro p hp; exact hp
    · intro b' i z v s' io hbb hkeep hio hi hK hP F'
      obtain ⟨t', rfl⟩ := hP
      have hlp : Lst s'.heap pl (clip row (o * b).toNat b) := by
        refine Lst.up (Lst.mk' (hkeep _ _ (F₃.get (l := pl) (by walk_at "mem")) (F₃.notHidden hcn (l := pl) (by walk_at "mem") (by simpa using hne))) hpi) F'.keep
      have hiot : tl ≠ io.1 := hio _ _ (F₃.get (by walk_at "mem"))
      refine x_augL (vs := z.1) (n := z.2) F' hE rfl (by walk_at "mem") (by walk_at "mem") hK (Ev.slice (Ev.nameL (by walk_at "has") hlp) (EvP.int (by walk_at "ev")) (EvP.int (by walk_at "ev")) (hsl _ (by rw [clip_len]; omega))) ?_ ?_
      · rw [pick_both _ (by omega) (by omega), turnUp_len _ (by omega) (by rw [clip_len]; exact Nat.le_refl _)]
        simp only [List.length_take, List.length_drop, clip_len]
        exact hsl _ (by omega)
      · intro vs' n' s'' hi' F''
        refine x_nil ⟨(vs', n'), ?_, F''.sub ?_ ?_ ?_, ?_⟩
        · rw [turnUp_succ]
          rw [pick_both _ (by omega) (by omega)] at hi'
          have e1 : ((b : Int) - 8 + i * (-8)).toNat = b - 8 - 8 * i := by omega
          have e2 : ((b : Int) - 8 + i * (-8) + 8 - ((b : Int) - 8 + i * (-8))).toNat = 8 := by omega
          rw [e1, e2] at hi'
          exact hi'
        · intro p hp
          simp only [List.mem_cons, List.not_mem_nil, or_false] at hp
          rcases hp with rfl | rfl <;> walk_at "mem"
        · intro p hp; exact hp
        · intro p hp
          simp only [List.mem_cons, List.not_mem_nil, or_false] at hp
          rcases hp with rfl | rfl
          · refine List.mem_cons_of_mem _ (List.mem_filter.mpr ⟨List.mem_cons_self, by simpa using fun e => hiot e.symm⟩)
          · exact List.mem_cons_self
        · intro p hp
          simp only [List.mem_cons, List.not_mem_nil, or_false] at hp
          subst hp
          exact hiot
    · intro z s' hK F'
      refine x_assignR F' hE rfl (Ev.name (by walk_at "has")) ?_
      intro s'' F''
      refine x_nil ?_
      refine x_retD F'' (P := NewL h₀ (pieceN row (o * b).toNat b)) ((Ev.name (by walk_at "has")).mono ?_)
      intro v h' hs' hv
      have : v = .ref tl := hv
      subst this
      refine ⟨tl, z.1, z.2, rfl, ?_, hs' _ _ (F''.get (List.mem_append_left _ List.mem_cons_self)), ?_⟩
      · exact Sub.none hs (F''.nw (tl, lobj z.1 z.2) (List.mem_append_left _ List.mem_cons_self)).2.1
      · unfold pieceN; rw [if_pos hc']; exact hK
  · intro hc s₂ F₂ k₂
    have hc' : ¬ 8 < b := by have := of_decide_eq_false hc; omega
    refine x_retD F₂ (P := NewL h₀ (pieceN row (o * b).toNat b)) ((Ev.name (by walk_at "has")).mono ?_)
    intro v h' hs' hv
    have : v = .ref pl := hv
    subst this
    refine ⟨pl, pvs, pn, rfl, ?_, hs' _ _ (F₂.get (by walk_at "mem")), ?_⟩
    · exact Sub.none hs (F₂.nw (pl, lobj pvs pn) (by walk_at "mem")).2.1
    · unfold pieceN; rw [if_neg hc']; exact hpi

-- P6
section
variable {w : World} {A : Around} {h₀ h₁ : Heap} {env : Env} {names : List (Str × NameKind)} {e1 e2 e3 e4 e5 : Expr} {fp pos : Pos} {P1 P2 P3 P4 P5 P : Value → Heap → Prop}
theorem Ev.d1 {f : Str} {a : Addr} (W : WW w h₀) (hE : EnvOk env names) (hl : names.lookup f = some .globalImplicit) (h1 : Ev prg w A (eval e1 env) h₀ P1)
    (hc : ∀ v1 h, Sub h₀ h → P1 v1 h → Ev prg w A (call (.ref a) [v1]) h P)
    (hn : nsIn (hd.heap_39 w.params) mainGlobals f = some (some (.ref a)) := by rfl) (hk : keepIn (hd.heap_39 w.params) (.ref a) = true := by rfl) (hd' : (f == ("__debug__" : Str)) = false := by decide)
    (he : starEach [e1] env = (false, eval e1 env) :: starEach [] env := by rfl) : Ev prg w A (eval (.Call (.Name f fp) [e1] [] pos) env) h₀ P := by
  refine Ev.callD W (Has.glob W hE hl hn) hk hd' (Ev.args h1 Ev.args0 he) ?_ he rfl
  rintro vs h hs ⟨v1, r, rfl, p1, rfl⟩
  exact hc v1 h hs p1
theorem Ev.d2 {f : Str} {a : Addr} (W : WW w h₀) (hE : EnvOk env names) (hl : names.lookup f = some .globalImplicit) (h1 : Ev prg w A (eval e1 env) h₀ P1) (h2 : Ev prg w A (eval e2 env) h₀ P2)
    (hc : ∀ v1 v2 h, Sub h₀ h → P1 v1 h → P2 v2 h → Ev prg w A (call (.ref a) [v1, v2]) h P)
    (hn : nsIn (hd.heap_39 w.params) mainGlobals f = some (some (.ref a)) := by rfl) (hk : keepIn (hd.heap_39 w.params) (.ref a) = true := by rfl) (hd' : (f == ("__debug__" : Str)) = false := by decide)
    (he : starEach [e1, e2] env = (false, eval e1 env) :: starEach [e2] env := by rfl) (he2 : starEach [e2] env = (false, eval e2 env) :: starEach [] env := by rfl)
    (hp : (backTo pos (starEach [e2] env)).any (·.1) = false := by rfl) : Ev prg w A (eval (.Call (.Name f fp) [e1, e2] [] pos) env) h₀ P := by
  refine Ev.callD W (Has.glob W hE hl hn) hk hd' (Ev.args h1 (Ev.args h2 Ev.args0 he2) he) ?_ he hp
  rintro vs h hs ⟨v1, r, rfl, p1, v2, r2, rfl, p2, rfl⟩
  exact hc v1 v2 h hs p1 p2
theorem Ev.d3 {f : Str} {a : Addr} (W : WW w h₀) (hE : EnvOk env names) (hl : names.lookup f = some .globalImplicit) (h1 : Ev prg w A (eval e1 env) h₀ P1) (h2 : Ev prg w A (eval e2 env) h₀ P2) (h3 : Ev prg w A (eval e3 env) h₀ P3)
    (hc : ∀ v1 v2 v3 h, Sub h₀ h → P1 v1 h → P2 v2 h → P3 v3 h → Ev prg w A (call (.ref a) [v1, v2, v3]) h P)
    (hn : nsIn (hd.heap_39 w.params) mainGlobals f = some (some (.ref a)) := by rfl) (hk : keepIn (hd.heap_39 w.params) (.ref a) = true := by rfl) (hd' : (f == ("__debug__" : Str)) = false := by decide)
    (he : starEach [e1, e2, e3] env = (false, eval e1 env) :: starEach [e2, e3] env := by rfl) (he2 : starEach [e2, e3] env = (false, eval e2 env) :: starEach [e3] env := by rfl) (he3 : starEach [e3] env = (false, eval e3 env) :: starEach [] env := by rfl)
    (hp : (backTo pos (starEach [e2, e3] env)).any (·.1) = false := by rfl) : Ev prg w A (eval (.Call (.Name f fp) [e1, e2, e3] [] pos) env) h₀ P := by
  refine Ev.callD W (Has.glob W hE hl hn) hk hd' (Ev.args h1 (Ev.args h2 (Ev.args h3 Ev.args0 he3) he2) he) ?_ he hp
  rintro vs h hs ⟨v1, r, rfl, p1, v2, r2, rfl, p2, v3, r3, rfl, p3, rfl⟩
  exact hc v1 v2 v3 h hs p1 p2 p3
end
theorem ints_of {f : Nat → Int} {ys : List Value} {n : Nat} (hl : ys.length = n) (h : ∀ (i : Nat) (y : Value), ys[i]? = some y → ∃ t, y = Value.int (f i) t) : IntsAre ys ((List.range n).map f) := by
  induction ys generalizing n f with
  | nil => subst hl; exact .nil
  | cons y ys ih =>
    subst hl
    rw [List.length_cons, List.range_succ_eq_map, List.map_cons, List.map_map]
    obtain ⟨t, rfl⟩ := h 0 y rfl
    exact .cons _ t (ih rfl fun i y hy => h (i + 1) y (by simpa using hy))
theorem Ev.ints {prog : Program} {w : World} {A : Around} {h₀ h₁ : Heap} {t : Sem Value} {n : Nat} {f : Nat → Int} (h : Ev prog w A t h₀ (ListR h₁ n fun i y => ∃ t, y = Value.int (f i) t)) : Ev prog w A t h₀ (NewL h₁ ((List.range n).map f)) :=
  h.mono fun v h' hs x => by
    obtain ⟨l, ys, rfl, hn, ho, hlen, hR⟩ := x
    exact ⟨l, ys, ys.length, rfl, hn, ho, ints_of hlen hR⟩

def number (row : List Int) (o : Int) (b : Nat) : Int := if o < 0 then 0 else ((List.range b).map fun k => (pieceN row (o * b).toNat b).getD k 0 * 2 ^ k).sum

theorem ev_number {w : World} {A : Around} {h₀ : Heap} (W : WW w h₀) (hh : A.handled = none) (hroom : A.depth + 1 < recursionLimit) {l : Addr} {row : List Int} {o : Int} {b : Nat} {t u : Tok} (hl : Lst h₀ l row) (hz : row.length ≤ 10000) (h1 : o < 2 ^ 40) (hb : SZ b) :
    Ev prg w A (call (.ref 138) [.ref l, .int o t, .int b u]) h₀ (IsI (number row o b)) := by
  refine Ev.def [(PySem.Str.ofString "row", .ref l), (PySem.Str.ofString "offset", .int o t), (PySem.Str.ofString "bits", .int b u)] [(PySem.Str.ofString "row", .ref l), (PySem.Str.ofString "offset", .int o t), (PySem.Str.ofString "bits", .int b u)] [] W.K W.lim (by omega) rfl rfl rfl rfl rfl rfl rfl rfl rfl rfl rfl rfl rfl rfl rfl (fun _ h => h) (fun _ h => (nomatch h)) ?_
  intro env s₀ s hs hE hF F
  have W₀ := W.up hs
  have hl₀ := hl.up hs
  have hh' : (A.deeper env).handled = none := hh
  have hroom' : (A.deeper env).depth < recursionLimit := by show A.depth + 1 < recursionLimit; omega
  have hb64 := hb.le
  have hb1 := hb.one
  refine x_if0 F (Ev.ltT (by walk_at "ev") (by walk_at "ev")) ?_ ?_
  · intro hc s₁ F₁ k₁
    have := of_decide_eq_true hc
    refine x_retD F₁ (Ev.int_eq (k := 0) (by walk_at "ev") ?_)
    unfold number; rw [if_pos this]
  · intro hc s₁ F₁ k₁
    have hc' := of_decide_eq_false hc
    refine x_assignLC F₁ hE rfl (c := env.locals + 1) (by rw [hF.cells]; rfl) (ns := pieceN row (o * b).toNat b) (Ev.d3 (W₀.up F₁.keep) hE rfl (Ev.name (by walk_at "has")) (Ev.name (by walk_at "has")) (Ev.name (by walk_at "has")) ?_) ?_
    · intro v1 v2 v3 h hs' e1 e2 e3
      have q1 : v1 = .ref l := e1
      have q2 : v2 = .int o t := e2
      have q3 : v3 = .int b u := e3
      subst q1; subst q2; subst q3
      exact (ev_piece ((W₀.up F₁.keep).up hs') hh' hroom' ((hl₀.up F₁.keep).up hs') hz (by omega) h1 hb.pb).mono fun _ _ hs'' x => x.base hs'
    · intro pl pvs pn s₂ hpi F₂
      have hlp : Lst s₂.heap pl (pieceN row (o * b).toNat b) := F₂.lst (by walk_at "mem") hpi
      have hCC : HasC env s₂.heap (PySem.Str.ofString "piece") (.ref pl) := F₂.hasCC hE (by walk_at "mem") rfl
      have hplen : (pieceN row (o * b).toNat b).length = b := pieceN_len hb.m
      refine x_retD F₂ (Ev.int_eq (Ev.sumL hh' (W₀.up F₂.keep) hE rfl (Ev.lv (Ev.ints (f := fun k => (pieceN row (o * b).toNat b).getD k 0 * 2 ^ k) (n := b) (Ev.comp (P := fun i v => ∃ t, v = Value.int (0 + (i : Int)) t) hE rfl (by decide) (by decide) (by decide) ?_ (Ev.itrR hh' (Ev.rangeN1 (W₀.up F₂.keep) hE rfl (by walk_at "ev")) (by omega) (by omega) (by omega)) (Nat.le_trans (show b ≤ 64 by omega) (by decide)) ?_)))) ?_)
      · intro y hy hf
        have : y.1 = PySem.Str.ofString "piece" := by
          revert y
          decide
        rw [this]
        obtain ⟨c, hc, _⟩ := hCC
        rw [hc]; rfl
      · intro i v cenv h hs' hi hP C hx _
        obtain ⟨t', rfl⟩ := hP
        have hp := C.free (PySem.Str.ofString "piece") (.ref pl) h Sub.rfl' (by decide) (hCC.up hs')
        have hpn : Has cenv h (PySem.Str.ofString "piece") (.ref pl) := hp.has C.ok.kind (by decide)
        have e : (0 + (i : Int)).toNat = i := by omega
        have hp1 := pow_pos' i
        have hp2 : (2 : Int) ^ i < 2 ^ 64 := pow_lt' (by omega)
        rw [← e] at hp1 hp2
        have hmul : IntMulOk ((pieceN row (o * b).toNat b).getD (0 + (i : Int)).toNat 0) (2 ^ (0 + (i : Int)).toNat) := IntMulOk.of_right (intBits_le_64 (by omega) hp2)
        refine (Ev.mul (Ev.itemL (Ev.nameL hpn (hlp.up hs')) (k := 0 + (i : Int)) (by walk_at "ev") (by omega) (by omega) (by omega)) (by walk_at "ev") hmul).mono ?_
        intro v h' _ hv
        obtain ⟨t'', rfl⟩ := hv
        rw [e]
        exact ⟨t'', rfl⟩
      · unfold number; rw [if_neg hc']

-- P7
theorem mem_l3 {α : Type} {a b c d : α} : ∀ p ∈ [a, b, c], p ∈ [a, b, c, d] := fun _ h => List.mem_append_left [d] h
theorem mem_r3 {α : Type} {a b c d : α} : ∀ p ∈ [d], p ∈ [a, b, c, d] := fun _ h => List.mem_append_right [a, b, c] h
def laidN (row : List Int) (o : Int) (b : Nat) (v : Int) : List Int :=
  (row ++ List.replicate (max 0 ((o * b + b + 7).fdiv 8 * 8 - row.length)).toNat 0).take (o * b).toNat ++ pieceN ((List.range b).map (bitAt v)) 0 b
    ++ (row ++ List.replicate (max 0 ((o * b + b + 7).fdiv 8 * 8 - row.length)).toNat 0).drop (o * b + b).toNat

theorem ev_laid {w : World} {A : Around} {h₀ : Heap} (W : WW w h₀) (hh : A.handled = none) (hroom : A.depth + 1 < recursionLimit) {l : Addr} {row : List Int} {o v : Int} {b : Nat} {t u z : Tok} (hl : Lst h₀ l row) (hz : row.length ≤ 10000) (h0 : 0 ≤ o) (h1 : o * b + b ≤ 480) (hb : SZ b) :
    Ev prg w A (call (.ref 143) [.ref l, .int o t, .int b u, .int v z]) h₀ (NewL h₀ (laidN row o b v)) := by
  refine Ev.def [(PySem.Str.ofString "row", .ref l), (PySem.Str.ofString "offset", .int o t), (PySem.Str.ofString "bits", .int b u), (PySem.Str.ofString "value", .int v z)] [(PySem.Str.ofString "row", .ref l), (PySem.Str.ofString "offset", .int o t), (PySem.Str.ofString "bits", .int b u)] [(PySem.Str.ofString "value", .int v z)] W.K W.lim (by omega) rfl rfl rfl rfl rfl rfl rfl rfl rfl rfl rfl rfl rfl rfl rfl mem_l3 mem_r3 ?_
  intro env s₀ s hs hE hF F
  have hb64 := hb.le
  have hb1 := hb.one
  have k₀ := hs.tr F.keep
  have W' := W.up k₀
  have hl' := hl.up k₀
  have hh' : (A.deeper env).handled = none := hh
  have hroom' : (A.deeper env).depth < recursionLimit := by show A.depth + 1 < recursionLimit; omega
  have ob0 : 0 ≤ o * b := Int.mul_nonneg h0 (by omega)
  have hob : o < 2 ^ 40 := by
    have : o * 1 ≤ o * b := Int.mul_le_mul_of_nonneg_left (by omega) h0
    omega
  have hCC : HasC env s.heap (PySem.Str.ofString "value") (.int v z) := F.hasCC hE (by walk_at "mem") rfl
  have hsl : ∀ n : Nat, n ≤ 20000 → n ≤ sizeLine := fun n h => Nat.le_trans h (by decide)
  have hbl : ((List.range b).map (bitAt v)).length = b := by simp
  refine x_assignLN (ns := pieceN ((List.range b).map (bitAt v)) 0 b) F hE rfl (Ev.d3 (P1 := LV ((List.range b).map (bitAt v))) (P2 := IsI 0) W' hE rfl (Ev.lv (Ev.ints (f := bitAt v) (Ev.comp (n := b) (P := fun i v => ∃ t, v = Value.int (0 + (i : Int)) t) hE rfl (by decide) (by decide) (by decide) ?_ (Ev.itrR hh' (Ev.rangeN1 W' hE rfl (a := b) (by walk_at "ev")) (by omega) (by omega) (by omega)) (hsl _ (by omega)) ?_))) Ev.cInt (Ev.name (by walk_at "has")) ?_) ?_
  · intro y hy hf
    have : y.1 = PySem.Str.ofString "value" := by
      revert y
      decide
    rw [this]
    obtain ⟨c, hc, _⟩ := hCC
    rw [hc]; rfl
  · intro i v' cenv h hs' hi hP C hx _
    obtain ⟨t', rfl⟩ := hP
    have hp := C.free (PySem.Str.ofString "value") (.int v z) h Sub.rfl' (by decide) (hCC.up hs')
    have hpn : Has cenv h (PySem.Str.ofString "value") (.int v z) := hp.has C.ok.kind (by decide)
    have e : (0 + (i : Int)).toNat = i := by omega
    have hp1 := pow_pos' i
    have hp2 : (2 : Int) ^ i < 2 ^ 64 := pow_lt' (by omega)
    rw [← e] at hp1 hp2
    refine Ev.int_eq (k := (v.fdiv (2 ^ (0 + (i : Int)).toNat)).fmod 2) ?_ (by rw [e]; rfl)
    walk_at "ev"
  · intro v1 v2 v3 h hs' e1 e2 e3
    obtain ⟨bl, rfl, hbl'⟩ := e1
    obtain ⟨t2, rfl⟩ := e2
    have q3 : v3 = .int b u := e3
    subst q3
    have := ev_piece (W'.up hs') hh' hroom' hbl' (by rw [hbl]; omega) (o := 0) (t := t2) (u := u) (by omega) (by omega) hb.pb
    rw [show (0 * (b : Int)).toNat = 0 by simp] at this
    exact this.mono fun _ _ hs'' x => x.base hs'
  intro pl pvs pn s₁ hpi hpf F₁
  have W₁ := (W.up hs).up F₁.keep
  have hl₁ := (hl.up hs).up F₁.keep
  refine x_assignI F₁ hE rfl (i := (o * b + b + 7).fdiv 8 * 8) (by walk_at "ev") ?_
  intro tw s₂ F₂
  have W₂ := (W.up hs).up F₂.keep
  have hl₂ := (hl.up hs).up F₂.keep
  have hw8 : (o * b + b + 7).fdiv 8 * 8 ≤ 487 := by rw [Int.fdiv_eq_ediv_of_nonneg _ (by omega)]; omega
  have hw0 : 0 ≤ (o * b + b + 7).fdiv 8 * 8 := by rw [Int.fdiv_eq_ediv_of_nonneg _ (by omega)]; omega
  generalize hwd : (o * b + b + 7).fdiv 8 * 8 = wd at *
  refine x_assignLN F₂ hE rfl (ns := row ++ List.replicate (max 0 (wd - row.length)).toNat 0) (Ev.addL (Ev.nameL (by walk_at "has") hl₂) (Ev.lv (Ev.repL (Ev.disp1 (a := 0) Ev.cInt) (Ev.maxI hh' W₂ hE rfl (a := 0) (b := wd - row.length) Ev.cInt (Ev.sub (by walk_at "ev") (Ev.lenL W₂ hE rfl (Ev.nameL (by walk_at "has") hl₂) (by omega)))) (by omega) (by omega))) (by simp; exact hsl _ (by omega))) ?_
  intro rl rvs rn s₃ hri hrf F₃
  have hlr : Lst s₃.heap rl (row ++ List.replicate (max 0 (wd - row.length)).toNat 0) := F₃.lst (by walk_at "mem") hri
  have hlp : Lst s₃.heap pl (pieceN ((List.range b).map (bitAt v)) 0 b) := F₃.lst (by walk_at "mem") hpi
  have hpl : (pieceN ((List.range b).map (bitAt v)) 0 b).length = b := pieceN_len hb.m
  have hrn : (row ++ List.replicate (max 0 (wd - row.length)).toNat 0).length ≤ 10500 := by simp; omega
  refine x_retD F₃ (P := NewL h₀ (laidN row o b v)) ((Ev.new_eq (Ev.addL (Ev.lv (Ev.addL (Ev.lv (Ev.slice (Ev.nameL (by walk_at "has") hlr) EvP.no (EvP.int (a := o * b) (by walk_at "ev")) (hsl _ (by omega)))) (Ev.nameL (by walk_at "has") hlp) ?_)) (Ev.lv (Ev.slice (Ev.nameL (by walk_at "has") hlr) (EvP.int (a := o * b + b) (by walk_at "ev")) EvP.no (hsl _ (by omega)))) ?_) ?_).mono fun _ _ _ x => x.base (hs.tr F₃.keep))
  · rw [pick_upto _ ob0, hpl]; exact Nat.le_trans (Nat.add_le_add (Nat.le_trans (List.length_take_le' _ _) hrn) hb64) (by decide)
  · rw [pick_upto _ ob0, pick_from _ (by omega), List.length_append, hpl, List.length_drop]
    exact Nat.le_trans (Nat.add_le_add (Nat.add_le_add (Nat.le_trans (List.length_take_le' _ _) hrn) hb64) (Nat.le_trans (Nat.sub_le _ _) hrn)) (by decide)
  · rw [pick_upto _ ob0, pick_from _ (by omega)]; unfold laidN; rw [hwd]

def octN (row : List Int) (i : Nat) : Int := ((List.range 8).map fun k => row.getD (8 * i + k) 0 * 2 ^ k).sum
def octs (row : List Int) : List Int := (List.range (row.length / 8)).map (octN row)
def Bits (row : List Int) : Prop := ∀ x ∈ row, x = 0 ∨ x = 1
theorem Bits.getD {row : List Int} (h : Bits row) (i : Nat) : row.getD i 0 = 0 ∨ row.getD i 0 = 1 := by
  rw [List.getD_eq_getElem?_getD]
  cases e : row[i]? with
  | none => left; rfl
  | some x => exact h x (List.mem_of_getElem? e)
theorem Bits.le {row : List Int} (h : Bits row) (i : Nat) : 0 ≤ row.getD i 0 ∧ row.getD i 0 ≤ 1 := by
  rcases h.getD i with e | e <;> rw [e] <;> decide
theorem octN_bd {row : List Int} (h : Bits row) (i : Nat) : 0 ≤ octN row i ∧ octN row i ≤ 255 := by
  unfold octN
  simp only [show List.range 8 = [0, 1, 2, 3, 4, 5, 6, 7] from rfl, List.map_cons, List.map_nil, List.sum_cons, List.sum_nil]
  have h0 := h.le (8 * i + 0)
  have h1 := h.le (8 * i + 1)
  have h2 := h.le (8 * i + 2)
  have h3 := h.le (8 * i + 3)
  have h4 := h.le (8 * i + 4)
  have h5 := h.le (8 * i + 5)
  have h6 := h.le (8 * i + 6)
  have h7 := h.le (8 * i + 7)
  clear h
  generalize row.getD (8 * i + 0) 0 = x0 at *
  generalize row.getD (8 * i + 1) 0 = x1 at *
  generalize row.getD (8 * i + 2) 0 = x2 at *
  generalize row.getD (8 * i + 3) 0 = x3 at *
  generalize row.getD (8 * i + 4) 0 = x4 at *
  generalize row.getD (8 * i + 5) 0 = x5 at *
  generalize row.getD (8 * i + 6) 0 = x6 at *
  generalize row.getD (8 * i + 7) 0 = x7 at *
  omega
theorem fitsL {i : Int} (h : -(2 ^ 62) ≤ i) (h' : i < 2 ^ 62) : Builtin.Range.rangeFitsLong i = true := by
  unfold Builtin.Range.rangeFitsLong
  rw [Bool.and_eq_true]
  exact ⟨decide_eq_true (by omega), decide_eq_true (by omega)⟩
theorem small8 {n : Nat} (h : n ≤ 10000) : Builtin.Range.small 0 n 8 = true := by
  unfold Builtin.Range.small
  have := rangeSize_pos (len := n) (c := 8) (by omega) (by omega)
  rw [this]
  rw [fitsL (by omega) (by omega), fitsL (by omega) (by omega), fitsL (by omega) (by omega), fitsL (by omega) (by omega), if_pos (by omega), fitsL (by omega) (by omega), Bool.or_true]
  rfl

theorem ev_text {w : World} {A : Around} {h₀ : Heap} (W : WW w h₀) (hh : A.handled = none) (hroom : A.depth < recursionLimit) {l : Addr} {row : List Int} (hl : Lst h₀ l row) (hz : row.length ≤ 10000) (h8 : row.length % 8 = 0) (hbit : Bits row) :
    Ev prg w A (call (.ref 155) [.ref l]) h₀ (IsS (tx (octs row))) := by
  refine Ev.def [(PySem.Str.ofString "row", .ref l)] [] [(PySem.Str.ofString "row", .ref l)] W.K W.lim hroom rfl rfl rfl rfl rfl rfl rfl rfl rfl rfl rfl rfl rfl rfl rfl (fun _ h => (nomatch h)) (fun _ h => h) ?_
  intro env s₀ s hs hE hF F
  have k₀ := hs.tr F.keep
  have W' := W.up k₀
  have hl' := hl.up k₀
  have hh' : (A.deeper env).handled = none := hh
  have hsl : ∀ n : Nat, n ≤ 20000 → n ≤ sizeLine := fun n h => Nat.le_trans h (by decide)
  have hCC : HasC env s.heap (PySem.Str.ofString "row") (.ref l) := F.hasCC hE (by walk_at "mem") rfl
  have hol : (octs row).length = row.length / 8 := by simp [octs]
  have hrow : Has env s.heap (PySem.Str.ofString "row") (.ref l) := by walk_at "has"
  refine x_retD F (Ev.joinE (h₁ := s.heap) (os := octs row) (Ev.comp (P := fun i v => ∃ t, v = Value.int (0 + (i : Int) * 8) t) hE rfl (by decide) (by decide) (by decide) ?_ ?_ (hsl _ (by omega)) ?_) (by omega))
  · intro y hy hf
    have : y.1 = PySem.Str.ofString "row" := by
      revert y
      decide
    rw [this]
    obtain ⟨c, hc, _⟩ := hCC
    rw [hc]; rfl
  · refine (Ev.rangeN3 (a := 0) (b := row.length) (c := 8) W' hE rfl Ev.cInt (Ev.lenL W' hE rfl (Ev.nameL hrow hl') (by omega)) Ev.cInt (by decide) (noPy (by decide) (by decide))).mono ?_
    intro v h' hs' x
    refine IsR.itr hh' x (small8 hz) ?_
    rw [rangeSize_pos (by omega) (by omega), hol]
    omega
  · intro i v cenv h hs' hi hP C hx hxC
    obtain ⟨t', rfl⟩ := hP
    have hC1 := hxC (by decide)
    have hrC := C.free (PySem.Str.ofString "row") (.ref l) h Sub.rfl' (by decide) (hCC.up hs')
    have W₁ := W'.up hs'
    have hl₁ := hl'.up hs'
    have ho := octN_bd hbit i
    refine (Ev.chr (a := octN row i) W₁ C.ok rfl (Ev.int_eq (Ev.sumL hh' W₁ C.ok rfl (Ev.lv (Ev.ints (f := fun k => row.getD (8 * i + k) 0 * 2 ^ k) (n := 8) (Ev.comp (P := fun i v => ∃ t, v = Value.int (0 + (i : Int)) t) C.ok rfl (by decide) (by decide) (by decide) ?_ (Ev.itrR hh' (Ev.rangeN1 W₁ C.ok rfl Ev.cInt) (by omega) (by omega) (by omega)) (hsl _ (by omega)) ?_)))) rfl) (by omega) (by omega)).mono ?_
    · intro y hy hf
      have : y.1 = PySem.Str.ofString "at" ∨ y.1 = PySem.Str.ofString "row" := by
        revert y
        decide
      rcases this with e | e <;> rw [e]
      · obtain ⟨c, hc, _⟩ := hC1
        rw [hc]; rfl
      · obtain ⟨c, hc, _⟩ := hrC
        rw [hc]; rfl
    · intro k v' cenv' h' hs'' hk hP' C' hx' _
      obtain ⟨t'', rfl⟩ := hP'
      have hat := (C'.free (PySem.Str.ofString "at") _ h' Sub.rfl' (by decide) (hC1.up hs'')).has C'.ok.kind (by decide)
      have hro := (C'.free (PySem.Str.ofString "row") _ h' Sub.rfl' (by decide) (hrC.up hs'')).has C'.ok.kind (by decide)
      have e : (0 + (k : Int)).toNat = k := by omega
      have hp1 := pow_pos' k
      have hp2 : (2 : Int) ^ k < 2 ^ 64 := pow_lt' (by omega)
      rw [← e] at hp1 hp2
      have hrl := hl₁.up hs''
      rw [hol] at hi
      have hmul : IntMulOk (row.getD (0 + (i : Int) * 8 + (0 + (k : Int))).toNat 0) (2 ^ (0 + (k : Int)).toNat) := IntMulOk.of_right (intBits_le_64 (by omega) hp2)
      refine (Ev.mul (Ev.itemL (Ev.nameL hro hrl) (k := 0 + (i : Int) * 8 + (0 + (k : Int))) (by walk_at "ev") (by omega) (by omega) (by omega)) (by walk_at "ev") hmul).mono ?_
      intro v h' _ hv
      obtain ⟨t3, rfl⟩ := hv
      rw [e, show (0 + (i : Int) * 8 + (0 + (k : Int))).toNat = 8 * i + k by omega]
      exact ⟨t3, rfl⟩
    · intro v h' _ hv
      obtain ⟨t3, rfl⟩ := hv
      refine ⟨t3, ?_⟩
      rw [show (octs row).getD i 0 = octN row i from getD_of (by unfold octs; rw [hol] at hi; simp [hi])]

-- V0
section
variable {prog : Program} {w : World} {A : Around} {b : Heap} {env : Env} {vars cvars : List (Str × Value)} {news : List (Addr × Obj)} {s₀ s : Shared} {names : List (Str × NameKind)} {E : Value → Shared → Prop} {Q : Flow → Shared → Prop} {rest : List Stmt}
/-- y = [elt for x in iter], the value used inside -/
theorem x_assignComp {elt iter : Expr} {x y : Str} {px py : Pos} {scope : Scope} {pos spos : Pos} {n : Nat} {P : Nat → Value → Prop} {R : Nat → Value → Prop} (F : Fm b env vars cvars news s₀ s)
    (he : EnvOk env names) (hl : names.lookup y = some .local) (hk : scope.kind = .function) (hnames : ∀ y ∈ scope.names, y.2 = .local → scope.names.lookup y.1 = some .local)
    (hx : scope.names.lookup x = some .local ∨ scope.names.lookup x = some .cell) (hcells : ∀ y ∈ scope.names, y.2 = .cell → y.1 = x)
    (hf : ∀ y ∈ scope.names, y.2 = .free → (env.cells.lookup y.1).isSome = true)
    (hit : Ev prog w A (eval iter env) s.heap (fun xv h => Itr prog w A xv h [] n P)) (hsz : n ≤ sizeLine)
    (helt : ∀ i v cenv h, Sub s.heap h → i < n → P i v → CEnv env cenv scope h → Has cenv h x v → (scope.names.lookup x = some .cell → HasC cenv h x v) → Ev prog w A (eval elt cenv) h (fun y _ => R i y))
    (kk : ∀ l ys s', s.heap.get? l = none → ys.length = n → (∀ i y, ys[i]? = some y → R i y) → Fm b env ((y, .ref l) :: dropN y vars) cvars ((l, lobj ys ys.length) :: news) s₀ s' → wpAny (model prog w) A (execs rest env) Q E s')
    (hsw : swapsWith (.ListComp elt [⟨.Name x px, iter, [], 0⟩] scope pos) (some (.Name y py)) spos.line env = pure true)
    (hs : ∀ x, foldedSetIterable iter env x = pure x := by intro _; rfl) :
    wpAny (model prog w) A (execs (.Assign [.Name y py] (.ListComp elt [⟨.Name x px, iter, [], 0⟩] scope pos) spos :: rest) env) Q E s := by
  refine wpAny_execs_cons ?_
  rw [exec_Assign_Name_used _ _ _ _ hsw]
  refine wpAny_bind (wpAny_standAt (wpAny_bind ?_))
  show wpAny _ A (do let _ ← comprehension (.ListComp elt [⟨.Name x px, iter, [], 0⟩] scope pos) scope env _ (newList []) false (eval iter env) (some (assign (.Name y py) env))) _ _ s
  refine wpAny_bind (wpAny_mono (comp_core (R := R) (Q := fun _ s' => wpAny (model prog w) A (execs rest env) Q E s') he hk hnames hx hcells hf hit hsz helt hs Sub.rfl' (some (assign (.Name y py) env)) ?_)
    (fun _ s' hq => wpAny_pure (wpAny_pure hq)) fun _ _ e => e)
  intro s₁ C D ys s' k₁ hD hC hDC hlen hR k₂ hoD hnC
  obtain ⟨mC, oC, esC, epC, hoC, rC⟩ := hnC
  have F₁ := F.kp k₁
  have F₂ := (F₁.join hD k₂ hoD).kp (Kp.rfl' (s := s'))
  have Oc := F₁.fresh hC
  show wpAny _ A (assign (.Name y py) env (.ref D)) _ _ _
  refine wpAny_assign_Name (F₂.store he hl fun s₃ F₃ hb₃ => ?_)
  refine ⟨mC, ⟨oC, esC, epC, hb₃ _ _ (by simpa using Oc.nl) hoC, rC⟩, fun h' hsb => ?_⟩
  have bt : But [C] s₃.heap h' := fun a o ha ho => hsb.extBut a o (by simpa using ha) ho
  refine kk D ys _ (Sub.none k₁.sub hD) hlen hR (F₃.chg (X := [C]) (tk := s₃.toks) (fun a ha => by rw [List.mem_singleton.mp ha]; exact Oc) bt fun p hp => ⟨bt _ _ ?_ (F₃.nw p hp).1, F₃.own hp⟩)
  simp only [List.mem_singleton]
  rcases List.mem_cons.mp hp with rfl | hp
  · exact hDC
  · rintro rfl
    have := (F₁.nw p hp).1
    rw [hC] at this; cases this
end

-- V1
def sizes : List Int := [1, 2, 4, 8, 16, 32, 64]
theorem sizes_tv {w : World} {h : Heap} (W : WW w h) : TV sizes (.ref 54) h :=
  ⟨54, _, rfl, ⟨_, W.K 54 _ rfl, rfl, _, rfl⟩, .cons _ _ (.cons _ _ (.cons _ _ (.cons _ _ (.cons _ _ (.cons _ _ (.cons _ _ .nil))))))⟩

section
variable {w : World} {A : Around} {base : Heap} {outer : List Env} {env : Env} {s₀ s : Shared} {b : Heap} {vars cvars : List (Str × Value)} {news : List (Addr × Obj)}
theorem RB.new (F : Fm s₀.heap env vars cvars news s₀ s) (hB : Below (A.deeper env) base (env :: outer) s.heap) : ∀ e s', Rn s e s' → RB A base outer env s₀ e s' := fun e s' R => ⟨s, F.same, F.keep, hB, .inl R⟩
theorem RB.on (F : Fm s₀.heap env vars cvars news s₀ s) (hB : Below (A.deeper env) base (env :: outer) s.heap) : ∀ e s', Rz base (env :: outer) s e s' → RB A base outer env s₀ e s' := fun e s' R => ⟨s, F.same, F.keep, hB, .inr (.inl R)⟩
theorem RB.held (F : Fm s₀.heap env vars cvars news s₀ s) (hB : Below (A.deeper env) base (env :: outer) s.heap) : ∀ e s', Rh base outer env s e s' → RB A base outer env s₀ e s' := fun e s' R => ⟨s, F.same, F.keep, hB, .inr (.inr R)⟩
end

theorem ev_check {w : World} {A : Around} {h₀ : Heap} (W : WW w h₀) (hroom : A.depth < recursionLimit) {b : Int} {t : Tok} (hb : sizes.contains b = true) :
    Ev prg w A (call (.ref 61) [.int b t]) h₀ IsN := by
  refine Ev.def [(PySem.Str.ofString "bits", .int b t)] [(PySem.Str.ofString "bits", .int b t)] [] W.K W.lim hroom rfl rfl rfl rfl rfl rfl rfl rfl rfl rfl rfl rfl rfl rfl rfl (fun _ h => h) (fun _ h => (nomatch h)) ?_
  intro env s₀ s hs hE hF F
  have k₀ := hs.tr F.keep
  have W' := W.up k₀
  refine x_if0 F (Ev.cmpT (c := !sizes.contains b) (Pl := IsI b) (Pr := IsV (.ref 54)) (by walk_at "ev") (Ev.name (Has.glob W' hE rfl rfl)) (fun x y h hs' hx hy => ?_)) ?_ ?_
  · have : y = .ref 54 := hy
    subst this
    exact Ev.notInT hx (sizes_tv (W'.up hs'))
  · intro hc
    rw [hb] at hc; cases hc
  · intro hc s' F' k'
    exact x_nil ⟨IsV.box, F'.same, F'.keep⟩

theorem rs_check {w : World} {A : Around} {base : Heap} {outer : List Env} {h₀ : Heap} (W : WW w h₀) (hh : A.handled = none) (hroom : A.depth + 3 < recursionLimit) {b : Int} {t : Tok} (hb : sizes.contains b = false) :
    Rs w A base outer (call (.ref 61) [.int b t]) h₀ := by
  refine Rs.def [(PySem.Str.ofString "bits", .int b t)] [(PySem.Str.ofString "bits", .int b t)] [] W.K W.lim (by omega) rfl rfl rfl rfl rfl rfl rfl rfl rfl rfl rfl rfl rfl rfl rfl (fun _ h => h) (fun _ h => (nomatch h)) ?_
  intro env s₀ s hs hE hF F hB
  have k₀ := hs.tr F.keep
  have W' := W.up k₀
  have hroom' : (A.deeper env).depth + 2 < recursionLimit := by show A.depth + 1 + 2 < recursionLimit; omega
  have hh' : (A.deeper env).handled = none := hh
  refine x_if0 F (Ev.cmpT (c := !sizes.contains b) (Pl := IsI b) (Pr := IsV (.ref 54)) (by walk_at "ev") (Ev.name (Has.glob W' hE rfl rfl)) (fun x y h hs' hx hy => ?_)) ?_ ?_
  · have : y = .ref 54 := hy
    subst this
    exact Ev.notInT hx (sizes_tv (W'.up hs'))
  · intro hc s' F' k'
    exact x_raise (W'.up k'.sub) hE rfl hh' hroom' (RB.new F' (hB F' F'.keep))
  · intro hc
    rw [hb] at hc; cases hc

/-- the codes of a text -/
def codes (x : Str) : List Int := x.cps.toList.map Int.ofNat
theorem codes_len (x : Str) : (codes x).length = x.cps.size := by simp [codes]
theorem codes_get {x : Str} {i c : Nat} (h : x.cps[i]? = some c) : (codes x).getD i 0 = c := by
  apply getD_of
  unfold codes
  rw [List.getElem?_map, Array.getElem?_toList, h]; rfl


theorem nofree {env : Env} {ns : List (Str × NameKind)} (h : ∀ y ∈ ns, y.2 ≠ .free) : ∀ y ∈ ns, y.2 = .free → (env.cells.lookup y.1).isSome = true := fun y hy e => absurd e (h y hy)
theorem eta_list : ∀ (ns : List Int), (List.range ns.length).map (fun i => ns.getD i 0) = ns
  | [] => rfl
  | n :: ns => by
    rw [List.length_cons, List.range_succ_eq_map, List.map_cons, List.map_map]
    congr 1
    exact eta_list ns
theorem codes_eta (x : Str) : (List.range x.cps.size).map (fun i => (codes x).getD i 0) = codes x := by
  rw [← codes_len]; exact eta_list _
theorem ev_oct {w : World} {A : Around} {h₀ : Heap} (W : WW w h₀) (hh : A.handled = none) (hroom : A.depth < recursionLimit) {x : Str} {t : Tok} (hz : x.cps.size ≤ 10000) (hb : ∀ c ∈ codes x, c ≤ 255) :
    Ev prg w A (call (.ref 66) [.str x t]) h₀ (NewL h₀ (codes x)) := by
  refine Ev.def [(PySem.Str.ofString "text", .str x t)] [(PySem.Str.ofString "text", .str x t)] [] W.K W.lim hroom rfl rfl rfl rfl rfl rfl rfl rfl rfl rfl rfl rfl rfl rfl rfl (fun _ h => h) (fun _ h => (nomatch h)) ?_
  intro env s₀ s hs hE hF F
  have k₀ := hs.tr F.keep
  have W' := W.up k₀
  have hh' : (A.deeper env).handled = none := hh
  have hcn := noCells hF rfl
  have hsl : ∀ n : Nat, n ≤ 20000 → n ≤ sizeLine := fun n h => Nat.le_trans h (by decide)
  have e1 : env.blockKind = .function := by unfold Env.blockKind; rw [hE.kind]; rfl
  have e2 : env.kindOf (PySem.Str.ofString "row") = some .local := hE.kindOf rfl (by decide)
  refine x_assignComp (n := x.cps.size) (P := SignAt x) (R := fun i y => ∃ t, y = Value.int ((codes x).getD i 0) t) F hE rfl rfl (by decide) (.inl (by decide)) (by decide) (nofree (by decide)) ((Ev.nameS (by walk_at "has")).mono fun v h' hs' hv => ?_) (hsl _ (by omega)) ?_ ?_ (by unfold swapsWith; simp only [e1, e2]; rfl)
  · obtain ⟨t', rfl⟩ := hv
    exact Itr.str hh'
  · intro i v cenv h hs' hi hP C hx _
    obtain ⟨c, u, hc, rfl⟩ := hP
    exact Ev.int_eq (Ev.ord (W'.up hs') C.ok rfl (Ev.nameS hx)) (codes_get hc).symm
  intro l vs s₁ hf hlen hR F₁
  have hi : IntsAre vs (codes x) := by
    have := ints_of hlen hR
    rwa [codes_eta] at this
  have hl : Lst s₁.heap l (codes x) := F₁.lst (by walk_at "mem") hi
  refine x_for (n := (codes x).length) (P := fun i v => ∃ k t, (codes x)[i]? = some k ∧ v = .int k t) (σ := Unit) (fun i z => True)
      (fun i z => [(PySem.Str.ofString "row", .ref l)]) (fun i z => []) [] [(l, lobj vs vs.length)] F₁ hE rfl hcn (Ev.name (by walk_at "has") |>.mono fun v h' hs' hv => ?_) ?_ ?_ ?_ ?_ ?_
  · have : v = .ref l := hv
    subst this
    exact Itr.ints hh' (hl.up hs') (F₁.notHidden hcn (o := lobj vs vs.length) (by walk_at "mem") (by simp))
  · intro p hp; cases hp
  · intro p hp
    simp only [List.mem_singleton] at hp
    subst hp
    exact ⟨by walk_at "mem", by simp⟩
  · refine ⟨(), trivial, ?_, ?_⟩
    · intro p hp
      simp only [List.mem_cons, List.not_mem_nil, or_false] at hp
      subst hp; walk_at "mem"
    · intro p hp; cases hp
  · intro b' i z v s' io hbb hkeep hio hi hK hP F'
    obtain ⟨k, t', hk, rfl⟩ := hP
    have hk255 := hb k (List.mem_of_getElem? hk)
    refine x_if0 F' (Ev.gtT (a := k) (b := 255) (by walk_at "ev") (by walk_at "ev")) ?_ ?_
    · intro hc
      have := of_decide_eq_true hc
      omega
    · intro hc s'' F'' k''
      refine x_nil ⟨(), trivial, F''.sub ?_ ?_ ?_, ?_⟩
      · intro p hp
        simp only [List.mem_cons, List.not_mem_nil, or_false] at hp
        subst hp; walk_at "mem"
      · intro p hp; exact hp
      · intro p hp; exact hp
      · intro p hp; cases hp
  · intro z s' hK F'
    refine x_retD F' (P := NewL h₀ (codes x)) ((Ev.name (by walk_at "has")).mono ?_)
    intro v h' hs' hv
    have : v = .ref l := hv
    subst this
    refine ⟨l, vs, vs.length, rfl, ?_, hs' _ _ (F'.get (List.mem_append_right _ List.mem_cons_self)), hi⟩
    exact Sub.none hs (F'.nw (l, lobj vs vs.length) (List.mem_append_right _ List.mem_cons_self)).2.1

-- V2
theorem rs_oct {w : World} {A : Around} {base : Heap} {outer : List Env} {h₀ : Heap} (W : WW w h₀) (hh : A.handled = none) (hroom : A.depth + 3 < recursionLimit) {x : Str} {t : Tok} (hz : x.cps.size ≤ 10000) {j : Nat} {k0 : Int} (hj : (codes x)[j]? = some k0) (hj2 : 255 < k0) :
    Rs w A base outer (call (.ref 66) [.str x t]) h₀ := by
  refine Rs.def [(PySem.Str.ofString "text", .str x t)] [(PySem.Str.ofString "text", .str x t)] [] W.K W.lim (by omega) rfl rfl rfl rfl rfl rfl rfl rfl rfl rfl rfl rfl rfl rfl rfl (fun _ h => h) (fun _ h => (nomatch h)) ?_
  intro env s₀ s hs hE hF F hB
  have k₀ := hs.tr F.keep
  have W' := W.up k₀
  have hh' : (A.deeper env).handled = none := hh
  have hroom' : (A.deeper env).depth + 2 < recursionLimit := by show A.depth + 1 + 2 < recursionLimit; omega
  have hcn := noCells hF rfl
  have hsl : ∀ n : Nat, n ≤ 20000 → n ≤ sizeLine := fun n h => Nat.le_trans h (by decide)
  have e1 : env.blockKind = .function := by unfold Env.blockKind; rw [hE.kind]; rfl
  have e2 : env.kindOf (PySem.Str.ofString "row") = some .local := hE.kindOf rfl (by decide)
  refine x_assignComp (n := x.cps.size) (P := SignAt x) (R := fun i y => ∃ t, y = Value.int ((codes x).getD i 0) t) F hE rfl rfl (by decide) (.inl (by decide)) (by decide) (nofree (by decide)) ((Ev.nameS (by walk_at "has")).mono fun v h' hs' hv => ?_) (hsl _ (by omega)) ?_ ?_ (by unfold swapsWith; simp only [e1, e2]; rfl)
  · obtain ⟨t', rfl⟩ := hv
    exact Itr.str hh'
  · intro i v cenv h hs' hi hP C hx _
    obtain ⟨c, u, hc, rfl⟩ := hP
    exact Ev.int_eq (Ev.ord (W'.up hs') C.ok rfl (Ev.nameS hx)) (codes_get hc).symm
  intro l vs s₁ hf hlen hR F₁
  have hi : IntsAre vs (codes x) := by
    have := ints_of hlen hR
    rwa [codes_eta] at this
  have hl : Lst s₁.heap l (codes x) := F₁.lst (by walk_at "mem") hi
  refine x_forR (n := (codes x).length) (P := fun i v => ∃ k t, (codes x)[i]? = some k ∧ v = .int k t) (σ := Unit) (fun i z => i ≤ j)
      (fun i z => [(PySem.Str.ofString "row", .ref l)]) (fun i z => []) [] [(l, lobj vs vs.length)]
      (fun e s' => ∃ sx, Like s₀ sx ∧ Sub s₀.heap sx.heap ∧ Below (A.deeper env) base (env :: outer) sx.heap ∧ Rn sx e s') ?_ F₁ hE rfl hcn (Ev.name (by walk_at "has") |>.mono fun v h' hs' hv => ?_) ?_ ?_ ?_ ?_ ?_
  · rintro e s' ⟨sx, x1, x2, x3, x4⟩
    exact note_new x3 hF.frame x4 fun s'' R => back_held hF.frame R fun s3 R' => ⟨sx, x1, x2, x3, .inr (.inr R')⟩
  · have : v = .ref l := hv
    subst this
    exact Itr.ints hh' (hl.up hs') (F₁.notHidden hcn (o := lobj vs vs.length) (by walk_at "mem") (by simp))
  · intro p hp; cases hp
  · intro p hp
    simp only [List.mem_singleton] at hp
    subst hp
    exact ⟨by walk_at "mem", by simp⟩
  · refine ⟨(), Nat.zero_le _, ?_, ?_⟩
    · intro p hp
      simp only [List.mem_cons, List.not_mem_nil, or_false] at hp
      subst hp; walk_at "mem"
    · intro p hp; cases hp
  · intro b' i z v s' io hbb hkeep hio hi hK hP F'
    obtain ⟨k, t', hk, rfl⟩ := hP
    refine x_if0 F' (Ev.gtT (a := k) (b := 255) (by walk_at "ev") (by walk_at "ev")) ?_ ?_
    · intro hc s'' F'' k''
      have kk := hbb.tr F''.keep
      exact x_raise ((W.up hs).up kk) hE rfl hh' hroom' fun e s3 R => ⟨s'', F''.same, kk, hB F'' kk, R⟩
    · intro hc s'' F'' k''
      have hc' := of_decide_eq_false hc
      have hij : i ≠ j := by
        rintro rfl
        rw [hj] at hk; cases hk; omega
      refine x_nil ⟨(), by omega, F''.sub ?_ ?_ ?_, ?_⟩
      · intro p hp
        simp only [List.mem_cons, List.not_mem_nil, or_false] at hp
        subst hp; walk_at "mem"
      · intro p hp; exact hp
      · intro p hp; exact hp
      · intro p hp; cases hp
  · intro z s' hK F'
    have := (List.getElem?_eq_some_iff.mp hj).1
    omega

-- Q0
theorem bitOr_nat (x y : Nat) : Builtin.bitOr (x : Int) (y : Int) = ((x ||| y : Nat) : Int) := by
  unfold Builtin.bitOr Builtin.bitAnd Builtin.bitNot
  have h1 : decide ((0 : Int) ≤ -(x : Int) - 1) = false := decide_eq_false (by omega)
  have h2 : decide ((0 : Int) ≤ -(y : Int) - 1) = false := decide_eq_false (by omega)
  rw [h1, h2]
  have e1 : (-(-(x : Int) - 1) - 1).toNat = x := by omega
  have e2 : (-(-(y : Int) - 1) - 1).toNat = y := by omega
  simp only [e1, e2]
  omega
theorem two_cast (k : Nat) : ((2 ^ k : Nat) : Int) = (2 : Int) ^ k := kbt_cast k
theorem bitOr_add {x y : Int} {k : Nat} (hx : 0 ≤ x) (hy : 0 ≤ y) (hy2 : y < 2 ^ k) : Builtin.bitOr (x * 2 ^ k) y = x * 2 ^ k + y := by
  obtain ⟨a, rfl⟩ := Int.eq_ofNat_of_zero_le hx
  obtain ⟨b, rfl⟩ := Int.eq_ofNat_of_zero_le hy
  have hb : b < 2 ^ k := by rw [← two_cast] at hy2; exact_mod_cast hy2
  have e : (a : Int) * 2 ^ k = ((2 ^ k * a : Nat) : Int) := by rw [← two_cast]; push_cast; rw [Int.mul_comm]
  rw [e, bitOr_nat, ← Nat.two_pow_add_eq_or_of_lt hb]
  push_cast; rfl
theorem small_nat {s b hi mid lo v : Nat} (hl : lo < 2 ^ s) (hm : mid < 2 ^ b) (hv : v < 2 ^ b) :
    (2 ^ (s + b) * hi + 2 ^ s * mid + lo) - ((2 ^ (s + b) * hi + 2 ^ s * mid + lo) &&& ((2 ^ b - 1) * 2 ^ s)) ||| v * 2 ^ s = 2 ^ (s + b) * hi + 2 ^ s * v + lo := by
  have h1 : (2 ^ (s + b) * hi + 2 ^ s * mid + lo) &&& ((2 ^ b - 1) * 2 ^ s) = 2 ^ s * mid := by
    apply Nat.eq_of_testBit_eq
    intro i
    rw [Nat.testBit_and, Nat.mul_comm (2 ^ b - 1) (2 ^ s), Nat.testBit_two_pow_mul, Nat.testBit_two_pow_mul, Nat.testBit_two_pow_sub_one]
    have e : 2 ^ (s + b) * hi + 2 ^ s * mid + lo = 2 ^ s * (2 ^ b * hi + mid) + lo := by rw [Nat.pow_add, Nat.mul_add, Nat.mul_assoc]
    rw [e, Nat.testBit_two_pow_mul_add _ hl]
    by_cases h : i < s
    · have : ¬ i ≥ s := by omega
      simp [h, this]
    · have h' : i ≥ s := by omega
      rw [if_neg h, Nat.testBit_two_pow_mul_add _ hm]
      simp only [h', decide_true, Bool.true_and]
      by_cases h2 : i - s < b
      · simp [h2]
      · simp only [h2, if_false, decide_false, Bool.and_false]
        rw [Nat.testBit_lt_two_pow (Nat.lt_of_lt_of_le hm (Nat.pow_le_pow_right (by decide) (by omega)))]
  rw [h1]
  have h3 : 2 ^ (s + b) * hi + 2 ^ s * mid + lo - 2 ^ s * mid = 2 ^ (s + b) * hi + lo := by omega
  have hlo : lo < 2 ^ (s + b) := Nat.lt_of_lt_of_le hl (Nat.pow_le_pow_right (by decide) (by omega))
  rw [h3, Nat.two_pow_add_eq_or_of_lt hlo, Nat.or_assoc, Nat.or_comm lo, Nat.mul_comm v, ← Nat.two_pow_add_eq_or_of_lt hl]
  have h4 : 2 ^ s * v + lo < 2 ^ (s + b) := by
    have : 2 ^ s * v + lo < 2 ^ s * (v + 1) := by rw [Nat.mul_add]; omega
    refine Nat.lt_of_lt_of_le this ?_
    rw [Nat.pow_add]
    exact Nat.mul_le_mul_left _ hv
  rw [← Nat.two_pow_add_eq_or_of_lt h4]
  omega
theorem small_bits {s b : Nat} {hi mid lo v : Int} (h0 : 0 ≤ hi) (hl0 : 0 ≤ lo) (hl : lo < 2 ^ s) (hm0 : 0 ≤ mid) (hm : mid < 2 ^ b) (hv0 : 0 ≤ v) (hv : v < 2 ^ b) :
    Builtin.bitOr (Builtin.bitAnd (2 ^ (s + b) * hi + 2 ^ s * mid + lo) (Builtin.bitNot ((2 ^ b - 1) * 2 ^ s))) (v * 2 ^ s) = 2 ^ (s + b) * hi + 2 ^ s * v + lo := by
  obtain ⟨hi, rfl⟩ := Int.eq_ofNat_of_zero_le h0
  obtain ⟨lo, rfl⟩ := Int.eq_ofNat_of_zero_le hl0
  obtain ⟨mid, rfl⟩ := Int.eq_ofNat_of_zero_le hm0
  obtain ⟨v, rfl⟩ := Int.eq_ofNat_of_zero_le hv0
  rw [← two_cast] at hl hm hv
  have hl' : lo < 2 ^ s := by exact_mod_cast hl
  have hm' : mid < 2 ^ b := by exact_mod_cast hm
  have hv' : v < 2 ^ b := by exact_mod_cast hv
  have hb1 : 1 ≤ 2 ^ b := Nat.one_le_two_pow
  have e1 : ((2 : Int) ^ (s + b) * hi + 2 ^ s * mid + lo) = ((2 ^ (s + b) * hi + 2 ^ s * mid + lo : Nat) : Int) := by push_cast; rfl
  have e2 : ((2 : Int) ^ b - 1) * 2 ^ s = (((2 ^ b - 1) * 2 ^ s : Nat) : Int) := by push_cast [hb1]; rfl
  have e3 : (v : Int) * 2 ^ s = ((v * 2 ^ s : Nat) : Int) := by push_cast; rfl
  rw [e1, e2, e3]
  generalize hr : 2 ^ (s + b) * hi + 2 ^ s * mid + lo = r
  generalize hM : (2 ^ b - 1) * 2 ^ s = M
  have e4 : Builtin.bitAnd (r : Int) (Builtin.bitNot (M : Int)) = ((r - (r &&& M) : Nat) : Int) := by
    unfold Builtin.bitAnd Builtin.bitNot
    have h1 : decide ((0 : Int) ≤ (r : Int)) = true := decide_eq_true (by omega)
    have h2 : decide ((0 : Int) ≤ -(M : Int) - 1) = false := decide_eq_false (by omega)
    rw [h1, h2]
    have e5 : (-(-(M : Int) - 1) - 1).toNat = M := by omega
    simp only [e5, Int.toNat_natCast]
    have : r &&& M ≤ r := Nat.and_le_left
    omega
  rw [e4, bitOr_nat, ← hr, ← hM, small_nat hl' hm' hv']
  push_cast; rfl

-- V3
theorem SZ.sizes {b : Nat} (h : SZ b) : sizes.contains (b : Int) = true := by
  unfold SZ at h
  rcases h with rfl | rfl | rfl | rfl | rfl | rfl | rfl <;> rfl
theorem SZ.mm {b : Nat} (h : SZ b) (h8 : b < 8) : ∃ m : Nat, m = 8 / b ∧ (8 : Int).fdiv b = m ∧ 0 < m ∧ m ≤ 8 ∧ m * b = 8 := by
  unfold SZ at h
  refine ⟨8 / b, rfl, ?_, ?_, ?_, ?_⟩ <;> rcases h with rfl | rfl | rfl | rfl | rfl | rfl | rfl <;> first | rfl | decide | (exfalso; revert h8; decide)
theorem SZ.p2 {b : Nat} (h : SZ b) (h8 : b < 8) : (2 : Int) ^ b ≤ 16 := by
  unfold SZ at h
  rcases h with rfl | rfl | rfl | rfl | rfl | rfl | rfl <;> first | decide | (exfalso; revert h8; decide)
def Oct (os : List Int) : Prop := ∀ x ∈ os, 0 ≤ x ∧ x ≤ 255
theorem Oct.getD {os : List Int} (h : Oct os) (i : Nat) : 0 ≤ os.getD i 0 ∧ os.getD i 0 ≤ 255 := by
  rw [List.getD_eq_getElem?_getD]
  cases e : os[i]? with
  | none => exact ⟨Int.le_refl _, by decide⟩
  | some x => exact h x (List.mem_of_getElem? e)
def gf (os : List Int) (p : Int) : Nat → Int
  | 0 => 0
  | i + 1 => gf os p i * 2 ^ 8 + (if p + i < os.length then os.getD (p + i).toNat 0 else 0)
theorem gf_bd {os : List Int} (h : Oct os) (p : Int) : ∀ i, 0 ≤ gf os p i ∧ gf os p i < 2 ^ (8 * i)
  | 0 => ⟨Int.le_refl _, (show (0 : Int) < 2 ^ 0 by decide)⟩
  | i + 1 => by
    have ih := gf_bd h p i
    have ho := h.getD (p + i).toNat
    have e : (2 : Int) ^ (8 * (i + 1)) = 2 ^ (8 * i) * 2 ^ 8 := by rw [← Int.pow_add]; rfl
    unfold gf
    rw [e]
    generalize (2 : Int) ^ (8 * i) = z at *
    split <;> constructor <;> omega
def vget (os : List Int) (o : Int) (b : Nat) : Int :=
  if o < 0 then 0 else if b < 8 then (if (os.length : Int) ≤ o.fdiv ((8 / b : Nat) : Int) then 0 else (os.getD (o.fdiv ((8 / b : Nat) : Int)).toNat 0).fdiv (2 ^ (o.fmod ((8 / b : Nat) : Int) * b).toNat) % 2 ^ b) else gf os (o * ((b / 8 : Nat) : Int)) (b / 8)

theorem ev_get {w : World} {A : Around} {h₀ : Heap} (W : WW w h₀) (hh : A.handled = none) (hroom : A.depth + 1 < recursionLimit) {x : Str} {o : Int} {b : Nat} {t u z : Tok} (hz : x.cps.size ≤ 10000) (ho : Oct (codes x)) (h1 : o < 2 ^ 40) (hb : SZ b) :
    Ev prg w A (call (.ref 80) [.str x t, .int o u, .int b z]) h₀ (IsI (vget (codes x) o b)) := by
  refine Ev.def [(PySem.Str.ofString "text", .str x t), (PySem.Str.ofString "offset", .int o u), (PySem.Str.ofString "bits", .int b z)] [(PySem.Str.ofString "text", .str x t), (PySem.Str.ofString "offset", .int o u), (PySem.Str.ofString "bits", .int b z)] [] W.K W.lim (by omega) rfl rfl rfl rfl rfl rfl rfl rfl rfl rfl rfl rfl rfl rfl rfl (fun _ h => h) (fun _ h => (nomatch h)) ?_
  intro env s₀ s hs hE hF F
  have W₀ := W.up hs
  have hh' : (A.deeper env).handled = none := hh
  have hroom' : (A.deeper env).depth < recursionLimit := by show A.depth + 1 < recursionLimit; omega
  have hcn := noCells hF rfl
  have hlen : (codes x).length ≤ 10000 := by rw [codes_len]; exact hz
  have hb64 := hb.le
  have hb1 := hb.one
  refine x_expr (P := IsN) F hE (Ev.d1 (P1 := IsV (.int b z)) (W₀.up F.keep) hE rfl (Ev.name (by walk_at "has")) (fun v1 h hs' e1 => ?_)) (fun v h hv a e => by rw [show v = .none from hv] at e; cases e) ?_
  · rw [show v1 = .int b z from e1]
    exact ev_check ((W₀.up F.keep).up hs') hroom' hb.sizes
  intro s₁ k₁ F₁
  refine x_assignLN F₁ hE rfl (ns := codes x) (Ev.d1 (P1 := IsS x) (W₀.up F₁.keep) hE rfl (Ev.nameS (by walk_at "has")) (fun v1 h hs' e1 => ?_)) ?_
  · obtain ⟨t', rfl⟩ := e1
    exact (ev_oct ((W₀.up F₁.keep).up hs') hh' hroom' hz fun c hc => (ho c hc).2).mono fun _ _ hs'' y => y.base hs'
  intro rl rvs rn s₂ hri hrf F₂
  refine x_if0 F₂ (Ev.ltT (a := o) (b := 0) (by walk_at "ev") (by walk_at "ev")) ?_ ?_
  · intro hc s₃ F₃ k₃
    have := of_decide_eq_true hc
    refine x_retD F₃ (Ev.int_eq (k := 0) (by walk_at "ev") ?_)
    unfold vget; rw [if_pos this]
  intro hc s₃ F₃ k₃
  have ho0 := of_decide_eq_false hc
  refine x_if0 F₃ (Ev.ltT (a := (b : Int)) (b := 8) (by walk_at "ev") (by walk_at "ev")) ?_ ?_
  · intro hc s₄ F₄ k₄
    have hb8 : b < 8 := by have := of_decide_eq_true hc; omega
    obtain ⟨m, hm, hm8, hm0, hm1, _⟩ := hb.mm hb8
    refine x_two F₄ hE hh' rfl rfl (i := o.fdiv m) (j := o.fmod m * b) (Ev.d2 (P1 := IsV (.int o u)) (P2 := IsV (.int b z)) (W₀.up F₄.keep) hE rfl (Ev.name (by walk_at "has")) (Ev.name (by walk_at "has")) (fun v1 v2 h hs' e1 e2 => ?_)) ?_
    · rw [show v1 = .int o u from e1, show v2 = .int b z from e2]
      exact ev_small ((W₀.up F₄.keep).up hs') hroom' (by omega) (by omega) hm8 (by omega) (by omega)
    intro tp ts s₅ F₅
    have hlr : Lst s₅.heap rl (codes x) := F₅.lst (by walk_at "mem") hri
    have hq0 : 0 ≤ o.fdiv m := by rw [Int.fdiv_eq_ediv_of_nonneg _ (by omega)]; exact Int.ediv_nonneg (by omega) (by omega)
    have hmod0 : 0 ≤ o.fmod m := Int.fmod_nonneg (by omega) (by omega)
    have hmod1 : o.fmod m < m := Int.fmod_lt_of_pos _ (by omega)
    have hsh0 : 0 ≤ o.fmod m * b := Int.mul_nonneg hmod0 (by omega)
    refine x_if0 F₅ (Ev.geT (a := o.fdiv m) (b := ((codes x).length : Int)) (by walk_at "ev") (Ev.lenL (W₀.up F₅.keep) hE rfl (Ev.nameL (by walk_at "has") hlr) (by omega))) ?_ ?_
    · intro hc s₆ F₆ k₆
      have := of_decide_eq_true hc
      refine x_retD F₆ (Ev.int_eq (k := 0) (by walk_at "ev") ?_)
      unfold vget; rw [if_neg ho0, if_pos hb8, ← hm, if_pos this]
    · intro hc s₆ F₆ k₆
      have hc' := of_decide_eq_false hc
      have hp2 : (2 : Int) ^ ((b : Int)).toNat = 2 ^ b := by rw [Int.toNat_natCast]
      refine x_retD F₆ (Ev.int_eq (Ev.and (Ev.shr (Ev.itemL (Ev.nameL (by walk_at "has") (hlr.up k₆.sub)) (k := o.fdiv m) (by walk_at "ev") hq0 (by omega) (by omega)) (b := o.fmod m * b) (by walk_at "ev") hsh0) (b := 1 * 2 ^ ((b : Int)).toNat - 1) (by walk_at "ev")) ?_)
      rw [Int.one_mul, hp2, kbt_mask]
      unfold vget; rw [if_neg ho0, if_pos hb8, ← hm, if_neg hc']
  intro hc s₄ F₄ k₄
  have hb8 : ¬ b < 8 := by have := of_decide_eq_false hc; omega
  have hsz : ((b : Int)).fdiv 8 = ((b / 8 : Nat) : Int) := by
    rw [Int.fdiv_eq_ediv_of_nonneg _ (by omega)]; omega
  have hsz8 : b / 8 ≤ 8 := by omega
  generalize hn : b / 8 = n at *
  refine x_assignI F₄ hE rfl (i := n) (Ev.int_eq (by walk_at "ev") hsz) ?_
  intro tn s₅ F₅
  refine x_assignI F₅ hE rfl (i := 0) (by walk_at "ev") ?_
  intro tf s₆ F₆
  refine x_for (n := n) (P := fun i v => ∃ t, v = Value.int (0 + (i : Int)) t) (σ := Tok) (fun i z => True)
      (fun i z' => [(PySem.Str.ofString "row", .ref rl), (PySem.Str.ofString "offset", .int o u), (PySem.Str.ofString "size", .int n tn), (PySem.Str.ofString "found", .int (gf (codes x) (o * n) i) z')]) (fun i z => []) [] [] F₆ hE rfl hcn
      (Ev.itrR hh' (Ev.rangeN1 (W₀.up F₆.keep) hE rfl (a := n) (by walk_at "ev")) (by omega) (by omega) (by omega)) ?_ ?_ ?_ ?_ ?_
  · intro p hp; cases hp
  · intro p hp; cases hp
  · refine ⟨tf, trivial, ?_, ?_⟩
    · intro p hp
      simp only [List.mem_cons, List.not_mem_nil, or_false] at hp
      rcases hp with rfl | rfl | rfl | rfl
      · walk_at "mem"
      · walk_at "mem"
      · walk_at "mem"
      · exact List.mem_cons_self
    · intro p hp; cases hp
  · intro b' i zt v s' io hbb hkeep hio hi hK hP F'
    obtain ⟨t', rfl⟩ := hP
    have hgf := gf_bd ho (o * n) i
    have hi' : 8 * i ≤ 56 := by omega
    have hg2 : gf (codes x) (o * n) i < 2 ^ 56 := Int.lt_of_lt_of_le hgf.2 (by
      have := Nat.pow_le_pow_right (n := 2) (by decide) hi'
      exact_mod_cast this)
    have on0 : 0 ≤ o * n := Int.mul_nonneg (by omega) (by omega)
    have on1 : o * n < 2 ^ 44 := by
      have : o * n ≤ o * 8 := Int.mul_le_mul_of_nonneg_left (by omega) (by omega)
      omega
    refine x_assignI F' hE rfl (i := o * n + (0 + (i : Int))) (by walk_at "ev") ?_
    intro tp s'' F''
    have hlr : Lst s''.heap rl (codes x) :=
      Lst.up (Lst.mk' (hkeep _ _ (F₆.get (l := rl) (by walk_at "mem")) (F₆.notHidden hcn (l := rl) (o := lobj rvs rn) (by walk_at "mem") (by simp))) hri) F''.keep
    have Wt := (W₀.up hbb).up F''.keep
    refine x_assignI F'' hE rfl (i := gf (codes x) (o * n) (i + 1)) (Ev.int_eq (Ev.or (Ev.shl (a := gf (codes x) (o * n) i) (b := 8) (by walk_at "ev") (by walk_at "ev") (by decide) (by decide) (by omega)) (b := if o * n + i < (codes x).length then (codes x).getD (o * n + i).toNat 0 else 0) (Ev.ite (Ev.ltT (a := o * n + (0 + (i : Int))) (b := ((codes x).length : Int)) (by walk_at "ev") (Ev.lenL Wt hE rfl (Ev.nameL (by walk_at "has") hlr) (by omega))) ?_ ?_)) ?_) ?_
    · intro hc
      have hc' := of_decide_eq_true hc
      refine Ev.int_eq (Ev.itemL (Ev.nameL (by walk_at "has") hlr) (k := o * n + (0 + (i : Int))) (by walk_at "ev") (by omega) (by omega) (by omega)) ?_
      rw [if_pos (by omega), Int.zero_add]
    · intro hc
      have hc' := of_decide_eq_false hc
      refine Ev.int_eq (k := 0) (by walk_at "ev") ?_
      rw [if_neg (by omega)]
    · have hod := ho.getD (o * n + i).toNat
      rw [show ((8 : Int)).toNat = 8 from rfl, bitOr_add hgf.1 (by split <;> omega) (by split <;> omega)]
      rfl
    · intro tf' s3 F3
      refine x_nil ⟨tf', trivial, F3.sub ?_ ?_ ?_, ?_⟩
      · intro p hp
        simp only [List.mem_cons, List.not_mem_nil, or_false] at hp
        rcases hp with rfl | rfl | rfl | rfl <;> walk_at "mem"
      · intro p hp; exact hp
      · intro p hp; exact hp
      · intro p hp; cases hp
  · intro zt s' hK F'
    refine x_retD F' (Ev.int_eq (by walk_at "ev") ?_)
    unfold vget; rw [if_neg ho0, if_neg hb8, hn]

-- V4
section
variable {w : World} {A : Around} {base : Heap} {outer : List Env} {h₀ : Heap} {env : Env} {names : List (Str × NameKind)} {e1 e2 e3 e4 e5 : Expr} {fp pos : Pos} {P1 P2 P3 P4 P5 P : Value → Heap → Prop}
theorem Rs.d1 {f : Str} {a : Addr} (W : WW w h₀) (hE : EnvOk env names) (hl : names.lookup f = some .globalImplicit) (h1 : Ev prg w A (eval e1 env) h₀ P1)
    (hc : ∀ v1 h, Sub h₀ h → P1 v1 h → Rs w A base outer (call (.ref a) [v1]) h)
    (hn : nsIn (hd.heap_39 w.params) mainGlobals f = some (some (.ref a)) := by rfl) (hk : keepIn (hd.heap_39 w.params) (.ref a) = true := by rfl) (hd' : (f == ("__debug__" : Str)) = false := by decide)
    (he : starEach [e1] env = (false, eval e1 env) :: starEach [] env := by rfl) : Rs w A base outer (eval (.Call (.Name f fp) [e1] [] pos) env) h₀ := by
  refine Rs.callD W (Has.glob W hE hl hn) hk hd' (Ev.args h1 Ev.args0 he) ?_ he rfl
  rintro vs h hs ⟨v1, r, rfl, p1, rfl⟩
  exact hc v1 h hs p1
theorem Rs.d3 {f : Str} {a : Addr} (W : WW w h₀) (hE : EnvOk env names) (hl : names.lookup f = some .globalImplicit) (h1 : Ev prg w A (eval e1 env) h₀ P1) (h2 : Ev prg w A (eval e2 env) h₀ P2) (h3 : Ev prg w A (eval e3 env) h₀ P3)
    (hc : ∀ v1 v2 v3 h, Sub h₀ h → P1 v1 h → P2 v2 h → P3 v3 h → Rs w A base outer (call (.ref a) [v1, v2, v3]) h)
    (hn : nsIn (hd.heap_39 w.params) mainGlobals f = some (some (.ref a)) := by rfl) (hk : keepIn (hd.heap_39 w.params) (.ref a) = true := by rfl) (hd' : (f == ("__debug__" : Str)) = false := by decide)
    (he : starEach [e1, e2, e3] env = (false, eval e1 env) :: starEach [e2, e3] env := by rfl) (he2 : starEach [e2, e3] env = (false, eval e2 env) :: starEach [e3] env := by rfl) (he3 : starEach [e3] env = (false, eval e3 env) :: starEach [] env := by rfl)
    (hp : (backTo pos (starEach [e2, e3] env)).any (·.1) = false := by rfl) : Rs w A base outer (eval (.Call (.Name f fp) [e1, e2, e3] [] pos) env) h₀ := by
  refine Rs.callD W (Has.glob W hE hl hn) hk hd' (Ev.args h1 (Ev.args h2 (Ev.args h3 Ev.args0 he3) he2) he) ?_ he hp
  rintro vs h hs ⟨v1, r, rfl, p1, v2, r2, rfl, p2, v3, r3, rfl, p3, rfl⟩
  exact hc v1 v2 v3 h hs p1 p2 p3
theorem Rs.d5 {f : Str} {a : Addr} (W : WW w h₀) (hE : EnvOk env names) (hl : names.lookup f = some .globalImplicit) (h1 : Ev prg w A (eval e1 env) h₀ P1) (h2 : Ev prg w A (eval e2 env) h₀ P2) (h3 : Ev prg w A (eval e3 env) h₀ P3) (h4 : Ev prg w A (eval e4 env) h₀ P4) (h5 : Ev prg w A (eval e5 env) h₀ P5)
    (hc : ∀ v1 v2 v3 v4 v5 h, Sub h₀ h → P1 v1 h → P2 v2 h → P3 v3 h → P4 v4 h → P5 v5 h → Rs w A base outer (call (.ref a) [v1, v2, v3, v4, v5]) h)
    (hn : nsIn (hd.heap_39 w.params) mainGlobals f = some (some (.ref a)) := by rfl) (hk : keepIn (hd.heap_39 w.params) (.ref a) = true := by rfl) (hd' : (f == ("__debug__" : Str)) = false := by decide)
    (he : starEach [e1, e2, e3, e4, e5] env = (false, eval e1 env) :: starEach [e2, e3, e4, e5] env := by rfl) (he2 : starEach [e2, e3, e4, e5] env = (false, eval e2 env) :: starEach [e3, e4, e5] env := by rfl) (he3 : starEach [e3, e4, e5] env = (false, eval e3 env) :: starEach [e4, e5] env := by rfl)
    (he4 : starEach [e4, e5] env = (false, eval e4 env) :: starEach [e5] env := by rfl) (he5 : starEach [e5] env = (false, eval e5 env) :: starEach [] env := by rfl)
    (hp : (backTo pos (starEach [e2, e3, e4, e5] env)).any (·.1) = false := by rfl) : Rs w A base outer (eval (.Call (.Name f fp) [e1, e2, e3, e4, e5] [] pos) env) h₀ := by
  refine Rs.callD W (Has.glob W hE hl hn) hk hd' (Ev.args h1 (Ev.args h2 (Ev.args h3 (Ev.args h4 (Ev.args h5 Ev.args0 he5) he4) he3) he2) he) ?_ he hp
  rintro vs h hs ⟨v1, r, rfl, p1, v2, r2, rfl, p2, v3, r3, rfl, p3, v4, r4, rfl, p4, v5, r5, rfl, p5, rfl⟩
  exact hc v1 v2 v3 v4 v5 h hs p1 p2 p3 p4 p5
theorem Ev.d5 {f : Str} {a : Addr} (W : WW w h₀) (hE : EnvOk env names) (hl : names.lookup f = some .globalImplicit) (h1 : Ev prg w A (eval e1 env) h₀ P1) (h2 : Ev prg w A (eval e2 env) h₀ P2) (h3 : Ev prg w A (eval e3 env) h₀ P3) (h4 : Ev prg w A (eval e4 env) h₀ P4) (h5 : Ev prg w A (eval e5 env) h₀ P5)
    (hc : ∀ v1 v2 v3 v4 v5 h, Sub h₀ h → P1 v1 h → P2 v2 h → P3 v3 h → P4 v4 h → P5 v5 h → Ev prg w A (call (.ref a) [v1, v2, v3, v4, v5]) h P)
    (hn : nsIn (hd.heap_39 w.params) mainGlobals f = some (some (.ref a)) := by rfl) (hk : keepIn (hd.heap_39 w.params) (.ref a) = true := by rfl) (hd' : (f == ("__debug__" : Str)) = false := by decide)
    (he : starEach [e1, e2, e3, e4, e5] env = (false, eval e1 env) :: starEach [e2, e3, e4, e5] env := by rfl) (he2 : starEach [e2, e3, e4, e5] env = (false, eval e2 env) :: starEach [e3, e4, e5] env := by rfl) (he3 : starEach [e3, e4, e5] env = (false, eval e3 env) :: starEach [e4, e5] env := by rfl)
    (he4 : starEach [e4, e5] env = (false, eval e4 env) :: starEach [e5] env := by rfl) (he5 : starEach [e5] env = (false, eval e5 env) :: starEach [] env := by rfl)
    (hp : (backTo pos (starEach [e2, e3, e4, e5] env)).any (·.1) = false := by rfl) : Ev prg w A (eval (.Call (.Name f fp) [e1, e2, e3, e4, e5] [] pos) env) h₀ P := by
  refine Ev.callD W (Has.glob W hE hl hn) hk hd' (Ev.args h1 (Ev.args h2 (Ev.args h3 (Ev.args h4 (Ev.args h5 Ev.args0 he5) he4) he3) he2) he) ?_ he hp
  rintro vs h hs ⟨v1, r, rfl, p1, v2, r2, rfl, p2, v3, r3, rfl, p3, v4, r4, rfl, p4, v5, r5, rfl, p5, rfl⟩
  exact hc v1 v2 v3 v4 v5 h hs p1 p2 p3 p4 p5
end

section
variable {w : World} {A : Around} {base : Heap} {outer : List Env} {h₀ : Heap}
theorem rs_get1 (W : WW w h₀) (hh : A.handled = none) (hroom : A.depth + 4 < recursionLimit) {x : Str} {o b : Int} {t u z : Tok} (hb : sizes.contains b = false) :
    Rs w A base outer (call (.ref 80) [.str x t, .int o u, .int b z]) h₀ := by
  refine Rs.def [(PySem.Str.ofString "text", .str x t), (PySem.Str.ofString "offset", .int o u), (PySem.Str.ofString "bits", .int b z)] [(PySem.Str.ofString "text", .str x t), (PySem.Str.ofString "offset", .int o u), (PySem.Str.ofString "bits", .int b z)] [] W.K W.lim (by omega) rfl rfl rfl rfl rfl rfl rfl rfl rfl rfl rfl rfl rfl rfl rfl (fun _ h => h) (fun _ h => (nomatch h)) ?_
  intro env s₀ s hs hE hF F hB
  have W₀ := W.up hs
  have hh' : (A.deeper env).handled = none := hh
  have hroom' : (A.deeper env).depth + 3 < recursionLimit := by show A.depth + 1 + 3 < recursionLimit; omega
  refine x_exprR hE (Rs.d1 (P1 := IsV (.int b z)) (W₀.up F.keep) hE rfl (Ev.name (by walk_at "has")) (fun v1 h hs' e1 => ?_)) (hB F F.keep) (RB.on F (hB F F.keep))
  rw [show v1 = .int b z from e1]
  exact rs_check ((W₀.up F.keep).up hs') hh' hroom' hb

theorem rs_get2 (W : WW w h₀) (hh : A.handled = none) (hroom : A.depth + 4 < recursionLimit) {x : Str} {o b : Int} {t u z : Tok} (hb : sizes.contains b = true) (hz : x.cps.size ≤ 10000) {j : Nat} {k0 : Int} (hj : (codes x)[j]? = some k0) (hj2 : 255 < k0) :
    Rs w A base outer (call (.ref 80) [.str x t, .int o u, .int b z]) h₀ := by
  refine Rs.def [(PySem.Str.ofString "text", .str x t), (PySem.Str.ofString "offset", .int o u), (PySem.Str.ofString "bits", .int b z)] [(PySem.Str.ofString "text", .str x t), (PySem.Str.ofString "offset", .int o u), (PySem.Str.ofString "bits", .int b z)] [] W.K W.lim (by omega) rfl rfl rfl rfl rfl rfl rfl rfl rfl rfl rfl rfl rfl rfl rfl (fun _ h => h) (fun _ h => (nomatch h)) ?_
  intro env s₀ s hs hE hF F hB
  have W₀ := W.up hs
  have hh' : (A.deeper env).handled = none := hh
  have hroom' : (A.deeper env).depth + 3 < recursionLimit := by show A.depth + 1 + 3 < recursionLimit; omega
  refine x_expr (P := IsN) F hE (Ev.d1 (P1 := IsV (.int b z)) (W₀.up F.keep) hE rfl (Ev.name (by walk_at "has")) (fun v1 h hs' e1 => ?_)) (fun v h hv a e => by rw [show v = .none from hv] at e; cases e) ?_
  · rw [show v1 = .int b z from e1]
    exact ev_check ((W₀.up F.keep).up hs') (by omega) hb
  intro s₁ k₁ F₁
  refine x_assignR' (Rs.d1 (P1 := IsS x) (W₀.up F₁.keep) hE rfl (Ev.nameS (by walk_at "has")) (fun v1 h hs' e1 => ?_)) (hB F₁ F₁.keep) (RB.on F₁ (hB F₁ F₁.keep))
  obtain ⟨t', rfl⟩ := e1
  exact rs_oct ((W₀.up F₁.keep).up hs') hh' hroom' hz hj hj2

theorem rs_fill (W : WW w h₀) (hh : A.handled = none) (hroom : A.depth + 3 < recursionLimit) {l q : Addr} {k m : Int} {t : Tok} (hL : Lim h₀ q m) (hk : m < k) :
    Rs w A base outer (call (.ref 87) [.ref l, .int k t, .ref q]) h₀ := by
  refine Rs.def [(PySem.Str.ofString "row", .ref l), (PySem.Str.ofString "many", .int k t), (PySem.Str.ofString "limits", .ref q)] [(PySem.Str.ofString "row", .ref l), (PySem.Str.ofString "many", .int k t), (PySem.Str.ofString "limits", .ref q)] [] W.K W.lim (by omega) rfl rfl rfl rfl rfl rfl rfl rfl rfl rfl rfl rfl rfl rfl rfl (fun _ h => h) (fun _ h => (nomatch h)) ?_
  intro env s₀ s hs hE hF F hB
  have W₀ := W.up hs
  have hL₀ := hL.up hs
  have hh' : (A.deeper env).handled = none := hh
  have hroom' : (A.deeper env).depth + 2 < recursionLimit := by show A.depth + 1 + 2 < recursionLimit; omega
  refine x_if0 F (Ev.gtT (a := k) (b := m) (by walk_at "ev") (Ev.limText (W₀.up F.keep) (by walk_at "has") (hL₀.up F.keep) (by decide))) ?_ ?_
  · intro hc s' F' k'
    exact x_raise (W₀.up F'.keep) hE rfl hh' hroom' (RB.new F' (hB F' F'.keep))
  · intro hc
    have := of_decide_eq_false hc
    omega

theorem fill_call {s : Shared} {E : Value → Shared → Prop} {Q : Value → Shared → Prop} (W : WW w h₀) (hs : Sub h₀ s.heap) (hroom : A.depth < recursionLimit) {l q : Addr} {vs : List Value} {n : Nat} {ns : List Int} {k m : Int} {t : Tok} (hen : h₀.get? l = none) (ho : s.heap.get? l = some (lobj vs n)) (hi : IntsAre vs ns)
    (hL : Lim h₀ q m) (hk : k ≤ m) (hk0 : 0 ≤ k) (hk1 : k ≤ 10000) (hz : ns.length ≤ 10000)
    (kk : ∀ s' vs' n', Like s s' → But [l] s.heap s'.heap → s'.heap.get? l = some (lobj vs' n') → IntsAre vs' (ns ++ List.replicate (k - ns.length).toNat 0) → Q .none s') :
    wpAny (model prg w) A (call (.ref 87) [.ref l, .int k t, .ref q]) Q E s := by
  refine call_d [(PySem.Str.ofString "row", .ref l), (PySem.Str.ofString "many", .int k t), (PySem.Str.ofString "limits", .ref q)] [(PySem.Str.ofString "row", .ref l), (PySem.Str.ofString "many", .int k t), (PySem.Str.ofString "limits", .ref q)] [] (W.up hs).K (W.up hs).lim hroom rfl rfl rfl rfl rfl rfl rfl rfl rfl rfl rfl rfl rfl rfl rfl (fun _ h => h) (fun _ h => (nomatch h)) ?_
  intro env s₁ hE hF F0
  have F := F0.expose ho
  have kb : Sub h₀ (hideAll s.heap [l]) := hide1 hs hen
  have Wb := W.up kb
  have hsl : ∀ n : Nat, n ≤ 20000 → n ≤ sizeLine := fun n h => Nat.le_trans h (by decide)
  refine x_if0 F (Ev.gtT (a := k) (b := m) (by walk_at "ev") (Ev.limText (Wb.up F.keep) (by walk_at "has") ((hL.up kb).up F.keep) (by decide))) ?_ ?_
  · intro hc
    have := of_decide_eq_true hc
    omega
  · intro hc s₂ F₂ k₂
    have W₂ := Wb.up F₂.keep
    have hl₂ : Lst s₂.heap l ns := F₂.lst (by walk_at "mem") hi
    refine x_extend F₂ hE (ns := ns) (ms := List.replicate (k - ns.length).toNat 0) (by walk_at "has") (by decide) (Ev.repL (Ev.disp1 (a := 0) Ev.cInt) (Ev.sub (a := k) (b := ns.length) (by walk_at "ev") (Ev.lenL W₂ hE rfl (Ev.nameL (by walk_at "has") hl₂) (by omega))) (by omega) (by omega)) (by walk_at "mem") hi (by simp; exact hsl _ (by omega)) ?_
    intro vs' n' s₃ hi' F₃ hb
    exact x_nil (kk s₃ vs' n' F₃.same (but_of_hide F₃.keep) (F₃.get List.mem_cons_self) hi')
end

-- V5
def smallOf (r v : Int) (s b : Nat) : Int := Builtin.bitOr (Builtin.bitAnd r (Builtin.bitNot ((2 ^ b - 1) * 2 ^ s))) (v * 2 ^ s)
def setf (row : List Int) (p v : Int) (n : Nat) : Nat → List Int
  | 0 => row
  | i + 1 => (setf row p v n i).set (p + i).toNat (v.fdiv (2 ^ (8 * (n - 1 - i))) % 2 ^ 8)
def fillS (os : List Int) (o : Int) (b : Nat) : List Int := os ++ List.replicate (o.fdiv ((8 / b : Nat) : Int) + 1 - os.length).toNat 0
def fillB (os : List Int) (o : Int) (b : Nat) : List Int := os ++ List.replicate ((o + 1) * ((b / 8 : Nat) : Int) - os.length).toNat 0
def vsetS (os : List Int) (o : Int) (b : Nat) (v : Int) : List Int :=
  (fillS os o b).set (o.fdiv ((8 / b : Nat) : Int)).toNat (smallOf ((fillS os o b).getD (o.fdiv ((8 / b : Nat) : Int)).toNat 0) (v % 2 ^ b) (o.fmod ((8 / b : Nat) : Int) * b).toNat b)
def vsetB (os : List Int) (o : Int) (b : Nat) (v : Int) : List Int := setf (fillB os o b) (o * ((b / 8 : Nat) : Int)) (v % 2 ^ b) (b / 8) (b / 8)
def vset (os : List Int) (o : Int) (b : Nat) (v : Int) : List Int := if b < 8 then vsetS os o b v else vsetB os o b v
/-- how many octets vec_fill is asked for -/
def need (o : Int) (b : Nat) : Int := if b < 8 then o.fdiv ((8 / b : Nat) : Int) + 1 else (o + 1) * ((b / 8 : Nat) : Int)
theorem setf_len (row : List Int) (p v : Int) (n : Nat) : ∀ i, (setf row p v n i).length = row.length
  | 0 => rfl
  | i + 1 => by unfold setf; rw [List.length_set, setf_len row p v n i]

section
variable {w : World} {A : Around} {h₀ b : Heap} {env : Env} {names : List (Str × NameKind)} {vars cvars : List (Str × Value)} {news : List (Addr × Obj)} {s₀ s : Shared} {rest : List Stmt} {Q : Flow → Shared → Prop} {E : Value → Shared → Prop}
theorem Ev.chrs {l : Addr} {ns : List Int} {p1 p2 p3 p4 p5 p6 : Pos} (W : WW w h₀) (hE : EnvOk env names) (hh : A.handled = none) (hr : Has env h₀ (PySem.Str.ofString "row") (.ref l)) (hl : Lst h₀ l ns) (ho : ∀ x ∈ ns, 0 ≤ x ∧ x ≤ 1114111) (hz : ns.length ≤ 20000) :
    Ev prg w A (eval (.ListComp (.Call (.Name (PySem.Str.ofString "chr") p1) [.Name (PySem.Str.ofString "octet") p2] [] p3) [⟨.Name (PySem.Str.ofString "octet") p4, .Name (PySem.Str.ofString "row") p5, [], 0⟩]
      { kind := ScopeKind.function, names := [(PySem.Str.ofString ".0", .local), (PySem.Str.ofString "octet", .local), (PySem.Str.ofString "chr", .globalImplicit)], isGenerator := false, isCoroutine := false, more := [] } p6) env) h₀
      (ListR h₀ ns.length fun i y => ∃ t, y = .str (tx [ns.getD i 0]) t) := by
  refine Ev.comp (P := fun i v => ∃ k t, ns[i]? = some k ∧ v = .int k t) hE rfl (by decide) (.inl (by decide)) (by decide) (nofree (by decide)) ((Ev.name hr).mono fun v h' hs' hv => ?_) (Nat.le_trans hz (by decide)) ?_
  · have : v = .ref l := hv
    subst this
    exact Itr.ints hh (hl.up hs') (fun h => nomatch h)
  · intro i v cenv h hs' hi hP C hx _
    obtain ⟨k, t, hk, rfl⟩ := hP
    have hk1 := ho k (List.mem_of_getElem? hk)
    refine (Ev.chr (W.up hs') C.ok rfl (Ev.nameI hx) hk1.1 hk1.2).mono ?_
    intro v h' _ hv
    obtain ⟨t3, rfl⟩ := hv
    rw [getD_of hk]
    exact ⟨t3, rfl⟩

theorem x_fill {e1 e2 e3 : Expr} {fp pos pos' : Pos} {l q : Addr} {vs : List Value} {n : Nat} {ns : List Int} {k m : Int} (F : Fm b env vars cvars news s₀ s) (W : WW w b) (hE : EnvOk env names) (hl : names.lookup (PySem.Str.ofString "vec_fill") = some .globalImplicit) (hroom : A.depth < recursionLimit)
    (h1 : Ev prg w A (eval e1 env) s.heap (IsV (.ref l))) (h2 : Ev prg w A (eval e2 env) s.heap (IsI k)) (h3 : Ev prg w A (eval e3 env) s.heap (IsV (.ref q))) (hln : (l, lobj vs n) ∈ news) (hi : IntsAre vs ns)
    (hL : Lim b q m) (hk : k ≤ m) (hk0 : 0 ≤ k) (hk1 : k ≤ 10000) (hz : ns.length ≤ 10000)
    (cont : ∀ vs' n' s', IntsAre vs' (ns ++ List.replicate (k - ns.length).toNat 0) → Fm b env vars cvars ((l, lobj vs' n') :: news.filter fun p => p.1 != l) s₀ s' → wpAny (model prg w) A (execs rest env) Q E s')
    (he : starEach [e1, e2, e3] env = (false, eval e1 env) :: starEach [e2, e3] env := by rfl) (he2 : starEach [e2, e3] env = (false, eval e2 env) :: starEach [e3] env := by rfl) (he3 : starEach [e3] env = (false, eval e3 env) :: starEach [] env := by rfl)
    (hp : (backTo pos (starEach [e2, e3] env)).any (·.1) = false := by rfl)
    (hs : swapsWith (.Call (.Name (PySem.Str.ofString "vec_fill") fp) [e1, e2, e3] [] pos) none pos'.line env = pure false := by rfl) :
    wpAny (model prg w) A (execs (.Expr (.Call (.Name (PySem.Str.ofString "vec_fill") fp) [e1, e2, e3] [] pos) pos' :: rest) env) Q E s := by
  have W' := W.up F.keep
  refine wpAny_execs_cons (wpAny_Expr (hi := hE.quiet) (hs := hs) ?_)
  refine wpAny_Call_ofName (wpAny_Name ((Has.glob W' hE hl (show nsIn (KK w) mainGlobals (PySem.Str.ofString "vec_fill") = some (some (.ref 87)) by rfl)) _ _ _ s _ Sub.rfl' ?_))
  refine callWith_K W'.K (by rfl) ((Ev.args h1 (Ev.args h2 (Ev.args h3 Ev.args0 he3) he2) he).use fun vs1 s₁ k₁ hb => ?_) he hp
  obtain ⟨v1, _, rfl, e1, v2, _, rfl, ⟨t2, rfl⟩, v3, _, rfl, e3, rfl⟩ := hb.here
  rw [show v1 = .ref l from e1, show v3 = .ref q from e3]
  have F₁ := F.kp k₁
  refine ⟨(W'.up k₁.sub).K, fill_call W F₁.keep hroom (F₁.nw _ hln).2.1 (F₁.get hln) hi hL hk hk0 hk1 hz fun s' vs' n' lk bt ho hi' => ?_⟩
  obtain ⟨h', tk, rfl⟩ := lk
  exact cont vs' n' _ hi' (F₁.upd hln bt ho)
end
theorem Lst.of_obj {h : Heap} {l : Addr} {o : Obj} {ns : List Int} (e : h.get? l = some o) (i : ObjL o ns) : Lst h l ns := let ⟨c, n, vs, d, hi⟩ := i; ⟨vs, ⟨o, e, c, n, d⟩, hi⟩

theorem ev_set {w : World} {A : Around} {h₀ : Heap} (W : WW w h₀) (hh : A.handled = none) (hroom : A.depth + 1 < recursionLimit) {x : Str} {o v m : Int} {b : Nat} {t u z y : Tok} {q : Addr} (hz : x.cps.size ≤ 10000) (ho : Oct (codes x)) (h0 : 0 ≤ o) (h1 : o < 2 ^ 40) (hb : SZ b) (hL : Lim h₀ q m) (hm : need o b ≤ m) (hm2 : m ≤ 10000) (hr : Oct (vset (codes x) o b v)) :
    Ev prg w A (call (.ref 92) [.str x t, .int o u, .int b z, .int v y, .ref q]) h₀ (IsS (tx (vset (codes x) o b v))) := by
  refine Ev.def [(PySem.Str.ofString "text", .str x t), (PySem.Str.ofString "offset", .int o u), (PySem.Str.ofString "bits", .int b z), (PySem.Str.ofString "value", .int v y), (PySem.Str.ofString "limits", .ref q)] [(PySem.Str.ofString "text", .str x t), (PySem.Str.ofString "offset", .int o u), (PySem.Str.ofString "bits", .int b z), (PySem.Str.ofString "value", .int v y), (PySem.Str.ofString "limits", .ref q)] [] W.K W.lim (by omega) rfl rfl rfl rfl rfl rfl rfl rfl rfl rfl rfl rfl rfl rfl rfl (fun _ h => h) (fun _ h => (nomatch h)) ?_
  intro env s₀ s hs hE hF F
  have W₀ := W.up hs
  have hL₀ := hL.up hs
  have hh' : (A.deeper env).handled = none := hh
  have hroom' : (A.deeper env).depth < recursionLimit := by show A.depth + 1 < recursionLimit; omega
  have hcn := noCells hF rfl
  have hlen : (codes x).length ≤ 10000 := by rw [codes_len]; exact hz
  have hb64 := hb.le
  have hb1 := hb.one
  refine x_expr (P := IsN) F hE (Ev.d1 (P1 := IsV (.int b z)) (W₀.up F.keep) hE rfl (Ev.name (by walk_at "has")) (fun v1 h hs' e1 => ?_)) (fun v h hv a e => by rw [show v = .none from hv] at e; cases e) ?_
  · rw [show v1 = .int b z from e1]
    exact ev_check ((W₀.up F.keep).up hs') hroom' hb.sizes
  intro s₁ k₁ F₁
  refine x_assignLN F₁ hE rfl (ns := codes x) (Ev.d1 (P1 := IsS x) (W₀.up F₁.keep) hE rfl (Ev.nameS (by walk_at "has")) (fun v1 h hs' e1 => ?_)) ?_
  · obtain ⟨t', rfl⟩ := e1
    exact (ev_oct ((W₀.up F₁.keep).up hs') hh' hroom' hz fun c hc => (ho c hc).2).mono fun _ _ hs'' y => y.base hs'
  intro rl rvs rn s₂ hri hrf F₂
  refine x_if0 F₂ (Ev.ltT (a := o) (b := 0) (by walk_at "ev") (by walk_at "ev")) ?_ ?_
  · intro hc
    have := of_decide_eq_true hc
    omega
  intro hc s₃ F₃ k₃
  have hpb : (2 : Int) ^ ((b : Int)).toNat = 2 ^ b := by rw [Int.toNat_natCast]
  have hvm0 : 0 ≤ v % 2 ^ b := Int.emod_nonneg _ (Int.ne_of_gt (pow_pos' b))
  have hvm1 : v % 2 ^ b < 2 ^ b := Int.emod_lt_of_pos _ (pow_pos' b)
  refine x_augI (i := v % 2 ^ b) (P := IsI (2 ^ b - 1)) F₃ hE rfl (u := .int v y) (by walk_at "mem") (Ev.int_eq (Ev.sub (a := 1 * 2 ^ ((b : Int)).toNat) (b := 1) (Ev.shl (a := 1) (b := b) (by walk_at "ev") (by walk_at "ev") (by omega) (by omega) (by decide)) (by walk_at "ev")) (by rw [hpb, Int.one_mul])) (fun v1 h hs' e1 => ?_) ?_
  · obtain ⟨t', rfl⟩ := e1
    refine Ev.int_eq (Ev.of0 fun s E Q hs hq => iand_int (hq _ _ IsI.box)) (kbt_mask v b)
  intro tv s₄ F₄
  refine x_if F₄ (Ev.ltT (a := (b : Int)) (b := 8) (by walk_at "ev") (by walk_at "ev")) ?_ ?_
  · intro hc s₅ F₅ k₅
    have hb8 : b < 8 := by have := of_decide_eq_true hc; omega
    have hvs : vset (codes x) o b v = vsetS (codes x) o b v := by unfold vset; rw [if_pos hb8]
    have hneed : need o b = o.fdiv ((8 / b : Nat) : Int) + 1 := by unfold need; rw [if_pos hb8]
    rw [hneed] at hm
    obtain ⟨m', hmm, hm8, hm0, hm1', hm1⟩ := hb.mm hb8
    rw [hvs] at hr ⊢
    unfold vsetS fillS at hr ⊢
    rw [← hmm] at hr hm ⊢
    refine x_two F₅ hE hh' rfl rfl (i := o.fdiv m') (j := o.fmod m' * b) (Ev.d2 (P1 := IsV (.int o u)) (P2 := IsV (.int b z)) (W₀.up F₅.keep) hE rfl (Ev.name (by walk_at "has")) (Ev.name (by walk_at "has")) (fun v1 v2 h hs' e1 e2 => ?_)) ?_
    · rw [show v1 = .int o u from e1, show v2 = .int b z from e2]
      exact ev_small ((W₀.up F₅.keep).up hs') hroom' (by omega) (by omega) hm8 (by omega) (by omega)
    intro tp ts s₆ F₆
    have hq0 : 0 ≤ o.fdiv m' := by rw [Int.fdiv_eq_ediv_of_nonneg _ (by omega)]; exact Int.ediv_nonneg (by omega) (by omega)
    have hmod0 : 0 ≤ o.fmod m' := Int.fmod_nonneg (by omega) (by omega)
    have hmod1 : o.fmod m' < m' := Int.fmod_lt_of_pos _ (by omega)
    have hsh0 : 0 ≤ o.fmod m' * b := Int.mul_nonneg hmod0 (by omega)
    have hsh1 : o.fmod m' * b ≤ 8 := by
      have : o.fmod m' * b ≤ m' * b := Int.mul_le_mul_of_nonneg_right (by omega) (by omega)
      have h8 : (m' : Int) * b = 8 := by exact_mod_cast hm1
      omega
    have h2b : (2 : Int) ^ b ≤ 16 := hb.p2 hb8
    have h2b' := pow_pos' b
    refine x_fill (k := o.fdiv m' + 1) F₆ W₀ hE rfl hroom' (Ev.name (by walk_at "has")) (by walk_at "ev") (Ev.name (by walk_at "has")) (by walk_at "mem") hri hL₀ hm (by omega) (by omega) hlen ?_
    intro vs' n' s₇ hi' F₇
    generalize hrow : codes x ++ List.replicate (o.fdiv m' + 1 - ((codes x).length : Int)).toNat 0 = row at *
    have hrlen : o.fdiv m' < row.length := by rw [← hrow]; simp; omega
    have hrlen2 : row.length ≤ 20000 := by rw [← hrow]; simp; omega
    have hlr : Lst s₇.heap rl row := F₇.lst (by walk_at "mem") hi'
    refine x_assignI F₇ hE rfl (i := Builtin.bitAnd (row.getD (o.fdiv m').toNat 0) (Builtin.bitNot ((2 ^ b - 1) * 2 ^ (o.fmod m' * b).toNat))) (Ev.int_eq (Ev.and (Ev.itemL (Ev.nameL (by walk_at "has") hlr) (k := o.fdiv m') (by walk_at "ev") hq0 (by omega) (by omega)) (Ev.inv (Ev.shl (a := 1 * 2 ^ ((b : Int)).toNat - 1) (b := o.fmod m' * b) (Ev.sub (Ev.shl (a := 1) (b := b) (by walk_at "ev") (by walk_at "ev") (by omega) (by omega) (by decide)) (by walk_at "ev")) (by walk_at "ev") hsh0 (by omega) (by rw [hpb]; omega)))) (by rw [hpb, Int.one_mul])) ?_
    intro tk s₈ F₈
    refine x_store (l := rl) (k := o.fdiv m') (v := smallOf (row.getD (o.fdiv m').toNat 0) (v % 2 ^ b) (o.fmod m' * b).toNat b) F₈ (Ev.int_eq (Ev.or (by walk_at "ev") (Ev.shl (a := v % 2 ^ b) (b := o.fmod m' * b) (by walk_at "ev") (by walk_at "ev") hsh0 (by omega) (by omega))) rfl) (by walk_at "has") (by decide) (by walk_at "ev") (o := lobj vs' n') (by walk_at "mem") (ObjL.lobj hi') hq0 hrlen (by omega) ?_
    intro o' s₉ ho' F₉ _
    refine x_nil ?_
    have hl₉ := F₉.lstO (l := rl) (o := o') (by walk_at "mem") ho'
    exact x_retD F₉ (Ev.joinE (h₁ := s₉.heap) (os := row.set (o.fdiv m').toNat _) (Ev.chrs (W₀.up F₉.keep) hE hh' (by walk_at "has") hl₉ (fun x hx => ⟨(hr x hx).1, Int.le_trans (hr x hx).2 (by decide)⟩) (by simp; omega)) (by simp; omega))
  · intro hc s₅ F₅ k₅
    have hb8 : ¬ b < 8 := by have := of_decide_eq_false hc; omega
    have hvs : vset (codes x) o b v = vsetB (codes x) o b v := by unfold vset; rw [if_neg hb8]
    have hneed : need o b = (o + 1) * ((b / 8 : Nat) : Int) := by unfold need; rw [if_neg hb8]
    rw [hneed] at hm
    rw [hvs] at hr ⊢
    unfold vsetB fillB at hr ⊢
    have hsz : ((b : Int)).fdiv 8 = ((b / 8 : Nat) : Int) := by
      rw [Int.fdiv_eq_ediv_of_nonneg _ (by omega)]; omega
    have hsz8 : b / 8 ≤ 8 := by omega
    have hsz1 : 1 ≤ b / 8 := by omega
    generalize hn : b / 8 = n at *
    have on0 : 0 ≤ o * n := Int.mul_nonneg (by omega) (by omega)
    have on1 : (o + 1) * n = o * n + n := by rw [Int.add_mul, Int.one_mul]
    refine x_assignI F₅ hE rfl (i := n) (Ev.int_eq (by walk_at "ev") hsz) ?_
    intro tn s₆ F₆
    refine x_fill (k := (o + 1) * n) F₆ W₀ hE rfl hroom' (Ev.name (by walk_at "has")) (by walk_at "ev") (Ev.name (by walk_at "has")) (by walk_at "mem") hri hL₀ hm (by omega) (by omega) hlen ?_
    intro vs' n' s₇ hi' F₇
    generalize hrow : codes x ++ List.replicate ((o + 1) * n - ((codes x).length : Int)).toNat 0 = row at *
    have hrlen : o * n + n ≤ row.length := by rw [← hrow]; simp; omega
    have hrlen2 : row.length ≤ 20000 := by rw [← hrow]; simp; omega
    refine x_for (n := n) (P := fun i v => ∃ t, v = Value.int (0 + (i : Int)) t) (σ := Obj) (fun i z => ObjL z (setf row (o * n) (v % 2 ^ b) n i))
      (fun i z' => [(PySem.Str.ofString "row", .ref rl), (PySem.Str.ofString "offset", .int o u), (PySem.Str.ofString "size", .int n tn), (PySem.Str.ofString "value", .int (v % 2 ^ b) tv)]) (fun i z => [(rl, z)]) [(rl, lobj vs' n')] [] F₇ hE rfl hcn
      (Ev.itrR hh' (Ev.rangeN1 (W₀.up F₇.keep) hE rfl (a := n) (by walk_at "ev")) (by omega) (by omega) (by omega)) ?_ ?_ ?_ ?_ ?_
    · intro p hp
      simp only [List.mem_singleton] at hp
      subst hp
      walk_at "mem"
    · intro p hp; cases hp
    · refine ⟨lobj vs' n', ObjL.lobj hi', ?_, fun p hp => hp⟩
      intro p hp
      simp only [List.mem_cons, List.not_mem_nil, or_false] at hp
      rcases hp with rfl | rfl | rfl | rfl <;> walk_at "mem"
    · intro b' i zo v1 s' io hbb hkeep hio hi hK hP F'
      obtain ⟨t', rfl⟩ := hP
      have hiot : rl ≠ io.1 := hio _ _ (F₇.get (by walk_at "mem"))
      have hslen := setf_len row (o * n) (v % 2 ^ b) n i
      have eI : (8 * ((n : Int) - 1 - (0 + (i : Int)))).toNat = 8 * (n - 1 - i) := by omega
      refine x_store (l := rl) (k := o * n + (0 + (i : Int))) (v := (v % 2 ^ b).fdiv (2 ^ (8 * (n - 1 - i))) % 2 ^ 8) F' (Ev.int_eq (Ev.and (Ev.shr (a := v % 2 ^ b) (b := 8 * ((n : Int) - 1 - (0 + (i : Int)))) (by walk_at "ev") (by walk_at "ev") (by omega)) (b := 255) (by walk_at "ev")) ?_) (by walk_at "has") (by decide) (by walk_at "ev") (o := zo) (by walk_at "mem") hK (by omega) (by rw [hslen]; omega) (by omega) ?_
      · rw [eI]; exact kbt_mask _ 8
      intro o' s'' ho' F'' _
      refine x_nil ⟨o', ?_, F''.sub ?_ ?_ ?_, ?_⟩
      · unfold setf
        rw [show (o * n + (0 + (i : Int))).toNat = (o * n + i).toNat by omega] at ho'
        exact ho'
      · intro p hp
        simp only [List.mem_cons, List.not_mem_nil, or_false] at hp
        rcases hp with rfl | rfl | rfl | rfl <;> walk_at "mem"
      · intro p hp; exact hp
      · intro p hp
        simp only [List.mem_cons, List.not_mem_nil, or_false] at hp
        rcases hp with rfl | rfl
        · refine List.mem_cons_of_mem _ (List.mem_filter.mpr ⟨List.mem_cons_self, by simpa using fun e => hiot e.symm⟩)
        · exact List.mem_cons_self
      · intro p hp
        simp only [List.mem_cons, List.not_mem_nil, or_false] at hp
        subst hp
        exact hiot
    · intro zo s' hK F'
      refine x_nil ?_
      have hl' : Lst s'.heap rl _ := F'.lstO (l := rl) (o := zo) (List.mem_append_left _ List.mem_cons_self) hK
      have hslen := setf_len row (o * n) (v % 2 ^ b) n n
      exact x_retD F' (Ev.joinE (h₁ := s'.heap) (os := setf row (o * n) (v % 2 ^ b) n n) (Ev.chrs (W₀.up F'.keep) hE hh' (by walk_at "has") hl' (fun x hx => ⟨(hr x hx).1, Int.le_trans (hr x hx).2 (by decide)⟩) (by omega)) (by omega))

-- V6
section
variable {w : World} {A : Around} {base : Heap} {outer : List Env} {h₀ : Heap}
theorem rs_set1 (W : WW w h₀) (hh : A.handled = none) (hroom : A.depth + 4 < recursionLimit) {x : Str} {o b v : Int} {t u z y : Tok} {q : Addr} (hb : sizes.contains b = false) :
    Rs w A base outer (call (.ref 92) [.str x t, .int o u, .int b z, .int v y, .ref q]) h₀ := by
  refine Rs.def [(PySem.Str.ofString "text", .str x t), (PySem.Str.ofString "offset", .int o u), (PySem.Str.ofString "bits", .int b z), (PySem.Str.ofString "value", .int v y), (PySem.Str.ofString "limits", .ref q)] [(PySem.Str.ofString "text", .str x t), (PySem.Str.ofString "offset", .int o u), (PySem.Str.ofString "bits", .int b z), (PySem.Str.ofString "value", .int v y), (PySem.Str.ofString "limits", .ref q)] [] W.K W.lim (by omega) rfl rfl rfl rfl rfl rfl rfl rfl rfl rfl rfl rfl rfl rfl rfl (fun _ h => h) (fun _ h => (nomatch h)) ?_
  intro env s₀ s hs hE hF F hB
  have W₀ := W.up hs
  have hh' : (A.deeper env).handled = none := hh
  have hroom' : (A.deeper env).depth + 3 < recursionLimit := by show A.depth + 1 + 3 < recursionLimit; omega
  refine x_exprR hE (Rs.d1 (P1 := IsV (.int b z)) (W₀.up F.keep) hE rfl (Ev.name (by walk_at "has")) (fun v1 h hs' e1 => ?_)) (hB F F.keep) (RB.on F (hB F F.keep))
  rw [show v1 = .int b z from e1]
  exact rs_check ((W₀.up F.keep).up hs') hh' hroom' hb

theorem rs_set2 (W : WW w h₀) (hh : A.handled = none) (hroom : A.depth + 4 < recursionLimit) {x : Str} {o b v : Int} {t u z y : Tok} {q : Addr} (hb : sizes.contains b = true) (hz : x.cps.size ≤ 10000) {j : Nat} {k0 : Int} (hj : (codes x)[j]? = some k0) (hj2 : 255 < k0) :
    Rs w A base outer (call (.ref 92) [.str x t, .int o u, .int b z, .int v y, .ref q]) h₀ := by
  refine Rs.def [(PySem.Str.ofString "text", .str x t), (PySem.Str.ofString "offset", .int o u), (PySem.Str.ofString "bits", .int b z), (PySem.Str.ofString "value", .int v y), (PySem.Str.ofString "limits", .ref q)] [(PySem.Str.ofString "text", .str x t), (PySem.Str.ofString "offset", .int o u), (PySem.Str.ofString "bits", .int b z), (PySem.Str.ofString "value", .int v y), (PySem.Str.ofString "limits", .ref q)] [] W.K W.lim (by omega) rfl rfl rfl rfl rfl rfl rfl rfl rfl rfl rfl rfl rfl rfl rfl (fun _ h => h) (fun _ h => (nomatch h)) ?_
  intro env s₀ s hs hE hF F hB
  have W₀ := W.up hs
  have hh' : (A.deeper env).handled = none := hh
  have hroom' : (A.deeper env).depth + 3 < recursionLimit := by show A.depth + 1 + 3 < recursionLimit; omega
  refine x_expr (P := IsN) F hE (Ev.d1 (P1 := IsV (.int b z)) (W₀.up F.keep) hE rfl (Ev.name (by walk_at "has")) (fun v1 h hs' e1 => ?_)) (fun v h hv a e => by rw [show v = .none from hv] at e; cases e) ?_
  · rw [show v1 = .int b z from e1]
    exact ev_check ((W₀.up F.keep).up hs') (by omega) hb
  intro s₁ k₁ F₁
  refine x_assignR' (Rs.d1 (P1 := IsS x) (W₀.up F₁.keep) hE rfl (Ev.nameS (by walk_at "has")) (fun v1 h hs' e1 => ?_)) (hB F₁ F₁.keep) (RB.on F₁ (hB F₁ F₁.keep))
  obtain ⟨t', rfl⟩ := e1
  exact rs_oct ((W₀.up F₁.keep).up hs') hh' hroom' hz hj hj2

theorem rs_set3 (W : WW w h₀) (hh : A.handled = none) (hroom : A.depth + 4 < recursionLimit) {x : Str} {o b v : Int} {t u z y : Tok} {q : Addr} (hb : sizes.contains b = true) (hz : x.cps.size ≤ 10000) (ho : Oct (codes x)) (h0 : o < 0) :
    Rs w A base outer (call (.ref 92) [.str x t, .int o u, .int b z, .int v y, .ref q]) h₀ := by
  refine Rs.def [(PySem.Str.ofString "text", .str x t), (PySem.Str.ofString "offset", .int o u), (PySem.Str.ofString "bits", .int b z), (PySem.Str.ofString "value", .int v y), (PySem.Str.ofString "limits", .ref q)] [(PySem.Str.ofString "text", .str x t), (PySem.Str.ofString "offset", .int o u), (PySem.Str.ofString "bits", .int b z), (PySem.Str.ofString "value", .int v y), (PySem.Str.ofString "limits", .ref q)] [] W.K W.lim (by omega) rfl rfl rfl rfl rfl rfl rfl rfl rfl rfl rfl rfl rfl rfl rfl (fun _ h => h) (fun _ h => (nomatch h)) ?_
  intro env s₀ s hs hE hF F hB
  have W₀ := W.up hs
  have hh' : (A.deeper env).handled = none := hh
  have hroom' : (A.deeper env).depth + 3 < recursionLimit := by show A.depth + 1 + 3 < recursionLimit; omega
  refine x_expr (P := IsN) F hE (Ev.d1 (P1 := IsV (.int b z)) (W₀.up F.keep) hE rfl (Ev.name (by walk_at "has")) (fun v1 h hs' e1 => ?_)) (fun v h hv a e => by rw [show v = .none from hv] at e; cases e) ?_
  · rw [show v1 = .int b z from e1]
    exact ev_check ((W₀.up F.keep).up hs') (by omega) hb
  intro s₁ k₁ F₁
  refine x_assignLN F₁ hE rfl (ns := codes x) (Ev.d1 (P1 := IsS x) (W₀.up F₁.keep) hE rfl (Ev.nameS (by walk_at "has")) (fun v1 h hs' e1 => ?_)) ?_
  · obtain ⟨t', rfl⟩ := e1
    exact (ev_oct ((W₀.up F₁.keep).up hs') hh' (by omega) hz fun c hc => (ho c hc).2).mono fun _ _ hs'' y => y.base hs'
  intro rl rvs rn s₂ hri hrf F₂
  refine x_if0 F₂ (Ev.ltT (a := o) (b := 0) (by walk_at "ev") (by walk_at "ev")) ?_ ?_
  · intro hc s' F' k'
    exact x_raise (W₀.up F'.keep) hE rfl hh' (by omega) (RB.new F' (hB F' F'.keep))
  · intro hc
    have := of_decide_eq_false hc
    omega

theorem rs_set4 (W : WW w h₀) (hh : A.handled = none) (hroom : A.depth + 4 < recursionLimit) {x : Str} {o v m : Int} {b : Nat} {t u z y : Tok} {q : Addr} (hb : SZ b) (hz : x.cps.size ≤ 10000) (ho : Oct (codes x)) (h0 : 0 ≤ o) (h1 : o < 2 ^ 40) (hL : Lim h₀ q m) (hm : m < need o b) :
    Rs w A base outer (call (.ref 92) [.str x t, .int o u, .int b z, .int v y, .ref q]) h₀ := by
  refine Rs.def [(PySem.Str.ofString "text", .str x t), (PySem.Str.ofString "offset", .int o u), (PySem.Str.ofString "bits", .int b z), (PySem.Str.ofString "value", .int v y), (PySem.Str.ofString "limits", .ref q)] [(PySem.Str.ofString "text", .str x t), (PySem.Str.ofString "offset", .int o u), (PySem.Str.ofString "bits", .int b z), (PySem.Str.ofString "value", .int v y), (PySem.Str.ofString "limits", .ref q)] [] W.K W.lim (by omega) rfl rfl rfl rfl rfl rfl rfl rfl rfl rfl rfl rfl rfl rfl rfl (fun _ h => h) (fun _ h => (nomatch h)) ?_
  intro env s₀ s hs hE hF F hB
  have W₀ := W.up hs
  have hL₀ := hL.up hs
  have hh' : (A.deeper env).handled = none := hh
  have hroom' : (A.deeper env).depth + 3 < recursionLimit := by show A.depth + 1 + 3 < recursionLimit; omega
  have hb64 := hb.le
  have hb1 := hb.one
  refine x_expr (P := IsN) F hE (Ev.d1 (P1 := IsV (.int b z)) (W₀.up F.keep) hE rfl (Ev.name (by walk_at "has")) (fun v1 h hs' e1 => ?_)) (fun v h hv a e => by rw [show v = .none from hv] at e; cases e) ?_
  · rw [show v1 = .int b z from e1]
    exact ev_check ((W₀.up F.keep).up hs') (by omega) hb.sizes
  intro s₁ k₁ F₁
  refine x_assignLN F₁ hE rfl (ns := codes x) (Ev.d1 (P1 := IsS x) (W₀.up F₁.keep) hE rfl (Ev.nameS (by walk_at "has")) (fun v1 h hs' e1 => ?_)) ?_
  · obtain ⟨t', rfl⟩ := e1
    exact (ev_oct ((W₀.up F₁.keep).up hs') hh' (by omega) hz fun c hc => (ho c hc).2).mono fun _ _ hs'' y => y.base hs'
  intro rl rvs rn s₂ hri hrf F₂
  refine x_if0 F₂ (Ev.ltT (a := o) (b := 0) (by walk_at "ev") (by walk_at "ev")) ?_ ?_
  · intro hc
    have := of_decide_eq_true hc
    omega
  intro hc s₃ F₃ k₃
  have hpb : (2 : Int) ^ ((b : Int)).toNat = 2 ^ b := by rw [Int.toNat_natCast]
  refine x_augI (i := v % 2 ^ b) (P := IsI (2 ^ b - 1)) F₃ hE rfl (u := .int v y) (by walk_at "mem") (Ev.int_eq (Ev.sub (a := 1 * 2 ^ ((b : Int)).toNat) (b := 1) (Ev.shl (a := 1) (b := b) (by walk_at "ev") (by walk_at "ev") (by omega) (by omega) (by decide)) (by walk_at "ev")) (by rw [hpb, Int.one_mul])) (fun v1 h hs' e1 => ?_) ?_
  · obtain ⟨t', rfl⟩ := e1
    refine Ev.int_eq (Ev.of0 fun s E Q hs hq => iand_int (hq _ _ IsI.box)) (kbt_mask v b)
  intro tv s₄ F₄
  refine x_if F₄ (Ev.ltT (a := (b : Int)) (b := 8) (by walk_at "ev") (by walk_at "ev")) ?_ ?_
  · intro hc s₅ F₅ k₅
    have hb8 : b < 8 := by have := of_decide_eq_true hc; omega
    have hneed : need o b = o.fdiv ((8 / b : Nat) : Int) + 1 := by unfold need; rw [if_pos hb8]
    rw [hneed] at hm
    obtain ⟨m', hmm, hm8, hm0, hm1, _⟩ := hb.mm hb8
    rw [← hmm] at hm
    refine x_two F₅ hE hh' rfl rfl (i := o.fdiv m') (j := o.fmod m' * b) (Ev.d2 (P1 := IsV (.int o u)) (P2 := IsV (.int b z)) (W₀.up F₅.keep) hE rfl (Ev.name (by walk_at "has")) (Ev.name (by walk_at "has")) (fun v1 v2 h hs' e1 e2 => ?_)) ?_
    · rw [show v1 = .int o u from e1, show v2 = .int b z from e2]
      exact ev_small ((W₀.up F₅.keep).up hs') (by omega) (by omega) (by omega) hm8 (by omega) (by omega)
    intro tp ts s₆ F₆
    refine x_exprR hE (Rs.d3 (P1 := IsV (.ref rl)) (P2 := IsI (o.fdiv m' + 1)) (P3 := IsV (.ref q)) (W₀.up F₆.keep) hE rfl (Ev.name (by walk_at "has")) (by walk_at "ev") (Ev.name (by walk_at "has")) (fun v1 v2 v3 h hs' e1 e2 e3 => ?_)) (hB F₆ F₆.keep) (RB.on F₆ (hB F₆ F₆.keep))
    obtain ⟨t2, rfl⟩ := e2
    rw [show v1 = .ref rl from e1, show v3 = .ref q from e3]
    exact rs_fill ((W₀.up F₆.keep).up hs') hh' (by omega) ((hL₀.up F₆.keep).up hs') hm
  · intro hc s₅ F₅ k₅
    have hb8 : ¬ b < 8 := by have := of_decide_eq_false hc; omega
    have hneed : need o b = (o + 1) * ((b / 8 : Nat) : Int) := by unfold need; rw [if_neg hb8]
    rw [hneed] at hm
    have hsz : ((b : Int)).fdiv 8 = ((b / 8 : Nat) : Int) := by
      rw [Int.fdiv_eq_ediv_of_nonneg _ (by omega)]; omega
    generalize hn : b / 8 = n at *
    have hn8 : n ≤ 8 := by omega
    refine x_assignI F₅ hE rfl (i := n) (Ev.int_eq (by walk_at "ev") hsz) ?_
    intro tn s₆ F₆
    refine x_exprR hE (Rs.d3 (P1 := IsV (.ref rl)) (P2 := IsI ((o + 1) * n)) (P3 := IsV (.ref q)) (W₀.up F₆.keep) hE rfl (Ev.name (by walk_at "has")) (by walk_at "ev") (Ev.name (by walk_at "has")) (fun v1 v2 v3 h hs' e1 e2 e3 => ?_)) (hB F₆ F₆.keep) (RB.on F₆ (hB F₆ F₆.keep))
    obtain ⟨t2, rfl⟩ := e2
    rw [show v1 = .ref rl from e1, show v3 = .ref q from e3]
    exact rs_fill ((W₀.up F₆.keep).up hs') hh' (by omega) ((hL₀.up F₆.keep).up hs') hm
end

-- L1
/-- what may have happened to the heap: the base is kept, the rest but for slots -/
structure Sl (base : Heap) (s s' : Shared) : Prop where
  like : Like s s'
  base : Sub base s'.heap
  up : s.heap.UpToSlots s'.heap
theorem Sl.of {base : Heap} {s s' : Shared} (k : Kp s s') (b : Sub base s.heap) : Sl base s s' := ⟨k.same, b.tr k.sub, Heap.UpToSlots.of_keeps k.sub⟩
theorem Sl.tr {base : Heap} {a b c : Shared} (x : Sl base a b) (y : Sl base b c) : Sl base a c := ⟨x.like.tr y.like, y.base, x.up.trans y.up⟩

/-- the tree ends with a value, perhaps by way of a caught Die -/
def Hd (w : World) (A : Around) (base : Heap) (outer : List Env) (t : Sem Value) (h₀ : Heap) (P : Value → Prop) : Prop :=
  ∀ (s : Shared) (E : Value → Shared → Prop) (Q : Value → Shared → Prop), Sub h₀ s.heap → Below A base outer s.heap → (∀ v s', P v → Sl base s s' → Q v s') → wpAny (model prg w) A t Q E s
section
variable {w : World} {A : Around} {base : Heap} {outer : List Env} {h₀ : Heap}
theorem Ev.hd {t : Sem Value} {P : Value → Heap → Prop} {R : Value → Prop} (h : Ev prg w A t h₀ P) (hR : ∀ v h, P v h → R v) : Hd w A base outer t h₀ R := fun s E Q hs K hQ =>
  h.use' hs fun v s' k hb => hQ v s' (hR _ _ hb.here) (Sl.of k K.stays)

theorem ev_heard0 (W : WW w h₀) (hh : A.handled = none) (hroom : A.depth + 2 < recursionLimit) {x : Str} {o v m : Int} {b : Nat} {t u z y t0 tm : Tok} (hz : x.cps.size ≤ 10000) (ho : Oct (codes x)) (h1 : o < 2 ^ 40) (hb : SZ b) :
    Ev prg w A (call (.ref 150) [.int 0 t0, .str x t, .int o u, .int b z, .int v y, .int m tm]) h₀ (IsI (vget (codes x) o b)) := by
  refine Ev.def [(PySem.Str.ofString "way", .int 0 t0), (PySem.Str.ofString "text", .str x t), (PySem.Str.ofString "offset", .int o u), (PySem.Str.ofString "bits", .int b z), (PySem.Str.ofString "value", .int v y), (PySem.Str.ofString "most", .int m tm)] [(PySem.Str.ofString "way", .int 0 t0), (PySem.Str.ofString "text", .str x t), (PySem.Str.ofString "offset", .int o u), (PySem.Str.ofString "bits", .int b z), (PySem.Str.ofString "value", .int v y), (PySem.Str.ofString "most", .int m tm)] [] W.K W.lim (by omega) rfl rfl rfl rfl rfl rfl rfl rfl rfl rfl rfl rfl rfl rfl rfl (fun _ h => h) (fun _ h => (nomatch h)) ?_
  intro env s₀ s hs hE hF F
  have W₀ := W.up hs
  have hh' : (A.deeper env).handled = none := hh
  have hroom' : (A.deeper env).depth + 1 < recursionLimit := by show A.depth + 1 + 1 < recursionLimit; omega
  refine wpAny_execs_cons (wpAny_Try_except ?_)
  refine x_if0 F (Ev.eqT (a := 0) (b := 0) (by walk_at "ev") (by walk_at "ev")) ?_ ?_
  · intro hc s₁ F₁ k₁
    refine x_retD F₁ (Ev.d3 (P1 := IsV (.str x t)) (P2 := IsV (.int o u)) (P3 := IsV (.int b z)) (W₀.up F₁.keep) hE rfl (Ev.name (by walk_at "has")) (Ev.name (by walk_at "has")) (Ev.name (by walk_at "has")) (fun v1 v2 v3 h hs' e1 e2 e3 => ?_))
    rw [show v1 = .str x t from e1, show v2 = .int o u from e2, show v3 = .int b z from e3]
    exact ev_get ((W₀.up F₁.keep).up hs') hh' hroom' hz ho h1 hb
  · intro hc; cases hc

theorem ev_heard1 (W : WW w h₀) (hh : A.handled = none) (hroom : A.depth + 2 < recursionLimit) {x : Str} {o v m : Int} {b : Nat} {t u z y t0 tm : Tok} (hz : x.cps.size ≤ 10000) (ho : Oct (codes x)) (h0 : 0 ≤ o) (h1 : o < 2 ^ 40) (hb : SZ b) (hm : need o b ≤ m) (hm2 : m ≤ 10000) (hr : Oct (vset (codes x) o b v)) :
    Ev prg w A (call (.ref 150) [.int 1 t0, .str x t, .int o u, .int b z, .int v y, .int m tm]) h₀ (IsS (tx (vset (codes x) o b v))) := by
  refine Ev.def [(PySem.Str.ofString "way", .int 1 t0), (PySem.Str.ofString "text", .str x t), (PySem.Str.ofString "offset", .int o u), (PySem.Str.ofString "bits", .int b z), (PySem.Str.ofString "value", .int v y), (PySem.Str.ofString "most", .int m tm)] [(PySem.Str.ofString "way", .int 1 t0), (PySem.Str.ofString "text", .str x t), (PySem.Str.ofString "offset", .int o u), (PySem.Str.ofString "bits", .int b z), (PySem.Str.ofString "value", .int v y), (PySem.Str.ofString "most", .int m tm)] [] W.K W.lim (by omega) rfl rfl rfl rfl rfl rfl rfl rfl rfl rfl rfl rfl rfl rfl rfl (fun _ h => h) (fun _ h => (nomatch h)) ?_
  intro env s₀ s hs hE hF F
  have W₀ := W.up hs
  have hh' : (A.deeper env).handled = none := hh
  have hroom' : (A.deeper env).depth + 1 < recursionLimit := by show A.depth + 1 + 1 < recursionLimit; omega
  refine wpAny_execs_cons (wpAny_Try_except ?_)
  refine x_if0 F (Ev.eqT (a := 1) (b := 0) (by walk_at "ev") (by walk_at "ev")) ?_ ?_
  · intro hc; cases hc
  · intro hc s₁ F₁ k₁
    refine x_retD F₁ (Ev.d5 (P1 := IsV (.str x t)) (P2 := IsV (.int o u)) (P3 := IsV (.int b z)) (P4 := IsV (.int v y)) (P5 := IsLim m) (W₀.up F₁.keep) hE rfl (Ev.name (by walk_at "has")) (Ev.name (by walk_at "has")) (Ev.name (by walk_at "has")) (Ev.name (by walk_at "has")) (Ev.limits (W₀.up F₁.keep) hE rfl hroom' (by walk_at "ev")) (fun v1 v2 v3 v4 v5 h hs' e1 e2 e3 e4 e5 => ?_))
    obtain ⟨q, rfl, hL⟩ := e5
    rw [show v1 = .str x t from e1, show v2 = .int o u from e2, show v3 = .int b z from e3, show v4 = .int v y from e4]
    exact ev_set ((W₀.up F₁.keep).up hs') hh' hroom' hz ho h0 h1 hb hL hm hm2 hr

def Wide (x : Str) : Prop := ∃ (j : Nat) (k : Int), (codes x)[j]? = some k ∧ 255 < k

theorem hd_get (W : WW w base) (hh : A.handled = none) (hroom : A.depth + 5 < recursionLimit) {x : Str} {o v m b : Int} {t u z y t0 tm : Tok} (hz : x.cps.size ≤ 10000) (hc : sizes.contains b = false ∨ (sizes.contains b = true ∧ Wide x)) :
    Hd w A base outer (call (.ref 150) [.int 0 t0, .str x t, .int o u, .int b z, .int v y, .int m tm]) h₀ (fun v => v = .none) := by
  intro s E Q hs K hQ
  have Ws := W.up K.stays
  refine call_d [(PySem.Str.ofString "way", .int 0 t0), (PySem.Str.ofString "text", .str x t), (PySem.Str.ofString "offset", .int o u), (PySem.Str.ofString "bits", .int b z), (PySem.Str.ofString "value", .int v y), (PySem.Str.ofString "most", .int m tm)] [(PySem.Str.ofString "way", .int 0 t0), (PySem.Str.ofString "text", .str x t), (PySem.Str.ofString "offset", .int o u), (PySem.Str.ofString "bits", .int b z), (PySem.Str.ofString "value", .int v y), (PySem.Str.ofString "most", .int m tm)] [] Ws.K Ws.lim (by omega) rfl rfl rfl rfl rfl rfl rfl rfl rfl rfl rfl rfl rfl rfl rfl (fun _ h => h) (fun _ h => (nomatch h)) ?_
  intro env s₁ hE hF F
  have hh' : (A.deeper env).handled = none := hh
  have hroom' : (A.deeper env).depth + 4 < recursionLimit := by show A.depth + 1 + 4 < recursionLimit; omega
  refine wpAny_execs_cons (wpAny_Try_except ?_)
  refine x_if0 F (Ev.eqT (a := 0) (b := 0) (by walk_at "ev") (by walk_at "ev")) ?_ ?_
  · intro hc' s₂ F₂ k₂
    have K₂ := below_in K hE hF F₂ F₂.keep F₂.locNew
    refine x_retR (Rs.d3 (P1 := IsV (.str x t)) (P2 := IsV (.int o u)) (P3 := IsV (.int b z)) (Ws.up F₂.keep) hE rfl (Ev.name (by walk_at "has")) (Ev.name (by walk_at "has")) (Ev.name (by walk_at "has")) (fun v1 v2 v3 h hs' e1 e2 e3 => ?_)) K₂ ?_
    · rw [show v1 = .str x t from e1, show v2 = .int o u from e2, show v3 = .int b z from e3]
      rcases hc with hc | ⟨hc, j, k0, hj, hk⟩
      · exact rs_get1 ((Ws.up F₂.keep).up hs') hh' hroom' hc
      · exact rs_get2 ((Ws.up F₂.keep).up hs') hh' hroom' hc hz hj hk
    · intro e s₃ R
      refine catch_die W K₂ hE hF rfl R fun s₄ lk hb up => hQ _ _ rfl ⟨Like.tr F₂.same lk, hb, Heap.UpToSlots.trans (Heap.UpToSlots.of_keeps F₂.keep) up⟩
  · intro hc; cases hc

theorem hd_set (W : WW w base) (hh : A.handled = none) (hroom : A.depth + 5 < recursionLimit) {x : Str} {o v m b : Int} {t u z y t0 tm : Tok} (hz : x.cps.size ≤ 10000)
    (hc : sizes.contains b = false ∨ (sizes.contains b = true ∧ Wide x) ∨ (sizes.contains b = true ∧ Oct (codes x) ∧ o < 0) ∨ (∃ b' : Nat, b = b' ∧ SZ b' ∧ Oct (codes x) ∧ 0 ≤ o ∧ o < 2 ^ 40 ∧ m < need o b')) :
    Hd w A base outer (call (.ref 150) [.int 1 t0, .str x t, .int o u, .int b z, .int v y, .int m tm]) h₀ (fun v => v = .none) := by
  intro s E Q hs K hQ
  have Ws := W.up K.stays
  refine call_d [(PySem.Str.ofString "way", .int 1 t0), (PySem.Str.ofString "text", .str x t), (PySem.Str.ofString "offset", .int o u), (PySem.Str.ofString "bits", .int b z), (PySem.Str.ofString "value", .int v y), (PySem.Str.ofString "most", .int m tm)] [(PySem.Str.ofString "way", .int 1 t0), (PySem.Str.ofString "text", .str x t), (PySem.Str.ofString "offset", .int o u), (PySem.Str.ofString "bits", .int b z), (PySem.Str.ofString "value", .int v y), (PySem.Str.ofString "most", .int m tm)] [] Ws.K Ws.lim (by omega) rfl rfl rfl rfl rfl rfl rfl rfl rfl rfl rfl rfl rfl rfl rfl (fun _ h => h) (fun _ h => (nomatch h)) ?_
  intro env s₁ hE hF F
  have hh' : (A.deeper env).handled = none := hh
  have hroom' : (A.deeper env).depth + 4 < recursionLimit := by show A.depth + 1 + 4 < recursionLimit; omega
  refine wpAny_execs_cons (wpAny_Try_except ?_)
  refine x_if0 F (Ev.eqT (a := 1) (b := 0) (by walk_at "ev") (by walk_at "ev")) ?_ ?_
  · intro hc; cases hc
  · intro hc' s₂ F₂ k₂
    have K₂ := below_in K hE hF F₂ F₂.keep F₂.locNew
    refine x_retR (Rs.d5 (P1 := IsV (.str x t)) (P2 := IsV (.int o u)) (P3 := IsV (.int b z)) (P4 := IsV (.int v y)) (P5 := IsLim m) (Ws.up F₂.keep) hE rfl (Ev.name (by walk_at "has")) (Ev.name (by walk_at "has")) (Ev.name (by walk_at "has")) (Ev.name (by walk_at "has")) (Ev.limits (Ws.up F₂.keep) hE rfl (by omega) (by walk_at "ev")) (fun v1 v2 v3 v4 v5 h hs' e1 e2 e3 e4 e5 => ?_)) K₂ ?_
    · obtain ⟨q, rfl, hL⟩ := e5
      rw [show v1 = .str x t from e1, show v2 = .int o u from e2, show v3 = .int b z from e3, show v4 = .int v y from e4]
      rcases hc with hc | ⟨hc, j, k0, hj, hk⟩ | ⟨hc, ho, h0⟩ | ⟨b', rfl, hb, ho, h0, h1, hm⟩
      · exact rs_set1 ((Ws.up F₂.keep).up hs') hh' hroom' hc
      · exact rs_set2 ((Ws.up F₂.keep).up hs') hh' hroom' hc hz hj hk
      · exact rs_set3 ((Ws.up F₂.keep).up hs') hh' hroom' hc hz ho h0
      · exact rs_set4 ((Ws.up F₂.keep).up hs') hh' hroom' hb hz ho h0 h1 hL hm
    · intro e s₃ R
      refine catch_die W K₂ hE hF rfl R fun s₄ lk hb up => hQ _ _ rfl ⟨Like.tr F₂.same lk, hb, Heap.UpToSlots.trans (Heap.UpToSlots.of_keeps F₂.keep) up⟩
end

-- Q1
-- lists by their places
theorem gD_none {xs : List Int} {i : Nat} (h : xs.length ≤ i) : xs.getD i 0 = 0 := by
  rw [List.getD_eq_getElem?_getD, List.getElem?_eq_none h]; rfl
theorem gD_app {xs ys : List Int} {i : Nat} : (xs ++ ys).getD i 0 = if i < xs.length then xs.getD i 0 else ys.getD (i - xs.length) 0 := by
  simp only [List.getD_eq_getElem?_getD, List.getElem?_append]; split <;> rfl
theorem gD_take {xs : List Int} {n i : Nat} : (xs.take n).getD i 0 = if i < n then xs.getD i 0 else 0 := by
  simp only [List.getD_eq_getElem?_getD, List.getElem?_take]; split <;> rfl
theorem gD_drop {xs : List Int} {n i : Nat} : (xs.drop n).getD i 0 = xs.getD (n + i) 0 := by
  simp only [List.getD_eq_getElem?_getD, List.getElem?_drop]
theorem gD_rep {n i : Nat} : (List.replicate n (0 : Int)).getD i 0 = 0 := by
  simp only [List.getD_eq_getElem?_getD, List.getElem?_replicate]; split <;> rfl
theorem gD_map {n i : Nat} {f : Nat → Int} : ((List.range n).map f).getD i 0 = if i < n then f i else 0 := by
  by_cases h : i < n
  · rw [if_pos h]; exact getD_of (by simp [h])
  · rw [if_neg h]; exact gD_none (by simp; omega)
theorem gD_set {xs : List Int} {i j : Nat} {v : Int} (h : i < xs.length) : (xs.set i v).getD j 0 = if j = i then v else xs.getD j 0 := by
  by_cases e : j = i
  · subst e; rw [if_pos rfl]; exact getD_of (by simp [h])
  · rw [if_neg e]; simp only [List.getD_eq_getElem?_getD, List.getElem?_set_ne (Ne.symm e)]
theorem ext_gD {xs ys : List Int} (hl : xs.length = ys.length) (h : ∀ i, i < xs.length → xs.getD i 0 = ys.getD i 0) : xs = ys := by
  apply List.ext_getElem hl
  intro i h1 h2
  have := h i h1
  simpa [List.getD, h1, h2] using this
theorem bits_of_gD {xs : List Int} (h : ∀ i, xs.getD i 0 = 0 ∨ xs.getD i 0 = 1) : Bits xs := fun x hx => by
  obtain ⟨i, hi, e⟩ := List.getElem_of_mem hx
  have := h i
  rwa [getD_of (show xs[i]? = some x by rw [List.getElem?_eq_getElem hi, e])] at this

-- sums of bits
def sv (f : Nat → Int) : Nat → Int
  | 0 => 0
  | n + 1 => sv f n + f n * 2 ^ n
theorem sv_succ (f : Nat → Int) (n : Nat) : sv f (n + 1) = sv f n + f n * 2 ^ n := rfl
theorem sv_range (f : Nat → Int) : ∀ n, ((List.range n).map fun k => f k * 2 ^ k).sum = sv f n
  | 0 => rfl
  | n + 1 => by rw [List.range_succ, List.map_append, List.sum_append, sv_range f n]; simp [sv]
theorem sv_congr {f g : Nat → Int} : ∀ {n}, (∀ k, k < n → f k = g k) → sv f n = sv g n
  | 0, _ => rfl
  | n + 1, h => by rw [sv_succ, sv_succ, sv_congr fun k hk => h k (by omega), h n (by omega)]
theorem sv_add (f : Nat → Int) (a : Nat) : ∀ c, sv f (a + c) = sv f a + 2 ^ a * sv (fun k => f (a + k)) c
  | 0 => by simp [sv]
  | c + 1 => by
    rw [← Nat.add_assoc, sv_succ, sv_succ, sv_add f a c, Int.mul_add, Int.pow_add, Int.add_assoc]
    congr 2
    rw [← Int.mul_assoc, ← Int.mul_assoc, Int.mul_comm (f (a + c))]
theorem sv_bd {f : Nat → Int} : ∀ {n}, (∀ k, k < n → f k = 0 ∨ f k = 1) → 0 ≤ sv f n ∧ sv f n < 2 ^ n
  | 0, _ => ⟨Int.le_refl _, (show (0 : Int) < 2 ^ 0 by decide)⟩
  | n + 1, h => by
    have ih := sv_bd (f := f) (n := n) fun k hk => h k (Nat.lt_succ_of_lt hk)
    have e : (2 : Int) ^ (n + 1) = 2 ^ n * 2 := Int.pow_succ 2 n
    rw [sv_succ, e]
    generalize (2 : Int) ^ n = z at *
    rcases h n (by omega) with h | h <;> rw [h] <;> omega
theorem sv_zero {f : Nat → Int} : ∀ {n}, (∀ k, k < n → f k = 0) → sv f n = 0
  | 0, _ => rfl
  | n + 1, h => by rw [sv_succ, sv_zero fun k hk => h k (by omega), h n (by omega)]; simp
theorem mid_of {lo mid hi : Int} {s b : Nat} (h0 : 0 ≤ lo) (h1 : lo < 2 ^ s) (h2 : 0 ≤ mid) (h3 : mid < 2 ^ b) : (lo + 2 ^ s * (mid + 2 ^ b * hi)) / 2 ^ s % 2 ^ b = mid := by
  have hs := pow_pos' s
  have hb := pow_pos' b
  rw [Int.add_mul_ediv_left _ _ (Int.ne_of_gt hs), Int.ediv_eq_zero_of_lt h0 h1, Int.zero_add, Int.add_mul_emod_self_left, Int.emod_eq_of_lt h2 h3]
theorem bitAt_eq (v : Int) (k : Nat) : bitAt v k = v / 2 ^ k % 2 := by
  unfold bitAt
  rw [Int.fdiv_eq_ediv_of_nonneg _ (Int.le_of_lt (pow_pos' k)), Int.fmod_eq_emod_of_nonneg _ (by decide)]
theorem bitAt01 (v : Int) (k : Nat) : bitAt v k = 0 ∨ bitAt v k = 1 := by rw [bitAt_eq]; omega
theorem bitAt_add (v : Int) (a k : Nat) : bitAt v (a + k) = bitAt (v / 2 ^ a) k := by
  rw [bitAt_eq, bitAt_eq, Int.pow_add, Int.ediv_ediv_of_nonneg (Int.le_of_lt (pow_pos' a))]
theorem sv_bits (v : Int) : ∀ n, sv (bitAt v) n = v % 2 ^ n
  | 0 => by simp [sv, Int.emod_one]
  | n + 1 => by
    rw [sv_succ, sv_bits v n, bitAt_eq, Int.pow_succ]
    have hp := pow_pos' n
    have h1 := Int.emod_def v (2 ^ n)
    have h2 := Int.emod_def v (2 ^ n * 2)
    have h3 : v / (2 ^ n * 2) = v / 2 ^ n / 2 := by rw [Int.ediv_ediv_of_nonneg (Int.le_of_lt hp)]
    have h4 := Int.emod_def (v / 2 ^ n) 2
    rw [h1, h2, h3, h4, Int.sub_mul, Int.mul_comm (v / 2 ^ n) (2 ^ n), Int.mul_comm 2 (v / 2 ^ n / 2), Int.mul_assoc (v / 2 ^ n / 2) 2, Int.mul_comm 2 (2 ^ n), Int.mul_comm (v / 2 ^ n / 2) (2 ^ n * 2)]
    omega
theorem sv_bits_at (v : Int) (a c : Nat) : sv (fun k => bitAt v (a + k)) c = v / 2 ^ a % 2 ^ c := by
  rw [← sv_bits]; exact sv_congr fun k _ => bitAt_add v a k
theorem cut_mid (v : Int) {a c b : Nat} (h : a + c ≤ b) : (v % 2 ^ b) / 2 ^ a % 2 ^ c = v / 2 ^ a % 2 ^ c := by
  obtain ⟨d, rfl⟩ : ∃ d, b = a + (c + d) := ⟨b - a - c, by omega⟩
  rw [← sv_bits v, sv_add, sv_add]
  have h1 := sv_bd (f := bitAt v) (n := a) fun k _ => bitAt01 v k
  have h2 := sv_bd (f := fun k => bitAt v (a + k)) (n := c) fun k _ => bitAt01 v _
  rw [mid_of h1.1 h1.2 h2.1 h2.2, sv_bits_at]

-- Q2
theorem octN_sv (row : List Int) (i : Nat) : octN row i = sv (fun k => row.getD (8 * i + k) 0) 8 := sv_range _ 8
theorem octs_len (row : List Int) : (octs row).length = row.length / 8 := by simp [octs]
theorem octs_getD {row : List Int} (h8 : row.length % 8 = 0) (i : Nat) : (octs row).getD i 0 = octN row i := by
  unfold octs
  rw [gD_map]
  split
  · rfl
  · rw [octN_sv, sv_zero]
    intro k _
    exact gD_none (by omega)
theorem octs_oct {row : List Int} (h : Bits row) : Oct (octs row) := fun x hx => by
  unfold octs at hx
  obtain ⟨i, _, rfl⟩ := List.mem_map.mp hx
  exact octN_bd h i
theorem tx_codes {os : List Int} (h : Oct os) : codes (tx os) = os := by
  unfold codes tx
  simp only [List.map_map]
  rw [List.map_congr_left (g := id) fun x hx => by
    have := h x hx
    show Int.ofNat x.toNat = x
    exact Int.toNat_of_nonneg this.1, List.map_id]
theorem tx_size (os : List Int) : (tx os).cps.size = os.length := by simp [tx]
theorem tx_inj {os os' : List Int} (h : os = os') : (tx os == tx os') = true := by subst h; simp

theorem clip_gD {row : List Int} {p b k : Nat} : (clip row p b).getD k 0 = if k < b then row.getD (p + k) 0 else 0 := by
  unfold clip
  rw [gD_take]
  split
  · rw [gD_app]
    split
    · rw [gD_take, gD_drop, if_pos (by assumption)]
    · rename_i h1 h2
      rw [gD_rep, gD_none]
      simp at h2
      omega
  · rfl
theorem turnUp_gD {P : List Int} {b : Nat} (hP : b ≤ P.length) : ∀ {i k}, 8 * i ≤ b → k < 8 * i → (turnUp P b i).getD k 0 = P.getD (b - 8 - 8 * (k / 8) + k % 8) 0
  | 0, k, _, h => by omega
  | i + 1, k, hi, h => by
    have hl := turnUp_len (p := P) i (by omega) hP
    rw [turnUp_succ, gD_app, hl]
    split
    · exact turnUp_gD hP (by omega) (by assumption)
    · rw [gD_take, gD_drop, if_pos (by omega), show k / 8 = i by omega, show k % 8 = k - 8 * i by omega]
theorem pieceN_eight {row : List Int} {p b : Nat} (h : b % 8 = 0) (h0 : 8 ≤ b) : pieceN row p b = turnUp (clip row p b) b (b / 8) := by
  unfold pieceN
  split
  · rfl
  · have : b = 8 := by omega
    subst this
    unfold turnUp
    simp only [show List.range (8 / 8) = [0] from rfl, List.flatMap_cons, List.flatMap_nil, List.append_nil, Nat.mul_zero, Nat.sub_self, List.drop_zero]
    rw [List.take_of_length_le (Nat.le_of_eq (clip_len _ _ _))]
theorem piece_small {row : List Int} {p b k : Nat} (h : b < 8) : (pieceN row p b).getD k 0 = if k < b then row.getD (p + k) 0 else 0 := by
  unfold pieceN
  rw [if_neg (by omega)]
  exact clip_gD
theorem piece_big {row : List Int} {p b j k : Nat} (h : b % 8 = 0) (h0 : 8 ≤ b) (hj : j < b / 8) (hk : k < 8) : (pieceN row p b).getD (8 * j + k) 0 = row.getD (p + (8 * (b / 8 - 1 - j) + k)) 0 := by
  rw [pieceN_eight h h0, turnUp_gD (Nat.le_of_eq (clip_len _ _ _).symm) (by omega) (by omega), clip_gD, if_pos (by omega)]
  congr 2
  omega
theorem number_sv {row : List Int} {o b : Nat} : number row o b = sv (fun k => (pieceN row (o * b) b).getD k 0) b := by
  unfold number
  rw [if_neg (by omega), sv_range]
  have : ((o : Int) * b).toNat = o * b := by rw [← Int.natCast_mul, Int.toNat_natCast]
  rw [this]

/-- reading: the text's number is the row's -/
theorem law_get {row : List Int} (h8 : row.length % 8 = 0) (hb : Bits row) {o : Int} {b : Nat} (hs : SZ b) : vget (octs row) o b = number row o b := by
  by_cases h0 : o < 0
  · unfold vget number; rw [if_pos h0, if_pos h0]
  obtain ⟨o, rfl⟩ := Int.eq_ofNat_of_zero_le (show 0 ≤ o by omega)
  rw [number_sv]
  unfold vget
  rw [if_neg h0]
  have hs1 := hs.one
  have hs64 := hs.le
  by_cases hb8 : b < 8
  · rw [if_pos hb8]
    obtain ⟨m, hm, _, hm0, _, hmb⟩ := hs.mm hb8
    rw [← hm]
    rw [Int.fdiv_eq_ediv_of_nonneg _ (by omega), Int.fmod_eq_emod_of_nonneg _ (by omega)]
    have e1 : ((o : Int) / (m : Int)) = ((o / m : Nat) : Int) := by push_cast; rfl
    have e2 : ((o : Int) % (m : Int) * (b : Int)) = ((o % m * b : Nat) : Int) := by push_cast; rfl
    rw [e1, e2, Int.toNat_natCast, Int.toNat_natCast, octs_len, octs_getD h8]
    have hp : o * b = 8 * (o / m) + o % m * b := by
      have := Nat.div_add_mod o m
      calc o * b = (m * (o / m) + o % m) * b := by rw [this]
        _ = m * b * (o / m) + o % m * b := by rw [Nat.add_mul, Nat.mul_right_comm]
        _ = _ := by rw [hmb]
    have hsb : o % m * b + b ≤ 8 := by
      have : o % m + 1 ≤ m := Nat.mod_lt _ hm0
      calc o % m * b + b = (o % m + 1) * b := by rw [Nat.add_mul, Nat.one_mul]
        _ ≤ m * b := Nat.mul_le_mul_right _ this
        _ = 8 := hmb
    generalize o % m * b = s at *
    generalize o / m = q at *
    by_cases hq : ((row.length / 8 : Nat) : Int) ≤ (q : Int)
    · rw [if_pos hq, sv_zero]
      intro k hk
      rw [piece_small hb8, if_pos hk]
      exact gD_none (by omega)
    · rw [if_neg hq, octN_sv, Int.fdiv_eq_ediv_of_nonneg _ (Int.le_of_lt (pow_pos' _))]
      obtain ⟨c, hc⟩ : ∃ c, 8 = s + (b + c) := ⟨8 - s - b, by omega⟩
      rw [hc, sv_add, sv_add]
      have b1 := sv_bd (f := fun k => row.getD (8 * q + k) 0) (n := s) fun k _ => hb.getD _
      have b2 := sv_bd (f := fun k => row.getD (8 * q + (s + k)) 0) (n := b) fun k _ => hb.getD _
      rw [← hc, mid_of b1.1 b1.2 b2.1 b2.2]
      refine sv_congr fun k hk => ?_
      rw [piece_small hb8, if_pos hk, hp, Nat.add_assoc]
  · rw [if_neg hb8]
    have hb0 : b % 8 = 0 := by have := hs.m; omega
    generalize hn : b / 8 = n
    have e0 : (o : Int) * (n : Int) = ((o * n : Nat) : Int) := by push_cast; rfl
    rw [e0]
    have hgf : ∀ i, gf (octs row) ((o * n : Nat) : Int) (i + 1) = gf (octs row) ((o * n : Nat) : Int) i * 2 ^ 8 + octN row (o * n + i) := fun i => by
      show _ * 2 ^ 8 + _ = _
      congr 1
      have e : (((o * n : Nat) : Int) + (i : Int)).toNat = o * n + i := by omega
      rw [e, octs_getD h8, octs_len]
      split
      · rfl
      · rw [octN_sv, sv_zero]
        intro k _
        exact gD_none (by omega)
    have key : ∀ i, i ≤ n → gf (octs row) ((o * n : Nat) : Int) (n - i) * 2 ^ (8 * i) + sv (fun k => (pieceN row (o * b) b).getD k 0) (8 * i) = gf (octs row) ((o * n : Nat) : Int) n := by
      intro i
      induction i with
      | zero => intro _; simp [sv]
      | succ i ih =>
        intro hi
        rw [← ih (by omega), show 8 * (i + 1) = 8 * i + 8 by omega, sv_add, show n - i = (n - (i + 1)) + 1 by omega, hgf]
        have e : sv (fun k => (pieceN row (o * b) b).getD (8 * i + k) 0) 8 = octN row (o * n + (n - (i + 1))) := by
          rw [octN_sv]
          refine sv_congr fun k hk => ?_
          rw [piece_big hb0 (by omega) (by omega) hk, hn]
          have : o * b = 8 * (o * n) := by rw [show b = 8 * n by omega, Nat.mul_left_comm]
          congr 1
          omega
        rw [e, Int.add_mul, Int.pow_add, ← Int.mul_assoc, Int.mul_right_comm _ (2 ^ (8 * i)) (2 ^ 8), Int.mul_comm (2 ^ (8 * i)) (octN _ _)]
        omega
    have := key n (Nat.le_refl _)
    rw [Nat.sub_self] at this
    rw [← this, show 8 * n = b by omega]
    rw [show gf (octs row) ((o * n : Nat) : Int) 0 = 0 from rfl, Int.zero_mul, Int.zero_add]

-- Q3
def vbits (v : Int) (b : Nat) : List Int := pieceN ((List.range b).map (bitAt v)) 0 b
theorem vbits_len {v : Int} {b : Nat} (hb : SZ b) : (vbits v b).length = b := pieceN_len hb.m
/-- how wide the laid row is -/
def wide (o b : Nat) : Nat := (o * b + b + 7) / 8 * 8
theorem laid_eq (row : List Int) (o b : Nat) (v : Int) : laidN row o b v = (row ++ List.replicate (wide o b - row.length) 0).take (o * b) ++ vbits v b ++ (row ++ List.replicate (wide o b - row.length) 0).drop (o * b + b) := by
  unfold laidN vbits
  have e1 : ((o : Int) * (b : Int)) = ((o * b : Nat) : Int) := by push_cast; rfl
  have e3 : (((o * b : Nat) : Int) + (b : Int)).toNat = o * b + b := by omega
  have e4 : (max 0 ((((o * b : Nat) : Int) + (b : Int) + 7).fdiv 8 * 8 - (row.length : Int))).toNat = wide o b - row.length := by
    rw [Int.fdiv_eq_ediv_of_nonneg _ (by decide)]
    unfold wide
    omega
  rw [e1, e3, e4, Int.toNat_natCast]
theorem laid_len {row : List Int} {o b : Nat} {v : Int} (hb : SZ b) : (laidN row o b v).length = max row.length (wide o b) := by
  have hl : (row ++ List.replicate (wide o b - row.length) (0 : Int)).length = max row.length (wide o b) := by
    rw [List.length_append, List.length_replicate, Nat.max_def]; split <;> omega
  have hw : o * b + b ≤ max row.length (wide o b) := Nat.le_trans (by unfold wide; omega) (Nat.le_max_right _ _)
  rw [laid_eq, List.length_append, List.length_append, vbits_len hb, List.length_take, List.length_drop, hl]
  generalize max row.length (wide o b) = N at *
  generalize o * b = p at *
  clear hl
  rw [Nat.min_eq_left (by omega)]
  omega
theorem laid_gD {row : List Int} {o b : Nat} {v : Int} (hb : SZ b) (j : Nat) : (laidN row o b v).getD j 0 = if j < o * b then row.getD j 0 else if j < o * b + b then (vbits v b).getD (j - o * b) 0 else row.getD j 0 := by
  have hl : (row ++ List.replicate (wide o b - row.length) (0 : Int)).length = max row.length (wide o b) := by
    rw [List.length_append, List.length_replicate]; omega
  have hw : o * b + b ≤ wide o b := by unfold wide; omega
  have hg : ∀ j, (row ++ List.replicate (wide o b - row.length) (0 : Int)).getD j 0 = row.getD j 0 := fun j => by
    rw [gD_app]
    split
    · rfl
    · rw [gD_rep, gD_none (by omega)]
  have hl2 : ((row ++ List.replicate (wide o b - row.length) (0 : Int)).take (o * b)).length = o * b := by rw [List.length_take, hl]; omega
  rw [laid_eq, gD_app, List.length_append, hl2, vbits_len hb]
  by_cases h1 : j < o * b
  · rw [if_pos (by omega), if_pos h1, gD_app, hl2, if_pos h1, gD_take, if_pos h1, hg]
  · rw [if_neg h1]
    by_cases h2 : j < o * b + b
    · rw [if_pos h2, if_pos h2, gD_app, hl2, if_neg h1]
    · rw [if_neg h2, if_neg h2, gD_drop, hg]
      congr 1
      omega
theorem vb_small {v : Int} {b k : Nat} (h : b < 8) (hk : k < b) : (vbits v b).getD k 0 = bitAt v k := by
  unfold vbits
  rw [piece_small h, if_pos hk, gD_map, if_pos (by omega), Nat.zero_add]
theorem vb_big {v : Int} {b j k : Nat} (h : b % 8 = 0) (h0 : 8 ≤ b) (hj : j < b / 8) (hk : k < 8) : (vbits v b).getD (8 * j + k) 0 = bitAt v (8 * (b / 8 - 1 - j) + k) := by
  unfold vbits
  rw [piece_big h h0 hj hk, gD_map, if_pos (by omega), Nat.zero_add]
theorem vbits_bits {v : Int} {b : Nat} (hb : SZ b) : Bits (vbits v b) := by
  refine bits_of_gD fun i => ?_
  by_cases hi : i < b
  · by_cases h8 : b < 8
    · rw [vb_small h8 hi]; exact bitAt01 _ _
    · have hm : b % 8 = 0 := by have := hb.m; omega
      rw [show i = 8 * (i / 8) + i % 8 by omega, vb_big hm (by omega) (by omega) (by omega)]; exact bitAt01 _ _
  · left; exact gD_none (by rw [vbits_len hb]; omega)
theorem laid_bits {row : List Int} {o b : Nat} {v : Int} (hb : SZ b) (hr : Bits row) : Bits (laidN row o b v) := by
  refine bits_of_gD fun i => ?_
  rw [laid_gD hb]
  split
  · exact hr.getD _
  · split
    · exact (vbits_bits hb).getD _
    · exact hr.getD _

theorem octN_split (row : List Int) (i : Nat) {s b c : Nat} (h : 8 = s + (b + c)) : octN row i = sv (fun k => row.getD (8 * i + k) 0) s + 2 ^ s * (sv (fun k => row.getD (8 * i + (s + k)) 0) b + 2 ^ b * sv (fun k => row.getD (8 * i + (s + (b + k))) 0) c) := by
  rw [octN_sv]
  have key : ∀ F : Nat → Int, sv F 8 = sv F s + 2 ^ s * (sv (fun k => F (s + k)) b + 2 ^ b * sv (fun k => F (s + (b + k))) c) := fun F => by rw [h, sv_add, sv_add]
  exact key _
theorem octs_laid_other {row : List Int} {o b : Nat} {v : Int} (hb : SZ b) {i : Nat} (h : 8 * i + 8 ≤ o * b ∨ o * b + b ≤ 8 * i) : octN (laidN row o b v) i = octN row i := by
  rw [octN_sv, octN_sv]
  refine sv_congr fun k hk => ?_
  rw [laid_gD hb]
  rcases h with h | h
  · rw [if_pos (by omega)]
  · rw [if_neg (by omega), if_neg (by omega)]
theorem setf_gD {row : List Int} {p n : Nat} {v : Int} (hp : p + n ≤ row.length) (x : Nat) : ∀ i, i ≤ n → (setf row (p : Int) v n i).getD x 0 = if p ≤ x ∧ x < p + i then v.fdiv (2 ^ (8 * (n - 1 - (x - p)))) % 2 ^ 8 else row.getD x 0
  | 0, _ => by rw [if_neg (by omega)]; rfl
  | i + 1, h => by
    show ((setf row (p : Int) v n i).set ((p : Int) + (i : Int)).toNat (v.fdiv (2 ^ (8 * (n - 1 - i))) % 2 ^ 8)).getD x 0 = _
    rw [show ((p : Int) + (i : Int)).toNat = p + i by omega, gD_set (by rw [setf_len]; omega), setf_gD hp x i (by omega)]
    by_cases h1 : x = p + i
    · subst h1
      rw [if_pos rfl, if_pos (by omega), show p + i - p = i by omega]
    · rw [if_neg h1]
      by_cases h2 : p ≤ x ∧ x < p + i
      · rw [if_pos h2, if_pos (by omega)]
      · rw [if_neg h2, if_neg (by omega)]
theorem fill_gD {os : List Int} {k : Nat} {i : Nat} : (os ++ List.replicate k (0 : Int)).getD i 0 = os.getD i 0 := by
  rw [gD_app]
  split
  · rfl
  · rw [gD_rep, gD_none (by omega)]

theorem laid_len8 {row : List Int} (h8 : row.length % 8 = 0) {o b : Nat} {v : Int} (hs : SZ b) : (laidN row o b v).length % 8 = 0 := by
  rw [laid_len hs]; unfold wide; omega
theorem wide_at {p b q s : Nat} (hp : p = 8 * q + s) (h : s + b ≤ 8) (h1 : 1 ≤ b) : (p + b + 7) / 8 * 8 = 8 * (q + 1) := by omega
/-- laying: the text is the row's -/
theorem law_set {row : List Int} (h8 : row.length % 8 = 0) (hr : Bits row) {o b : Nat} {v : Int} (hs : SZ b) : vset (octs row) o b v = octs (laidN row o b v) := by
  have hs1 := hs.one
  have hs64 := hs.le
  unfold vset
  by_cases hb8 : b < 8
  · rw [if_pos hb8]
    unfold vsetS fillS
    obtain ⟨m, hm, _, hm0, _, hmb⟩ := hs.mm hb8
    rw [← hm]
    rw [Int.fdiv_eq_ediv_of_nonneg _ (by omega), Int.fmod_eq_emod_of_nonneg _ (by omega)]
    have e1 : ((o : Int) / (m : Int)) = ((o / m : Nat) : Int) := by push_cast; rfl
    have e2 : ((o : Int) % (m : Int) * (b : Int)) = ((o % m * b : Nat) : Int) := by push_cast; rfl
    rw [e1, e2, Int.toNat_natCast, Int.toNat_natCast, octs_len]
    clear e1 e2
    have hp : o * b = 8 * (o / m) + o % m * b := by
      have := Nat.div_add_mod o m
      calc o * b = (m * (o / m) + o % m) * b := by rw [this]
        _ = m * b * (o / m) + o % m * b := by rw [Nat.add_mul, Nat.mul_right_comm]
        _ = _ := by rw [hmb]
    have hsb : o % m * b + b ≤ 8 := by
      have : o % m + 1 ≤ m := Nat.mod_lt _ hm0
      calc o % m * b + b = (o % m + 1) * b := by rw [Nat.add_mul, Nat.one_mul]
        _ ≤ m * b := Nat.mul_le_mul_right _ this
        _ = 8 := hmb
    clear hm hm0 hmb
    generalize o % m * b = s at *
    generalize o / m = q at *
    have hk : ((q : Int) + 1 - ((row.length / 8 : Nat) : Int)).toNat = q + 1 - row.length / 8 := by omega
    rw [hk]
    have hfl : ((octs row) ++ List.replicate (q + 1 - row.length / 8) (0 : Int)).length = max (row.length / 8) (q + 1) := by
      rw [List.length_append, List.length_replicate, octs_len]; omega
    have hwide : wide o b = 8 * (q + 1) := wide_at hp hsb hs1
    clear hk
    refine ext_gD ?_ ?_
    · rw [List.length_set, hfl, octs_len, laid_len hs, hwide]; omega
    · intro i hi
      rw [gD_set (by rw [hfl]; omega), octs_getD (laid_len8 h8 hs), fill_gD, fill_gD, octs_getD h8, octs_getD h8]
      by_cases hiq : i = q
      · subst hiq
        rw [if_pos rfl]
        obtain ⟨c, hc⟩ : ∃ c, 8 = s + (b + c) := ⟨8 - s - b, by omega⟩
        have b1 := sv_bd (f := fun k => row.getD (8 * i + k) 0) (n := s) fun k _ => hr.getD _
        have b2 := sv_bd (f := fun k => row.getD (8 * i + (s + k)) 0) (n := b) fun k _ => hr.getD _
        have b3 := sv_bd (f := fun k => row.getD (8 * i + (s + (b + k))) 0) (n := c) fun k _ => hr.getD _
        have d1 : octN row i = 2 ^ (s + b) * sv (fun k => row.getD (8 * i + (s + (b + k))) 0) c + 2 ^ s * sv (fun k => row.getD (8 * i + (s + k)) 0) b + sv (fun k => row.getD (8 * i + k) 0) s := by
          rw [octN_split _ _ hc, Int.pow_add, Int.mul_add, Int.mul_assoc]
          omega
        have d2 : octN (laidN row o b v) i = 2 ^ (s + b) * sv (fun k => row.getD (8 * i + (s + (b + k))) 0) c + 2 ^ s * (v % 2 ^ b) + sv (fun k => row.getD (8 * i + k) 0) s := by
          rw [octN_split _ _ hc, Int.pow_add, Int.mul_add, Int.mul_assoc]
          have f1 : sv (fun k => (laidN row o b v).getD (8 * i + k) 0) s = sv (fun k => row.getD (8 * i + k) 0) s := sv_congr fun k hk => by
            rw [laid_gD hs, if_pos (by omega)]
          have f2 : sv (fun k => (laidN row o b v).getD (8 * i + (s + k)) 0) b = v % 2 ^ b := by
            rw [← sv_bits]
            refine sv_congr fun k hk => ?_
            rw [laid_gD hs, if_neg (by omega), if_pos (by omega), show 8 * i + (s + k) - o * b = k by omega, vb_small hb8 hk]
          have f3 : sv (fun k => (laidN row o b v).getD (8 * i + (s + (b + k))) 0) c = sv (fun k => row.getD (8 * i + (s + (b + k))) 0) c := sv_congr fun k hk => by
            rw [laid_gD hs, if_neg (by omega), if_neg (by omega)]
          rw [f1, f2, f3]
          omega
        unfold smallOf
        rw [d1, small_bits b3.1 b1.1 b1.2 b2.1 b2.2 (Int.emod_nonneg _ (Int.ne_of_gt (pow_pos' b))) (Int.emod_lt_of_pos _ (pow_pos' b)), d2]
      · rw [if_neg hiq, octs_laid_other hs (by omega)]
  · rw [if_neg hb8]
    unfold vsetB fillB
    have hb0 : b % 8 = 0 := by have := hs.m; omega
    have hbn : b = 8 * (b / 8) := by omega
    generalize hn : b / 8 = n at *
    have e0 : (o : Int) * (n : Int) = ((o * n : Nat) : Int) := by push_cast; rfl
    have e1 : ((o : Int) + 1) * (n : Int) = ((o * n + n : Nat) : Int) := by push_cast; rw [Int.add_mul, Int.one_mul]
    rw [e0, e1, octs_len]
    clear e0 e1
    have hk : (((o * n + n : Nat) : Int) - ((row.length / 8 : Nat) : Int)).toNat = o * n + n - row.length / 8 := by omega
    rw [hk]
    have hob : o * b = 8 * (o * n) := by rw [hbn, Nat.mul_left_comm]
    have hfl : ((octs row) ++ List.replicate (o * n + n - row.length / 8) (0 : Int)).length = max (row.length / 8) (o * n + n) := by
      rw [List.length_append, List.length_replicate, octs_len]; omega
    have hwide : wide o b = 8 * (o * n + n) := by unfold wide; omega
    clear hk
    refine ext_gD ?_ ?_
    · rw [setf_len, hfl, octs_len, laid_len hs, hwide]; omega
    · intro i hi
      rw [setf_gD (by rw [hfl]; omega) i n (Nat.le_refl _), octs_getD (laid_len8 h8 hs), fill_gD, octs_getD h8]
      by_cases hin : o * n ≤ i ∧ i < o * n + n
      · rw [if_pos hin, Int.fdiv_eq_ediv_of_nonneg _ (Int.le_of_lt (pow_pos' _)), cut_mid v (by omega), ← sv_bits_at, octN_sv]
        refine sv_congr fun k hk => ?_
        rw [laid_gD hs, if_neg (by omega), if_pos (by omega), show 8 * i + k - o * b = 8 * (i - o * n) + k by omega, vb_big hb0 (by omega) (by omega) hk, hn]
      · rw [if_neg hin, octs_laid_other hs (by omega)]

theorem need_60 {o b : Nat} (hs : SZ b) : need o b ≤ 60 ↔ o * b + b ≤ 480 := by
  have hs1 := hs.one
  have hs64 := hs.le
  unfold need
  by_cases hb8 : b < 8
  · rw [if_pos hb8]
    obtain ⟨m, hm, _, hm0, _, hmb⟩ := hs.mm hb8
    rw [← hm]
    rw [Int.fdiv_eq_ediv_of_nonneg _ (by omega)]
    have e1 : ((o : Int) / (m : Int)) = ((o / m : Nat) : Int) := by push_cast; rfl
    rw [e1]
    have hp : o * b = 8 * (o / m) + o % m * b := by
      have := Nat.div_add_mod o m
      calc o * b = (m * (o / m) + o % m) * b := by rw [this]
        _ = m * b * (o / m) + o % m * b := by rw [Nat.add_mul, Nat.mul_right_comm]
        _ = _ := by rw [hmb]
    have hsb : o % m * b + b ≤ 8 := by
      have : o % m + 1 ≤ m := Nat.mod_lt _ hm0
      calc o % m * b + b = (o % m + 1) * b := by rw [Nat.add_mul, Nat.one_mul]
        _ ≤ m * b := Nat.mul_le_mul_right _ this
        _ = 8 := hmb
    omega
  · rw [if_neg hb8]
    have hbn : b = 8 * (b / 8) := by have := hs.m; omega
    generalize hn : b / 8 = n at *
    have e1 : ((o : Int) + 1) * (n : Int) = ((o * n + n : Nat) : Int) := by push_cast; rw [Int.add_mul, Int.one_mul]
    rw [e1]
    have hob : o * b = 8 * (o * n) := by rw [hbn, Nat.mul_left_comm]
    omega

-- L2
theorem room {n k m r : Nat} (h : n + m < r) (hk : k ≤ m) : n + k < r := Nat.lt_of_le_of_lt (Nat.add_le_add_left hk n) h
theorem room0 {n m r : Nat} (h : n + m < r) : n < r := Nat.lt_of_le_of_lt (Nat.le_add_right n m) h
abbrev frs (l : List Env) : List Addr := l.filterMap (·.frame)
theorem funRebase {h base base' : Heap} : ∀ {l : List Env}, h.FunFrames base l → (∀ a ∈ frs l, base'.get? a = none) → h.FunFrames base' l
  | [], _, _ => trivial
  | env :: rest, ⟨hk, ⟨L, o, hf, hn, ho, hd⟩, hr⟩, hb => by
    refine ⟨hk, ⟨L, o, hf, hb L ?_, ho, hd⟩, funRebase hr fun a ha => hb a ?_⟩
    · unfold frs; rw [List.filterMap_cons, hf]; exact List.mem_cons_self
    · unfold frs; rw [List.filterMap_cons, hf]; exact List.mem_cons_of_mem _ ha

section
variable {w : World} {A : Around} {base base' b : Heap} {outer : List Env} {env : Env} {names : List (Str × NameKind)} {vars cvars : List (Str × Value)} {news : List (Addr × Obj)} {s₀ s s' : Shared}

theorem below_re (K : Below A base outer s₀.heap) (hE : EnvOk env names) (hF : FrOk env names) (F : Fm b env vars cvars news s₀ s) (kb : Sub base b) (up : s₀.heap.UpToSlots b) :
    Below (A.deeper env) (hideAll s.heap (frs (env :: outer))) (env :: outer) s.heap ∧ Sub base (hideAll s.heap (frs (env :: outer))) ∧ (∀ a ∈ frs (env :: outer), a = env.locals ∨ ∃ o, b.get? a = some o) := by
  have hfr : frs (env :: outer) = env.locals :: frs outer := by unfold frs; rw [List.filterMap_cons, hF.frame]
  have hout : ∀ a ∈ frs outer, base.get? a = none ∧ ∃ o, b.get? a = some o := fun a ha => by
    obtain ⟨x, o, y, z⟩ := Heap.FunFrames.mem K.frames ha
    obtain ⟨sl, e⟩ := up a o y z
    exact ⟨x, _, e⟩
  have upS : s₀.heap.UpToSlots s.heap := Heap.UpToSlots.trans up (Heap.UpToSlots.of_keeps F.keep)
  refine ⟨⟨Around.frames_deeper K.stack, fun a o e => of_hideAll _ e, ?_⟩, fun a o e => hideAll_get _ (F.keep _ _ (kb _ _ e)) fun hm => ?_, fun a ha => ?_⟩
  · obtain ⟨m, ⟨oL, es, ep, hL, hd, r⟩, _⟩ := F.ns
    refine ⟨by rw [hE.kind]; decide, ⟨env.locals, oL, hF.frame, hideAll_none _ (by rw [hfr]; exact List.mem_cons_self), hL, fun vs q => by rw [hd] at q; cases q⟩, ?_⟩
    refine funRebase (base := base) (K.frames.of_keeps fun a o e hn => let ⟨sl, e'⟩ := upS a o e hn; ⟨_, e', rfl⟩) fun a ha => hideAll_none _ ?_
    rw [hfr]; exact List.mem_cons_of_mem _ ha
  · rw [hfr] at hm
    rcases List.mem_cons.mp hm with rfl | hm
    · have := kb _ _ e
      rw [F.locNew] at this; cases this
    · rw [(hout a hm).1] at e; cases e
  · rw [hfr] at ha
    rcases List.mem_cons.mp ha with rfl | ha
    · exact .inl rfl
    · exact .inr (hout a ha).2

theorem Fm.caught {L : List Addr} (F : Fm b env vars cvars news s₀ s) (sl : Sl (hideAll s.heap L) s s') (hL : ∀ a ∈ L, a = env.locals ∨ ∃ o, b.get? a = some o) (kb : Sub base b) (kbb : Sub base (hideAll s.heap L)) :
    ∃ b₂, Fm b₂ env vars cvars news s₀ s' ∧ Sub base b₂ ∧ b.UpToSlots b₂ := by
  let X : List Addr := (List.range s'.heap.objs.size).filter fun a => (b.get? a).isNone
  have hX : ∀ a, a ∈ X ↔ a < s'.heap.objs.size ∧ b.get? a = none := fun a => by simp [X]
  let b₂ := hideAll s'.heap X
  have get2 : ∀ {a o}, s'.heap.get? a = some o → b.get? a ≠ none → b₂.get? a = some o := fun h hn => hideAll_get _ h fun hm => hn ((hX _).mp hm).2
  have none2 : ∀ {a}, b.get? a = none → b₂.get? a = none := fun {a} h => by
    cases q : b₂.get? a with
    | none => rfl
    | some o =>
      have h1 := of_hideAll _ q
      have : a ∈ X := (hX a).mpr ⟨Heap.lt_size h1, h⟩
      rw [show b₂.get? a = none from hideAll_none _ this] at q; cases q
  have up : s.heap.UpToSlots s'.heap := sl.up
  refine ⟨b₂, ?_, fun a o e => get2 (sl.base _ _ (kbb _ _ e)) (by rw [kb _ _ e]; simp), fun a o e hn => ?_⟩
  · refine ⟨?_, fun a o e => of_hideAll _ e, ?_, none2 F.locNew, fun p hp => ?_, fun n c hc => ?_, F.apart, fun p hp => ?_⟩
    · obtain ⟨h, t, e⟩ := F.same
      obtain ⟨h', t', e'⟩ := sl.like
      exact ⟨h', t', by rw [e', e]⟩
    · obtain ⟨m, hm, he⟩ := F.ns
      exact ⟨m, up.ns hm, he⟩
    · obtain ⟨c, hc, o, ho, hd⟩ := F.cel p hp
      obtain ⟨slt, e⟩ := up c o ho fun vs q => by rw [hd] at q; cases q
      exact ⟨c, hc, _, e, hd⟩
    · obtain ⟨⟨v, o, ho, hd⟩, h1, h2⟩ := F.celOk n c hc
      obtain ⟨slt, e⟩ := up c o ho fun vs q => by rw [hd] at q; cases q
      exact ⟨⟨v, _, e, hd⟩, none2 h1, h2⟩
    · obtain ⟨ho, h1, h2, h3⟩ := F.nw p hp
      refine ⟨sl.base _ _ (hideAll_get _ ho fun hm => ?_), none2 h1, h2, h3⟩
      rcases hL _ hm with e | ⟨o, e⟩
      · exact h2 e
      · rw [h1] at e; cases e
  · obtain ⟨slt, e'⟩ := up a o (F.keep _ _ e) hn
    exact ⟨slt, get2 e' (by rw [e]; simp)⟩
end

section
variable {w : World} {A : Around} {base : Heap} {outer : List Env} {h₀ : Heap} {env : Env} {names : List (Str × NameKind)} {e1 e2 e3 e4 e5 e6 : Expr} {fp pos : Pos} {P1 P2 P3 P4 P5 P6 : Value → Heap → Prop} {P : Value → Prop}
theorem Hd.callD {f : Str} {a : Addr} {e : Expr} {rest : List Expr} {PL : List Value → Heap → Prop} (W : WW w h₀) (hf : Has env h₀ f (.ref a)) (hk : keepIn (hd.heap_39 w.params) (.ref a) = true) (hd : (f == ("__debug__" : Str)) = false)
    (ha : Ev prg w A (spliced (backTo pos (starEach (e :: rest) env))) h₀ PL) (hc : ∀ vs h, Sub h₀ h → PL vs h → Hd w A base outer (call (.ref a) vs) h P)
    (he : starEach (e :: rest) env = (false, eval e env) :: starEach rest env := by rfl) (hplain : (backTo pos (starEach rest env)).any (·.1) = false := by rfl) :
    Hd w A base outer (eval (.Call (.Name f fp) (e :: rest) [] pos) env) h₀ P :=
  fun s E Q hs K hQ => wpAny_Call_ofName (wpAny_Name (hf _ _ _ s _ hs (callWith_K W.K hk (wpAny_mono (ha s E hs) (fun vs s₁ hv =>
    ⟨(W.up (hs.tr hv.2.sub)).K, hc vs s₁.heap (hs.tr hv.2.sub) hv.1.here s₁ E _ Sub.rfl' (below_up K hv.2.sub) fun v s' hv' sl => hQ v s' hv' ((Sl.of hv.2 K.stays).tr sl)⟩) fun _ _ e => e) he hplain)) hd)
theorem Hd.d6 {f : Str} {a : Addr} (W : WW w h₀) (hE : EnvOk env names) (hl : names.lookup f = some .globalImplicit) (h1 : Ev prg w A (eval e1 env) h₀ P1) (h2 : Ev prg w A (eval e2 env) h₀ P2) (h3 : Ev prg w A (eval e3 env) h₀ P3) (h4 : Ev prg w A (eval e4 env) h₀ P4) (h5 : Ev prg w A (eval e5 env) h₀ P5) (h6 : Ev prg w A (eval e6 env) h₀ P6)
    (hc : ∀ v1 v2 v3 v4 v5 v6 h, Sub h₀ h → P1 v1 h → P2 v2 h → P3 v3 h → P4 v4 h → P5 v5 h → P6 v6 h → Hd w A base outer (call (.ref a) [v1, v2, v3, v4, v5, v6]) h P)
    (hn : nsIn (hd.heap_39 w.params) mainGlobals f = some (some (.ref a)) := by rfl) (hk : keepIn (hd.heap_39 w.params) (.ref a) = true := by rfl) (hd' : (f == ("__debug__" : Str)) = false := by decide)
    (he : starEach [e1, e2, e3, e4, e5, e6] env = (false, eval e1 env) :: starEach [e2, e3, e4, e5, e6] env := by rfl) (he2 : starEach [e2, e3, e4, e5, e6] env = (false, eval e2 env) :: starEach [e3, e4, e5, e6] env := by rfl) (he3 : starEach [e3, e4, e5, e6] env = (false, eval e3 env) :: starEach [e4, e5, e6] env := by rfl)
    (he4 : starEach [e4, e5, e6] env = (false, eval e4 env) :: starEach [e5, e6] env := by rfl) (he5 : starEach [e5, e6] env = (false, eval e5 env) :: starEach [e6] env := by rfl) (he6 : starEach [e6] env = (false, eval e6 env) :: starEach [] env := by rfl)
    (hp : (backTo pos (starEach [e2, e3, e4, e5, e6] env)).any (·.1) = false := by rfl) : Hd w A base outer (eval (.Call (.Name f fp) [e1, e2, e3, e4, e5, e6] [] pos) env) h₀ P := by
  refine Hd.callD W (Has.glob W hE hl hn) hk hd' (Ev.args h1 (Ev.args h2 (Ev.args h3 (Ev.args h4 (Ev.args h5 (Ev.args h6 Ev.args0 he6) he5) he4) he3) he2) he) ?_ he hp
  rintro vs h hs ⟨v1, r, rfl, p1, v2, r2, rfl, p2, v3, r3, rfl, p3, v4, r4, rfl, p4, v5, r5, rfl, p5, v6, r6, rfl, p6, rfl⟩
  exact hc v1 v2 v3 v4 v5 v6 h hs p1 p2 p3 p4 p5 p6
theorem Hd.mono {t : Sem Value} {P' : Value → Prop} (h : Hd w A base outer t h₀ P) (k : ∀ v, P v → P' v) : Hd w A base outer t h₀ P' := fun s E Q hs K hQ => h s E Q hs K fun v s' hv sl => hQ v s' (k v hv) sl
end

section
variable {prog : Program} {w : World} {A : Around} {b : Heap} {env : Env} {vars cvars : List (Str × Value)} {news : List (Addr × Obj)} {s₀ s s' : Shared} {names : List (Str × NameKind)} {E : Value → Shared → Prop} {Q : Flow → Shared → Prop} {rest : List Stmt}
/-- both ways meet -/
theorem x_ifJoin {test : Expr} {body : List Stmt} {pos : Pos} {c : Bool} (J : Shared → Prop) (F : Fm b env vars cvars news s₀ s) (ht : Ev prog w A (isTrue test env (eval test env)) s.heap (TB c))
    (kt : c = true → ∀ s', Fm b env vars cvars news s₀ s' → wpAny (model prog w) A (execs body env) (fun f s'' => f = .next ∧ J s'') (fun _ _ => False) s')
    (kf : c = false → ∀ s', Fm b env vars cvars news s₀ s' → J s')
    (k : ∀ s', J s' → wpAny (model prog w) A (execs rest env) Q E s') :
    wpAny (model prog w) A (execs (.If test body [] pos :: rest) env) Q E s :=
  x_if0 F ht (fun hc s' F' _ => wpAny_mono (kt hc s' F') (fun f s'' h => by obtain ⟨rfl, h⟩ := h; exact k s'' h) fun _ _ h => h.elim) fun hc s' F' _ => k s' (kf hc s' F')
end

-- L3
section
variable {prog : Program} {w : World} {A : Around} {h₀ : Heap} {env : Env} {ns : List Int} {pos : Pos}
theorem Ev.argsK {i : Int} {k : Nat} {p : Pos} {rest : List Expr} (hr : Ev prog w A (spliced (backTo pos (starEach rest env))) h₀ (fun vs _ => IntsAre vs ns)) :
    Ev prog w A (spliced (backTo pos (starEach (.Constant (.int i) k p :: rest) env))) h₀ (fun vs _ => IntsAre vs (i :: ns)) := Ev.argsI Ev.cInt hr (by rfl)
theorem Ev.argsM {i : Int} {k : Nat} {p p' : Pos} {rest : List Expr} (hr : Ev prog w A (spliced (backTo pos (starEach rest env))) h₀ (fun vs _ => IntsAre vs ns)) :
    Ev prog w A (spliced (backTo pos (starEach (.UnaryOp .USub (.Constant (.int i) k p) p' :: rest) env))) h₀ (fun vs _ => IntsAre vs (-i :: ns)) := Ev.argsI (Ev.neg Ev.cInt) hr (by rfl)
end
def bitsRow : List Int := [1, 2, 4, 8, 16, 32, 64, 3, 0, -8]
def badRow : List Int := [3, 0, -8]
theorem ev_bitsRow {prog : Program} {w : World} {A : Around} {h₀ : Heap} {env : Env} {pos p1 p2 p3 p4 p5 p6 p7 p8 p9 p10 p11 : Pos} {k1 k2 k3 k4 k5 k6 k7 k8 k9 k10 : Nat} :
    Ev prog w A (eval (.List [.Constant (.int 1) k1 p1, .Constant (.int 2) k2 p2, .Constant (.int 4) k3 p3, .Constant (.int 8) k4 p4, .Constant (.int 16) k5 p5, .Constant (.int 32) k6 p6, .Constant (.int 64) k7 p7, .Constant (.int 3) k8 p8, .Constant (.int 0) k9 p9, .UnaryOp .USub (.Constant (.int 8) k10 p10) p11] pos) env) h₀ (LV bitsRow) := by
  unfold bitsRow
  with_reducible refine Ev.lv (h₁ := h₀) ?_
  with_reducible refine Ev.dispL ?_ ?_
  · with_reducible exact Ev.argsK (Ev.argsK (Ev.argsK (Ev.argsK (Ev.argsK (Ev.argsK (Ev.argsK (Ev.argsK (Ev.argsK (Ev.argsM Ev.argsI0)))))))))
  · decide
theorem Hd.use {w : World} {A : Around} {base : Heap} {outer : List Env} {s : Shared} {t : Sem Value} {P : Value → Prop} {E : Value → Shared → Prop} {Q : Value → Shared → Prop} (h : Hd w A base outer t s.heap P) (K : Below A base outer s.heap) (hQ : ∀ v s', P v → Sl base s s' → Q v s') : wpAny (model prg w) A t Q E s := h s E Q Sub.rfl' K hQ
def RowOk (row : List Int) : Prop := Bits row ∧ row.length % 8 = 0 ∧ row.length ≤ 480
theorem bits_cases {i : Int} (h0 : 0 ≤ i) (h1 : i < 10) : (badRow.contains (bitsRow.getD i.toNat 0) = true ∧ sizes.contains (bitsRow.getD i.toNat 0) = false) ∨
    (badRow.contains (bitsRow.getD i.toNat 0) = false ∧ ∃ b : Nat, SZ b ∧ bitsRow.getD i.toNat 0 = b) := by
  obtain ⟨n, rfl⟩ := Int.eq_ofNat_of_zero_le h0
  match n, h1 with
  | 0, _ => exact .inr ⟨rfl, 1, .inl rfl, rfl⟩
  | 1, _ => exact .inr ⟨rfl, 2, .inr (.inl rfl), rfl⟩
  | 2, _ => exact .inr ⟨rfl, 4, .inr (.inr (.inl rfl)), rfl⟩
  | 3, _ => exact .inr ⟨rfl, 8, .inr (.inr (.inr (.inl rfl))), rfl⟩
  | 4, _ => exact .inr ⟨rfl, 16, .inr (.inr (.inr (.inr (.inl rfl)))), rfl⟩
  | 5, _ => exact .inr ⟨rfl, 32, .inr (.inr (.inr (.inr (.inr (.inl rfl))))), rfl⟩
  | 6, _ => exact .inr ⟨rfl, 64, .inr (.inr (.inr (.inr (.inr (.inr rfl))))), rfl⟩
  | 7, _ => exact .inl ⟨rfl, rfl⟩
  | 8, _ => exact .inl ⟨rfl, rfl⟩
  | 9, _ => exact .inl ⟨rfl, rfl⟩
  | n + 10, h => exact absurd h (by omega)

/-- none or an int -/
def OI (d : Option Int) (v : Value) : Prop := match d with | none => v = .none | some n => ∃ t, v = .int n t
def OS (d : Option (List Int)) (v : Value) : Prop := match d with | none => v = .none | some os => ∃ t, v = .str (tx os) t
theorem OI.ne {w : World} {A : Around} {h : Heap} {d : Option Int} {v u : Value} (x : OI d v) (y : OI d u) : Ev prg w A (compareOp .NotEq v u) h (IsB false) := by
  cases d with
  | none => rw [show v = .none from x, show u = .none from y]; exact Ev.neN
  | some n =>
    have := Ev.neI (prog := prg) (w := w) (A := A) (h := h) (a := n) (b := n) x y
    rwa [bne_self_eq_false] at this

theorem laid_ok {row : List Int} {o b : Nat} {v : Int} (hs : SZ b) (hr : RowOk row) (h : o * b + b ≤ 480) : RowOk (laidN row o b v) := by
  obtain ⟨h1, h2, h3⟩ := hr
  refine ⟨laid_bits hs h1, ?_, ?_⟩ <;> rw [laid_len hs] <;> unfold wide <;> omega

section
variable {w : World} {A : Around} {h₀ h₁ : Heap} {env : Env} {names : List (Str × NameKind)} {e1 e2 e3 e4 e5 : Expr} {fp pos : Pos} {P1 P2 P3 P4 P5 P : Value → Heap → Prop}
theorem Ev.d4 {f : Str} {a : Addr} (W : WW w h₀) (hE : EnvOk env names) (hl : names.lookup f = some .globalImplicit) (h1 : Ev prg w A (eval e1 env) h₀ P1) (h2 : Ev prg w A (eval e2 env) h₀ P2) (h3 : Ev prg w A (eval e3 env) h₀ P3) (h4 : Ev prg w A (eval e4 env) h₀ P4)
    (hc : ∀ v1 v2 v3 v4 h, Sub h₀ h → P1 v1 h → P2 v2 h → P3 v3 h → P4 v4 h → Ev prg w A (call (.ref a) [v1, v2, v3, v4]) h P)
    (hn : nsIn (hd.heap_39 w.params) mainGlobals f = some (some (.ref a)) := by rfl) (hk : keepIn (hd.heap_39 w.params) (.ref a) = true := by rfl) (hd' : (f == ("__debug__" : Str)) = false := by decide)
    (he : starEach [e1, e2, e3, e4] env = (false, eval e1 env) :: starEach [e2, e3, e4] env := by rfl) (he2 : starEach [e2, e3, e4] env = (false, eval e2 env) :: starEach [e3, e4] env := by rfl) (he3 : starEach [e3, e4] env = (false, eval e3 env) :: starEach [e4] env := by rfl) (he4 : starEach [e4] env = (false, eval e4 env) :: starEach [] env := by rfl)
    (hp : (backTo pos (starEach [e2, e3, e4] env)).any (·.1) = false := by rfl) : Ev prg w A (eval (.Call (.Name f fp) [e1, e2, e3, e4] [] pos) env) h₀ P := by
  refine Ev.callD W (Has.glob W hE hl hn) hk hd' (Ev.args h1 (Ev.args h2 (Ev.args h3 (Ev.args h4 Ev.args0 he4) he3) he2) he) ?_ he hp
  rintro vs h hs ⟨v1, r, rfl, p1, v2, r2, rfl, p2, v3, r3, rfl, p3, v4, r4, rfl, p4, rfl⟩
  exact hc v1 v2 v3 v4 h hs p1 p2 p3 p4
end
set_option maxHeartbeats 4000000 in
theorem deed_call {w : World} {A : Around} {base : Heap} {outer : List Env} {s : Shared} {E : Value → Shared → Prop} {Q : Value → Shared → Prop} (W : WW w base) (K : Below A base outer s.heap) (hh : A.handled = none) (hroom : A.depth + 7 < recursionLimit) {l : Addr} {row : List Int} {code num : Int} {tc tn : Tok} (hl : Lst base l row) (hr : RowOk row)
    (hQ : ∀ l' row' s', RowOk row' → Lst s'.heap l' row' → (l' = l ∨ base.get? l' = none) → Sl base s s' → Q (.ref l') s') :
    wpAny (model prg w) A (call (.ref 162) [.ref l, .int code tc, .int num tn]) Q E s := by
  have Ws := W.up K.stays
  refine call_d [(PySem.Str.ofString "row", .ref l), (PySem.Str.ofString "code", .int code tc), (PySem.Str.ofString "number", .int num tn)] [(PySem.Str.ofString "row", .ref l), (PySem.Str.ofString "code", .int code tc), (PySem.Str.ofString "number", .int num tn)] [] Ws.K Ws.lim (by omega) rfl rfl rfl rfl rfl rfl rfl rfl rfl rfl rfl rfl rfl rfl rfl (fun _ h => h) (fun _ h => (nomatch h)) ?_
  intro env s₁ hE hF F
  have hh' : (A.deeper env).handled = none := hh
  have hroom' : (A.deeper env).depth + 6 < recursionLimit := by show A.depth + 1 + 6 < recursionLimit; omega
  obtain ⟨hbits, h8, h480⟩ := hr
  have kb₁ : Sub base s.heap := K.stays
  have up₁ : s.heap.UpToSlots s.heap := Heap.UpToSlots.refl _
  have hmod0 : 0 ≤ code.fmod 10 := Int.fmod_nonneg_of_pos _ (by decide)
  have hmod1 : code.fmod 10 < 10 := Int.fmod_lt_of_pos _ (by decide)
  have hbI := bits_cases hmod0 hmod1
  have hmod1' : code.fmod 10 < (bitsRow.length : Int) := by rw [show (bitsRow.length : Int) = 10 from rfl]; exact hmod1
  with_reducible refine x_assignI F hE ?hl (i := bitsRow.getD (code.fmod 10).toNat 0) ?hv ?_ ?hs
  case hl => rfl
  case hs => rfl
  case hv =>
    with_reducible refine Ev.itemL (ns := bitsRow) ?ha (k := code.fmod 10) ?hb hmod0 hmod1' ?hc ?hd
    case ha => with_reducible exact ev_bitsRow
    case hb => walk_at "ev"
    case hc => omega
    case hd => intro _ _; with_unfolding_all rfl
  generalize bitsRow.getD (code.fmod 10).toNat 0 = bI at hbI ⊢
  intro tb s₂ F₂
  have hof0 : 0 ≤ (code.fdiv 10).fmod 12 := Int.fmod_nonneg_of_pos _ (by decide)
  have hof1 : (code.fdiv 10).fmod 12 < 12 := Int.fmod_lt_of_pos _ (by decide)
  refine x_assignI F₂ hE rfl (i := (code.fdiv 10).fmod 12 - 1) (by walk_at "ev") ?_
  intro to1 s₃ F₃
  obtain ⟨o, ho⟩ : ∃ o, o = if ((code.fdiv 120).fmod 6 == 5) = true then ((code.fdiv 10).fmod 12 - 1) * 10 ^ 9 + 9 else (code.fdiv 10).fmod 12 - 1 := ⟨_, rfl⟩
  have ho40 : o < 2 ^ 40 := by rw [ho]; split <;> omega
  refine x_ifJoin (fun s' => ∃ t, Fm s.heap env [(PySem.Str.ofString "offset", .int o t), (PySem.Str.ofString "bits", .int bI tb), (PySem.Str.ofString "row", .ref l), (PySem.Str.ofString "number", .int num tn)] [] [] s s') F₃ (Ev.eqT (a := (code.fdiv 120).fmod 6) (b := 5) (by walk_at "ev") (by walk_at "ev")) ?_ ?_ ?_
  · intro hc s' F'
    refine x_assignI F' hE rfl (i := o) (Ev.int_eq (Ev.add (Ev.mul (a := (code.fdiv 10).fmod 12 - 1) (b := 10 ^ ((9 : Int)).toNat) (by walk_at "ev") (by walk_at "ev") (IntMulOk.of_right (by decide))) (by walk_at "ev")) (by rw [ho, if_pos hc]; rfl)) ?_
    intro t s'' F''
    refine x_nil ⟨rfl, t, F''.sub ?_ (fun _ h => h) (fun _ h => h)⟩
    intro p hp
    simp only [List.mem_cons, List.not_mem_nil, or_false] at hp
    rcases hp with rfl | rfl | rfl | rfl <;> walk_at "mem"
  · intro hc s' F'
    have e : o = (code.fdiv 10).fmod 12 - 1 := by rw [ho, if_neg (by rw [hc]; decide)]
    refine ⟨to1, F'.sub ?_ (fun _ h => h) (fun _ h => h)⟩
    intro p hp
    simp only [List.mem_cons, List.not_mem_nil, or_false] at hp
    rcases hp with rfl | rfl | rfl | rfl
    · rw [e]; walk_at "mem"
    · walk_at "mem"
    · walk_at "mem"
    · walk_at "mem"
  rintro s₄ ⟨to, F₄⟩
  clear ho hof0 hof1 F₃ F₂ F
  have hl₀ := hl.up kb₁
  refine x_assignS F₄ hE rfl (i := tx (octs row)) (Ev.d1 (P1 := IsV (.ref l)) (Ws.up F₄.keep) hE rfl (Ev.name (by walk_at "has")) (fun v1 h hs' e1 => ?_)) ?_
  · rw [show v1 = .ref l from e1]
    exact ev_text ((Ws.up F₄.keep).up hs') hh' (room0 hroom') ((hl₀.up F₄.keep).up hs') (by omega) h8 hbits
  intro tt s₅ F₅
  -- what is due
  obtain ⟨dn, hdn⟩ : ∃ dn : Option Int, (badRow.contains bI = true ∧ dn = none) ∨ (badRow.contains bI = false ∧ ∃ b : Nat, bI = b ∧ dn = some (number row o b)) := by
    rcases hbI with ⟨h, _⟩ | ⟨h, b, _, hb⟩
    · exact ⟨none, .inl ⟨h, rfl⟩⟩
    · exact ⟨some (number row o b), .inr ⟨h, b, hb, rfl⟩⟩
  have hbadT : ∀ {h : Heap} {e : Expr} {p p' : Pos} {kk : Nat} {whole : Sem Value} {k1 k2 k3 : Nat} {q1 q2 q3 q4 : Pos}, Ev prg w (A.deeper env) (eval e env) h (IsI bI) →
      Ev prg w (A.deeper env) (isTrue (.Compare e [.In] [.Tuple [.Constant (.int 3) k1 q1, .Constant (.int 0) k2 q2, .UnaryOp .USub (.Constant (.int 8) k3 q3) q4] kk p] p') env whole) h (TB (badRow.contains bI)) := by
    intro h e p p' kk whole k1 k2 k3 q1 q2 q3 q4 he
    exact Ev.cmpT he (Ev.dispT (ns := badRow) (Ev.argsK (Ev.argsK (Ev.argsM Ev.argsI0))) (by decide)) fun a c h' hs' ha hc => Ev.inT ha hc
  refine x_assignV (R := OI dn) F₅ hE rfl (Ev.ite (c := badRow.contains bI) (hbadT (by walk_at "ev")) ?_ ?_) ?_
  · intro hc
    rcases hdn with ⟨_, rfl⟩ | ⟨h, _⟩
    · exact Ev.cNone
    · rw [hc] at h; cases h
  · intro hc
    rcases hdn with ⟨h, _⟩ | ⟨_, b, rfl, rfl⟩
    · rw [hc] at h; cases h
    · rcases hbI with ⟨h, _⟩ | ⟨_, b', hb', hbb⟩
      · rw [hc] at h; cases h
      · obtain rfl : b' = b := by omega
        refine (Ev.d3 (P1 := IsV (.ref l)) (P2 := IsV (.int o to)) (P3 := IsV (.int b' tb)) (Ws.up F₅.keep) hE rfl (Ev.name (by walk_at "has")) (Ev.name (by walk_at "has")) (Ev.name (by walk_at "has")) (fun v1 v2 v3 h hs' e1 e2 e3 => ?_)).mono fun _ _ _ x => x
        rw [show v1 = .ref l from e1, show v2 = .int o to from e2, show v3 = .int b' tb from e3]
        exact ev_number ((Ws.up F₅.keep).up hs') hh' (room hroom' (by decide)) ((hl₀.up F₅.keep).up hs') (by omega) ho40 hb'
  intro dv s₆ hdv F₆
  have hco : codes (tx (octs row)) = octs row := tx_codes (octs_oct hbits)
  have hcz : (tx (octs row)).cps.size ≤ 10000 := by rw [tx_size, octs_len]; omega
  -- what is heard
  obtain ⟨K₆, kk₆, hL₆⟩ := below_re K hE hF F₆ kb₁ up₁
  have Wb₆ := W.up kk₆
  refine wpAny_execs_cons (wpAny_If (wpAny_isTrue_Compare1 (hm := by with_unfolding_all rfl) (Hd.use (Hd.d6 (P := OI dn) (P1 := IsI 0) (P2 := IsV (.str (tx (octs row)) tt)) (P3 := IsV (.int o to)) (P4 := IsV (.int bI tb)) (P5 := IsI 0) (P6 := IsI 0) (Ws.up F₆.keep) hE rfl Ev.cInt (Ev.name (by walk_at "has")) (Ev.name (by walk_at "has")) (Ev.name (by walk_at "has")) Ev.cInt Ev.cInt (fun v1 v2 v3 v4 v5 v6 h hs' e1 e2 e3 e4 e5 e6 => ?_)) K₆ fun hv s₇ hhv sl₇ => ?_)))
  · obtain ⟨t1, rfl⟩ := e1
    obtain ⟨t5, rfl⟩ := e5
    obtain ⟨t6, rfl⟩ := e6
    rw [show v2 = .str (tx (octs row)) tt from e2, show v3 = .int o to from e3, show v4 = .int bI tb from e4]
    rcases hbI with ⟨hb1, hb2⟩ | ⟨hb1, b, hb, rfl⟩
    · have : dn = none := by
        rcases hdn with ⟨_, h⟩ | ⟨h, _⟩
        · exact h
        · rw [hb1] at h; cases h
      subst this
      exact hd_get Wb₆ hh' (room hroom' (by decide)) hcz (.inl hb2)
    · obtain ⟨b', hbb, rfl⟩ : ∃ b' : Nat, (b : Int) = b' ∧ dn = some (number row o b') := by
        rcases hdn with ⟨h, _⟩ | ⟨_, h⟩
        · rw [hb1] at h; cases h
        · exact h
      obtain rfl : b = b' := by omega
      refine (ev_heard0 ((Ws.up F₆.keep).up hs') hh' (room hroom' (by decide)) hcz (by rw [hco]; exact octs_oct hbits) ho40 hb).hd fun v h hv => ?_
      rw [hco, law_get h8 hbits hb] at hv
      exact hv
  obtain ⟨b₇, F₇, kb₇, up₇⟩ := F₆.caught sl₇ hL₆ kb₁ kk₆
  have Wb₇ := W.up kb₇
  refine Ev.use' (h₀ := s₇.heap) (Ev.name (v := dv) (F₇.has hE (by walk_at "mem") rfl)) Sub.rfl' fun dv' s₈ k₈ hb₈ => ?_
  have : dv = dv' := Eq.symm hb₈.here
  subst this
  refine Ev.use' (h₀ := s₈.heap) (OI.ne hhv hdv) Sub.rfl' fun c s₉ k₉ hb₉ => ?_
  have : c = .bool false := hb₉.here
  subst this
  refine wpAny_truthy_bool ?_
  refine x_nil ?_
  have F₉ := (F₇.kp k₈).kp k₉
  -- what is laid
  obtain ⟨K₉, kk₉, hL₉⟩ := below_re K hE hF F₉ kb₇ up₇
  have Wb₉ := W.up kk₉
  obtain ⟨ln, hln⟩ : ∃ ln : Option (List Int), ((badRow.contains bI = true ∨ o < 0 ∨ 480 < o * bI + bI) ∧ ln = none) ∨ (∃ o' b : Nat, o = o' ∧ bI = b ∧ SZ b ∧ o' * b + b ≤ 480 ∧ badRow.contains bI = false ∧ ln = some (octs (laidN row o' b num))) := by
    rcases hbI with ⟨h, _⟩ | ⟨h, b, hb, rfl⟩
    · exact ⟨none, .inl ⟨.inl h, rfl⟩⟩
    · by_cases h1 : o < 0
      · exact ⟨none, .inl ⟨.inr (.inl h1), rfl⟩⟩
      · obtain ⟨o', rfl⟩ := Int.eq_ofNat_of_zero_le (show 0 ≤ o by omega)
        by_cases h2 : 480 < (o' : Int) * b + b
        · exact ⟨none, .inl ⟨.inr (.inr h2), rfl⟩⟩
        · exact ⟨_, .inr ⟨o', b, rfl, rfl, hb, by
            have e : (o' : Int) * b = ((o' * b : Nat) : Int) := by push_cast; rfl
            rw [e] at h2; omega, h, rfl⟩⟩
  refine wpAny_execs_cons (wpAny_Assign_Name (hs := by rfl) (Hd.use (Hd.d6 (P := OS ln) (P1 := IsI 1) (P2 := IsV (.str (tx (octs row)) tt)) (P3 := IsV (.int o to)) (P4 := IsV (.int bI tb)) (P5 := IsV (.int num tn)) (P6 := IsI 60) (Wb₇.up F₉.keep) hE rfl Ev.cInt (Ev.name (by walk_at "has")) (Ev.name (by walk_at "has")) (Ev.name (by walk_at "has")) (Ev.name (by walk_at "has")) Ev.cInt (fun v1 v2 v3 v4 v5 v6 h hs' e1 e2 e3 e4 e5 e6 => ?_)) K₉ fun lv s₁₀ hlv sl₁₀ => ?_))
  · obtain ⟨t1, rfl⟩ := e1
    obtain ⟨t6, rfl⟩ := e6
    rw [show v2 = .str (tx (octs row)) tt from e2, show v3 = .int o to from e3, show v4 = .int bI tb from e4, show v5 = .int num tn from e5]
    rcases hln with ⟨hc, rfl⟩ | ⟨o', b, rfl, rfl, hb, h480', hbad, rfl⟩
    · refine hd_set Wb₉ hh' (room hroom' (by decide)) hcz ?_
      rcases hbI with ⟨_, hb2⟩ | ⟨hb1, b, hb, rfl⟩
      · exact .inl hb2
      · have hsc : sizes.contains (b : Int) = true := by
          unfold SZ at hb
          rcases hb with rfl | rfl | rfl | rfl | rfl | rfl | rfl <;> rfl
        have hoc : Oct (codes (tx (octs row))) := by rw [hco]; exact octs_oct hbits
        by_cases h1 : o < 0
        · exact .inr (.inr (.inl ⟨hsc, hoc, h1⟩))
        · refine .inr (.inr (.inr ⟨b, rfl, hb, hoc, by omega, ho40, ?_⟩))
          obtain ⟨o', rfl⟩ := Int.eq_ofNat_of_zero_le (show 0 ≤ o by omega)
          rcases hc with hc | hc | hc
          · rw [hb1] at hc; cases hc
          · omega
          · have e : (o' : Int) * b = ((o' * b : Nat) : Int) := by push_cast; rfl
            rw [e] at hc
            have := need_60 (o := o') hb
            omega
    · have hset := law_set (v := num) (o := o') h8 hbits hb
      have hok := laid_ok (v := num) hb ⟨hbits, h8, h480⟩ h480'
      refine (ev_heard1 ((Wb₇.up F₉.keep).up hs') hh' (room hroom' (by decide)) hcz (by rw [hco]; exact octs_oct hbits) (by omega) ho40 hb ((need_60 hb).mpr h480') (by decide) (by rw [hco, hset]; exact octs_oct hok.1)).hd fun v h hv => ?_
      rw [hco, hset] at hv
      exact hv
  obtain ⟨b₁₀, F₁₀, kb₁₀, up₁₀⟩ := F₉.caught sl₁₀ hL₉ kb₇ kk₉
  have up' : s.heap.UpToSlots b₁₀ := Heap.UpToSlots.trans up₇ up₁₀
  have Wb₁₀ := W.up kb₁₀
  have hl₁₀ := hl.up kb₁₀
  refine F₁₀.store hE rfl fun s₁₁ F₁₁ _ => ?_
  have hcond : (badRow.contains bI || (decide (o < 0) || (decide (480 < o * bI + bI) || false))) = ln.isNone := by
    rcases hln with ⟨hc, rfl⟩ | ⟨o', b, rfl, rfl, hb, h480', hbad, rfl⟩
    · rcases hc with hc | hc | hc
      · rw [hc]; rfl
      · rw [decide_eq_true hc]; simp
      · rw [decide_eq_true hc]; simp
    · rw [hbad, decide_eq_false (by omega), decide_eq_false (by
        have e : (o' : Int) * b = ((o' * b : Nat) : Int) := by push_cast; rfl
        rw [e]; omega)]; rfl
  have hbI64 : -8 ≤ bI ∧ bI ≤ 64 := by
    rcases hbI with ⟨hb1, _⟩ | ⟨_, b, hb, rfl⟩
    · simp [badRow] at hb1
      omega
    · unfold SZ at hb; omega
  refine x_if0 (c := ln.isNone) F₁₁ (Ev.tb_eq (Ev.orT (Ev.orCons (hbadT (by walk_at "ev")) fun _ => Ev.orCons (Ev.ltT (a := o) (b := 0) (by walk_at "ev") (by walk_at "ev")) fun _ => Ev.orCons (Ev.gtT (a := o * bI + bI) (b := 480) (by walk_at "ev") (by walk_at "ev")) fun _ => Ev.orNil)) hcond) ?_ ?_
  · intro hc s₁₂ F₁₂ k₁₂
    have hn : ln = none := by cases ln with
      | none => rfl
      | some _ => cases hc
    have hlvn : lv = .none := by rw [hn] at hlv; exact hlv
    subst hlvn
    refine x_ret (P := IsV (.ref l)) (Ev.ite (c := true) (Ev.cmpT (Pl := IsV .none) (Pr := IsN) (Ev.name (by walk_at "has")) Ev.cNone fun a c h hs' ha hc => ?_) (fun _ => Ev.name (by walk_at "has")) (fun h => by cases h)) ?_
    · rw [show a = .none from ha, show c = .none from hc]
      exact Ev.isN
    · intro v s' k hb
      rw [show v = .ref l from hb.here]
      have F' := F₁₂.kp k
      exact hQ l row s' ⟨hbits, h8, h480⟩ (hl₁₀.up F'.keep) (.inl rfl) ⟨F'.same, kb₁₀.tr F'.keep, Heap.UpToSlots.trans up' (Heap.UpToSlots.of_keeps F'.keep)⟩
  · intro hc s₁₂ F₁₂ k₁₂
    rcases hln with ⟨_, hn⟩ | ⟨o', b, rfl, rfl, hb, h480', hbad, hn⟩
    · rw [hn] at hc; cases hc
    rw [hn] at hlv
    obtain ⟨tl, rfl⟩ := hlv
    have hok := laid_ok (v := num) hb ⟨hbits, h8, h480⟩ h480'
    refine x_assignLN F₁₂ hE rfl (ns := laidN row o' b num) (Ev.d4 (P1 := IsV (.ref l)) (P2 := IsV (.int o' to)) (P3 := IsV (.int b tb)) (P4 := IsV (.int num tn)) (Wb₁₀.up F₁₂.keep) hE rfl (Ev.name (by walk_at "has")) (Ev.name (by walk_at "has")) (Ev.name (by walk_at "has")) (Ev.name (by walk_at "has")) (fun v1 v2 v3 v4 h hs' e1 e2 e3 e4 => ?_)) ?_
    · rw [show v1 = .ref l from e1, show v2 = .int o' to from e2, show v3 = .int b tb from e3, show v4 = .int num tn from e4]
      have e : (o' : Int) * b = ((o' * b : Nat) : Int) := by push_cast; rfl
      exact (ev_laid ((Wb₁₀.up F₁₂.keep).up hs') hh' (room hroom' (by decide)) ((hl₁₀.up F₁₂.keep).up hs') (by omega) (by omega) (by rw [e]; omega) hb).mono fun _ _ hs'' x => x.base hs'
    intro al avs an s₁₃ hai haf F₁₃
    have hla : Lst s₁₃.heap al (laidN row o' b num) := F₁₃.lst (by walk_at "mem") hai
    refine x_ret (P := IsV (.ref al)) (Ev.ite (c := true) (Ev.cmpT (Pl := IsS (tx (octs (laidN row o' b num)))) (Pr := IsS (tx (octs (laidN row o' b num)))) (Ev.nameS (by walk_at "has")) (Ev.d1 (P1 := IsV (.ref al)) (Wb₁₀.up F₁₃.keep) hE rfl (Ev.name (by walk_at "has")) (fun v1 h hs' e1 => ?_)) fun a c h hs' ha hc => ?_) (fun _ => Ev.name (by walk_at "has")) (fun h => by cases h)) ?_
    · rw [show v1 = .ref al from e1]
      exact ev_text ((Wb₁₀.up F₁₃.keep).up hs') hh' (room0 hroom') (hla.up hs') (by have := hok.2.2; omega) hok.2.1 hok.1
    · have := Ev.eqS (prog := prg) (w := w) (A := A.deeper env) ha hc
      rwa [beq_self_eq_true] at this
    · intro v s' k hb'
      rw [show v = .ref al from hb'.here]
      have F' := F₁₃.kp k
      exact hQ al _ s' hok (hla.up k.sub) (.inr (Sub.none (kb₁₀.tr F₁₂.keep) haf)) ⟨F'.same, kb₁₀.tr F'.keep, Heap.UpToSlots.trans up' (Heap.UpToSlots.of_keeps F'.keep)⟩

-- L4
section
variable {w : World} {A : Around} {base b b' : Heap} {outer : List Env} {env : Env} {names : List (Str × NameKind)} {vars cvars : List (Str × Value)} {news : List (Addr × Obj)} {s₀ s s' : Shared}
theorem frs_one (hF : FrOk env names) : frs [env] = [env.locals] := by unfold frs; rw [List.filterMap_cons, hF.frame]; rfl
theorem Fm.after (F : Fm b env vars cvars news s₀ s) (sl : Sl (hideAll s.heap [env.locals]) s s') : Fm b env vars cvars news s₀ s' := by
  have up : s.heap.UpToSlots s'.heap := sl.up
  have get2 : ∀ {a o}, s.heap.get? a = some o → a ≠ env.locals → s'.heap.get? a = some o := fun h hn => sl.base _ _ (hideAll_get _ h (by simpa using hn))
  refine ⟨?_, fun a o e => get2 (F.keep _ _ e) (by rintro rfl; rw [F.locNew] at e; cases e), ?_, F.locNew, fun p hp => ?_, fun n c hc => ?_, F.apart, fun p hp => ?_⟩
  · obtain ⟨h, t, e⟩ := F.same
    obtain ⟨h', t', e'⟩ := sl.like
    exact ⟨h', t', by rw [e', e]⟩
  · obtain ⟨m, hm, he⟩ := F.ns
    exact ⟨m, up.ns hm, he⟩
  · obtain ⟨c, hc, o, ho, hd⟩ := F.cel p hp
    exact ⟨c, hc, o, get2 ho (F.celOk _ _ hc).2.2, hd⟩
  · obtain ⟨⟨v, o, ho, hd⟩, h1, h2⟩ := F.celOk n c hc
    exact ⟨⟨v, o, get2 ho h2, hd⟩, h1, h2⟩
  · obtain ⟨ho, h1, h2, h3⟩ := F.nw p hp
    exact ⟨get2 ho h2, h1, h2, h3⟩
theorem Fm.addNew {l : Addr} {o : Obj} {vs : Array Value} {n : Nat} (F : Fm b env vars cvars news s₀ s) (ho : s.heap.get? l = some o) (hd : o.data = .seq vs n) (hb : b.get? l = none) : Fm b env vars cvars ((l, o) :: news) s₀ s := by
  refine { F with nw := ?_ }
  intro p hp
  rcases List.mem_cons.mp hp with rfl | hp
  · refine ⟨ho, hb, fun e => ?_, fun n c hc e => ?_⟩
    · obtain ⟨m, ⟨oL, es, ep, hL, hdL, _⟩, _⟩ := F.ns
      rw [← show l = env.locals from e, ho] at hL; cases hL
      rw [hd] at hdL; cases hdL
    · obtain ⟨⟨v, oc, hoc, hdc⟩, _⟩ := F.celOk n c hc
      rw [← show l = c from e, ho] at hoc; cases hoc
      rw [hd] at hdc; cases hdc
  · exact F.nw p hp
theorem Lst.obj {h : Heap} {l : Addr} {ns : List Int} (x : Lst h l ns) : ∃ o, h.get? l = some o ∧ ObjL o ns ∧ ∃ vs n, o.data = .seq vs n := by
  obtain ⟨vs, ⟨o, ho, hc, n, hd⟩, hi⟩ := x
  exact ⟨o, ho, ⟨hc, n, vs, hd, hi⟩, _, _, hd⟩
theorem Fm.newHidden {mu : List (Addr × Obj)} {l : Addr} (F : Fm b env vars cvars news s₀ s) (hcn : CellsOne env) (hmu : ∀ p ∈ mu, p ∈ news) (hl : s.heap.get? l = none) : l ∉ hidden env mu := by
  intro h
  rcases List.mem_cons.mp h with rfl | h
  · obtain ⟨m, ⟨oL, _, _, hL, _⟩, _⟩ := F.ns
    rw [hl] at hL; cases hL
  · rcases List.mem_append.mp h with h | h
    · obtain ⟨p, hp, rfl⟩ := List.mem_map.mp h
      obtain ⟨⟨v, oc, hoc, _⟩, _⟩ := F.celOk p.1 p.2 (hcn _ _ hp)
      rw [hl] at hoc; cases hoc
    · obtain ⟨p, hp, rfl⟩ := List.mem_map.mp h
      rw [(F.nw p (hmu p hp)).1] at hl; cases hl
end

theorem bitsOf_len : ∀ (os : List Int) , (bitsOf os).length = 8 * os.length := fun os => by
  unfold bitsOf
  have : ∀ n, ((List.range n).flatMap fun i => (List.range 8).map fun k => bitAt (os.getD i 0) k).length = 8 * n := fun n => by
    induction n with
    | zero => rfl
    | succ n ih => rw [List.range_succ (n := n), List.flatMap_append, List.length_append, ih]; simp; omega
  exact this _
theorem bitsOf_ok {os : List Int} (h : os.length ≤ 6) : RowOk (bitsOf os) := by
  refine ⟨fun x hx => ?_, ?_, ?_⟩
  · unfold bitsOf at hx
    obtain ⟨i, _, hx⟩ := List.mem_flatMap.mp hx
    obtain ⟨k, _, rfl⟩ := List.mem_map.mp hx
    exact bitAt01 _ _
  · rw [bitsOf_len]; omega
  · rw [bitsOf_len]; omega
theorem codes_append (x y : Str) : codes (x ++ y) = codes x ++ codes y := by
  show ((x.cps ++ y.cps).toList.map Int.ofNat) = _
  rw [Array.toList_append, List.map_append]; rfl
theorem wide_of {x : Str} {c : Int} (h : 255 < c) : Wide (x ++ tx [c]) := by
  refine ⟨(codes x).length, c, ?_, h⟩
  have : codes (tx [c]) = [c] := by
    show [Int.ofNat c.toNat] = [c]
    rw [show Int.ofNat c.toNat = c from Int.toNat_of_nonneg (by omega)]
  rw [codes_append, this]
  simp
theorem sizes_at {i : Nat} {k : Int} (h : sizes[i]? = some k) : ∃ b : Nat, SZ b ∧ k = b := by
  have hk : k ∈ sizes := List.mem_of_getElem? h
  simp only [sizes, List.mem_cons, List.not_mem_nil, or_false] at hk
  rcases hk with rfl | rfl | rfl | rfl | rfl | rfl | rfl
  · exact ⟨1, .inl rfl, rfl⟩
  · exact ⟨2, .inr (.inl rfl), rfl⟩
  · exact ⟨4, .inr (.inr (.inl rfl)), rfl⟩
  · exact ⟨8, .inr (.inr (.inr (.inl rfl))), rfl⟩
  · exact ⟨16, .inr (.inr (.inr (.inr (.inl rfl)))), rfl⟩
  · exact ⟨32, .inr (.inr (.inr (.inr (.inr (.inl rfl))))), rfl⟩
  · exact ⟨64, .inr (.inr (.inr (.inr (.inr (.inr rfl))))), rfl⟩
theorem ev_sizes {prog : Program} {w : World} {A : Around} {h₀ : Heap} {env : Env} {pos p1 p2 p3 p4 p5 p6 p7 : Pos} {k1 k2 k3 k4 k5 k6 k7 : Nat} :
    Ev prog w A (eval (.List [.Constant (.int 1) k1 p1, .Constant (.int 2) k2 p2, .Constant (.int 4) k3 p3, .Constant (.int 8) k4 p4, .Constant (.int 16) k5 p5, .Constant (.int 32) k6 p6, .Constant (.int 64) k7 p7] pos) env) h₀ (NewL h₀ sizes) := by
  unfold sizes
  with_reducible refine Ev.dispL ?_ ?_
  · with_reducible exact Ev.argsK (Ev.argsK (Ev.argsK (Ev.argsK (Ev.argsK (Ev.argsK (Ev.argsK Ev.argsI0))))))
  · decide

def lastBody : List Stmt → List Stmt
  | [] => []
  | [.FunctionDef _ _ body _ _ _ _ _ _ _] => body
  | _ :: r => lastBody r
/-- the body of the law -/
def lawBody : List Stmt := lastBody PySem.Challenge.pw_nz0176_01.main.body
def lawNames : List (Str × NameKind) := [(PySem.Str.ofString "script", .cell), (PySem.Str.ofString "row", .local), (PySem.Str.ofString "turn", .local), (PySem.Str.ofString "text", .local), (PySem.Str.ofString "bits", .local), (PySem.Str.ofString "offset", .local), (PySem.Str.ofString "wide", .local),
  (PySem.Str.ofString "_law_bits_of", .globalImplicit), (PySem.Str.ofString "range", .globalImplicit), (PySem.Str.ofString "_law_pick", .globalImplicit), (PySem.Str.ofString "_law_deed", .globalImplicit), (PySem.Str.ofString "_law_text", .globalImplicit), (PySem.Str.ofString "min", .globalImplicit), (PySem.Str.ofString "len", .globalImplicit),
  (PySem.Str.ofString "vec_get", .globalImplicit), (PySem.Str.ofString "_law_number", .globalImplicit), (PySem.Str.ofString "chr", .globalImplicit), (PySem.Str.ofString "_law_heard", .globalImplicit)]

-- L5
section
variable {w : World} {A : Around} {h₀ base : Heap} {outer : List Env} {env : Env} {names : List (Str × NameKind)} {l : Addr} {ns : List Int} {s : Shared} {E : Value → Shared → Prop}
theorem Ev.pk {e : Expr} {fp sp pos : Pos} {p : Int} (W : WW w h₀) (hE : EnvOk env names) (hn : names.lookup (PySem.Str.ofString "_law_pick") = some .globalImplicit) (hroom : A.depth < recursionLimit) (hs : Has env h₀ (PySem.Str.ofString "script") (.ref l)) (hl : Lst h₀ l ns) (hz : ns.length ≤ 63) (h0 : 0 ≤ p) (h1 : p < 2 ^ 62)
    (he : Ev prg w A (eval e env) h₀ (IsI p)) (he2 : starEach [e] env = (false, eval e env) :: starEach [] env := by rfl) (hp : (backTo pos (starEach [e] env)).any (·.1) = false := by rfl) :
    Ev prg w A (eval (.Call (.Name (PySem.Str.ofString "_law_pick") fp) [.Name (PySem.Str.ofString "script") sp, e] [] pos) env) h₀ (IsI (pick ns p)) := by
  refine Ev.d2 (P1 := IsV (.ref l)) (P2 := IsI p) (a := 121) W hE hn (Ev.name hs) he (fun v1 v2 h hs' e1 e2 => ?_) (by rfl) (by rfl) (by decide) (by rfl) he2 hp
  obtain ⟨t, rfl⟩ := e2
  rw [show v1 = .ref l from e1]
  exact ev_pick (W.up hs') hroom (hl.up hs') (by omega) h0 h1
theorem isNoneH {e : Expr} {p pos : Pos} {k : Nat} {Q : Value → Shared → Prop} (h : Hd w A base outer (eval e env) s.heap (fun v => v = .none)) (K : Below A base outer s.heap) (kk : ∀ s', Sl base s s' → Q (.bool true) s') :
    wpAny (model prg w) A (eval (.Compare e [.Is] [.Constant .none k p] pos) env) Q E s :=
  wpAny_Compare1 (hm := by with_unfolding_all rfl) (h.use K fun v s' hv sl => wpAny_Constant_none (by
    subst hv
    refine Ev.use (P := IsB (Value.none == Value.none)) Ev.isN fun r s'' k hr => ?_
    rw [show r = .bool (Value.none == Value.none) from hr.here]
    exact kk s'' (sl.tr (Sl.of k sl.base))))
end

set_option maxHeartbeats 4000000 in
theorem law_walk {w : World} {A : Around} {s₀ s : Shared} {env : Env} {E : Value → Shared → Prop} {Q : Flow → Shared → Prop} {l : Addr} {ns : List Int} (W : WW w s₀.heap) (hh : A.handled = none) (hroom : A.depth + 9 < recursionLimit) (K : Below A s₀.heap [] s₀.heap)
    (hE : EnvOk env lawNames) (hF : FrOk env lawNames) (F : Fm s₀.heap env [] [(PySem.Str.ofString "script", .ref l)] [] s₀ s) (hl : Lst s₀.heap l ns) (hz : ns.length ≤ 63)
    (hQ : ∀ s', Like s₀ s' → Sub s₀.heap s'.heap → Q (.ret (.bool true)) s') : wpAny (model prg w) (A.deeper env) (execs lawBody env) Q E s := by
  have hh' : (A.deeper env).handled = none := hh
  have hroom' : (A.deeper env).depth + 8 < recursionLimit := by show A.depth + 1 + 8 < recursionLimit; omega
  have hcn : CellsOne env := by
    intro n c hm
    rw [hF.cells, show cellsFrom (env.locals + 1) lawNames [] = [(PySem.Str.ofString "script", env.locals + 1)] from rfl] at hm ⊢
    have := List.mem_singleton.mp hm
    cases this
    simp
  have hsl : ∀ n : Nat, n ≤ 20000 → n ≤ sizeLine := fun n h => Nat.le_trans h (by decide)
  have W₀ := W.up F.keep
  have hl₀ := hl.up F.keep
  have hCC : HasC env s.heap (PySem.Str.ofString "script") (.ref l) := F.hasCC hE (by walk_at "mem") rfl
  have m0 : 0 ≤ (pick ns 0).fmod 7 := Int.fmod_nonneg_of_pos _ (by decide)
  have m1 : (pick ns 0).fmod 7 < 7 := Int.fmod_lt_of_pos _ (by decide)
  obtain ⟨n, hn⟩ := Int.eq_ofNat_of_zero_le m0
  obtain ⟨os, hos⟩ : ∃ os, os = (List.range n).map fun i : Nat => (pick ns (2 + (0 + (i : Int)))).fmod 256 := ⟨_, rfl⟩
  have hol : os.length = n := by rw [hos]; simp
  have hok₀ : RowOk (bitsOf os) := bitsOf_ok (by omega)
  unfold lawBody
  refine x_assignLN F hE rfl (ns := bitsOf os) (Ev.d1 (P1 := LV os) W₀ hE rfl (Ev.lv (Ev.new_eq (h₁ := s.heap) (Ev.ints (f := fun i : Nat => (pick ns (2 + (0 + (i : Int)))).fmod 256) (n := n) (Ev.comp (P := fun i v => ∃ t, v = Value.int (0 + (i : Int)) t) hE rfl (by decide) (.inl (by decide)) (by decide) ?_ (Ev.itrR hh' (Ev.rangeN1 W₀ hE rfl (a := (pick ns 0).fmod 7) (Ev.mod (Ev.pk W₀ hE rfl (room0 hroom') (by walk_at "has") hl₀ hz (by decide) (by decide) Ev.cInt) Ev.cInt (by decide))) (by omega) (by omega) (by omega)) (hsl _ (by omega)) ?_)) hos.symm)) (fun v1 h hs' e1 => ?_)) ?_
  · intro y hy hf
    have : y.1 = PySem.Str.ofString "script" := by
      revert y
      decide
    rw [this]
    obtain ⟨c, hc, _⟩ := hCC
    rw [hc]; rfl
  · intro i v cenv h hs' hi hP C hx _
    obtain ⟨t', rfl⟩ := hP
    have hscr := (C.free (PySem.Str.ofString "script") (.ref l) h Sub.rfl' (by decide) (hCC.up hs')).has C.ok.kind (by decide)
    exact Ev.mod (Ev.pk (W₀.up hs') C.ok rfl (room0 hroom') hscr (hl₀.up hs') hz (by omega) (by omega) (by walk_at "ev")) Ev.cInt (by decide)
  · obtain ⟨l1, rfl, hl1⟩ := e1
    exact (ev_bitsOf (W₀.up hs') hh' (room0 hroom') hl1 (by omega)).mono fun _ _ hs'' x => x.base hs'
  intro rl rvs rn s₁ hri hrf F₁
  have W₁ := W.up F₁.keep
  have hl₁ := hl.up F₁.keep
  have m2 : 0 ≤ (pick ns 1).fmod 8 := Int.fmod_nonneg_of_pos _ (by decide)
  have m3 : (pick ns 1).fmod 8 < 8 := Int.fmod_lt_of_pos _ (by decide)
  obtain ⟨n1, hn1⟩ := Int.eq_ofNat_of_zero_le (show 0 ≤ 1 + (pick ns 1).fmod 8 by omega)
  refine x_forP (n := n1) (P := fun i v => ∃ t, v = Value.int (0 + (i : Int)) t) (σ := Addr × Obj × List Int) (fun i z => ObjL z.2.1 z.2.2 ∧ RowOk z.2.2) (fun i z => [(PySem.Str.ofString "row", .ref z.1)]) (fun i z => [(z.1, z.2.1)]) [(rl, lobj rvs rn)] [] (fun _ _ => False) (fun _ _ h => h.elim) F₁ hE rfl hcn
    (Ev.itrR hh' (Ev.rangeN1 W₁ hE rfl (a := 1 + (pick ns 1).fmod 8) (Ev.add Ev.cInt (Ev.mod (Ev.pk W₁ hE rfl (room0 hroom') (by walk_at "has") hl₁ hz (by decide) (by decide) Ev.cInt) Ev.cInt (by decide)))) (by omega) (by omega) (by omega)) ?_ ?_ ?_ ?_ ?_
  · intro p hp
    simp only [List.mem_singleton] at hp
    subst hp
    walk_at "mem"
  · intro p hp; cases hp
  · refine ⟨(rl, lobj rvs rn, bitsOf os), ⟨ObjL.lobj hri, hok₀⟩, ?_, fun p hp => hp⟩
    intro p hp
    simp only [List.mem_cons, List.not_mem_nil, or_false] at hp
    subst hp
    walk_at "mem"
  · intro b' i z v s' io hbb hkeep hio hpI hi hK hP F'
    obtain ⟨t', rfl⟩ := hP
    obtain ⟨hob, hrow⟩ := hK
    have W' := W.up (hbb.tr F'.keep)
    have hl' := hl.up (hbb.tr F'.keep)
    have hscr : Has env s'.heap (PySem.Str.ofString "script") (.ref l) := by walk_at "has"
    refine wpAny_execs_cons (wpAny_Assign_Name (hs := by rfl) (wpAny_Call_ofName (wpAny_Name ((Has.glob W' hE rfl (show nsIn (KK w) mainGlobals (PySem.Str.ofString "_law_deed") = some (some (.ref 162)) by rfl)) _ _ _ s' _ Sub.rfl' (callWith_K W'.K (by rfl) ((Ev.args (P := IsV (.ref z.1)) (Ev.name (by walk_at "has")) (Ev.args (P := IsI (pick ns (3 + 2 * (0 + (i : Int))))) (Ev.pk W' hE rfl (room0 hroom') hscr hl' hz (by omega) (by omega) (by walk_at "ev")) (Ev.args (P := IsI (pick ns (4 + 2 * (0 + (i : Int))))) (Ev.pk W' hE rfl (room0 hroom') hscr hl' hz (by omega) (by omega) (by walk_at "ev")) Ev.args0))).use fun vs1 s₂ k₂ hb => ?_) (by rfl) (by rfl))))))
    obtain ⟨v1, _, rfl, e1, v2, _, rfl, ⟨t2, rfl⟩, v3, _, rfl, ⟨t3, rfl⟩, rfl⟩ := hb.here
    rw [show v1 = .ref z.1 from e1]
    have F₂ := F'.kp k₂
    obtain ⟨K₂, kk₂, _⟩ := below_re (base := s₀.heap) K hE hF F₂ hbb (Heap.UpToSlots.of_keeps hbb)
    rw [frs_one hF] at K₂ kk₂
    have hz1 := F₂.nw (z.1, z.2.1) (by walk_at "mem")
    have hio2 := F₂.nw io (by walk_at "mem")
    have hlr : Lst (hideAll s₂.heap [env.locals]) z.1 z.2.2 := Lst.of_obj (hideAll_get _ hz1.1 (by simpa using hz1.2.2.1)) hob
    have kbase : Sub b' (hideAll s₂.heap [env.locals]) := fun a o e => hideAll_get _ (F₂.keep _ _ e) (by simp only [List.mem_singleton]; rintro rfl; rw [F₂.locNew] at e; cases e)
    refine ⟨(W'.up k₂.sub).K, deed_call (W.up kk₂) K₂ hh' (room hroom' (by decide)) hlr hrow fun l' row' s₃ hrow' hl₃ hnew sl => ?_⟩
    have F₃ := F₂.after sl
    obtain ⟨o', ho', hobj', vs', n', hd'⟩ := hl₃.obj
    have hl'io : l' ≠ io.1 := by
      rcases hnew with rfl | hnew
      · exact hpI _ List.mem_cons_self
      · rintro rfl
        have := hideAll_get [env.locals] hio2.1 (by simpa using hio2.2.2.1)
        rw [hnew] at this; cases this
    have hb' : b'.get? l' = none := by
      rcases hnew with rfl | hnew
      · exact hz1.2.1
      · exact Sub.none kbase hnew
    have F₄ := F₃.addNew ho' hd' hb'
    refine F₄.store hE rfl fun s₄ F₅ _ => ?_
    refine x_if0 F₅ (Ev.tb_eq (Ev.cmpT (c := (Value.ref l' == Value.none)) (Pl := IsV (.ref l')) (Pr := IsN) (Ev.name (by walk_at "has")) Ev.cNone fun a c h hs' ha hc => ?_) (show (Value.ref l' == Value.none) = false from rfl)) ?_ ?_
    · rw [show a = .ref l' from ha, show c = .none from hc]
      exact Ev.isN
    · intro hc; cases hc
    · intro hc s₅ F₆ k₆
      refine x_nil ⟨(l', o', row'), ⟨hobj', hrow'⟩, F₆.sub ?_ (fun _ h => h) ?_, ?_⟩
      · intro p hp
        simp only [List.mem_cons, List.not_mem_nil, or_false] at hp
        subst hp
        walk_at "mem"
      · intro p hp
        simp only [List.mem_cons, List.not_mem_nil, or_false] at hp
        rcases hp with rfl | rfl <;> walk_at "mem"
      · intro p hp
        simp only [List.mem_cons, List.not_mem_nil, or_false] at hp
        subst hp
        exact hl'io
  rintro ⟨zl, zo, row⟩ s₂ ⟨hob, hbits, h8, h480⟩ F₂'
  have F₂ : Fm s₀.heap env [(PySem.Str.ofString "row", .ref zl)] [(PySem.Str.ofString "script", .ref l)] [(zl, zo)] s₀ s₂ := F₂'
  clear F₂' F₁ hok₀ W₁ hl₁
  dsimp only at hob hbits h8 h480
  have hoc := octs_oct hbits
  have hco : codes (tx (octs row)) = octs row := tx_codes hoc
  have hcz : (tx (octs row)).cps.size ≤ 60 := by rw [tx_size, octs_len]; omega
  have hlr₂ : Lst s₂.heap zl row := F₂.lstO (by walk_at "mem") hob
  refine x_assignS F₂ hE rfl (i := tx (octs row)) (Ev.d1 (P1 := IsV (.ref zl)) (W.up F₂.keep) hE rfl (Ev.name (by walk_at "has")) (fun v1 h hs' e1 => ?_)) ?_
  · rw [show v1 = .ref zl from e1]
    exact ev_text ((W.up F₂.keep).up hs') hh' (room0 hroom') (hlr₂.up hs') (by omega) h8 hbits
  intro tt s₃ F₃
  with_reducible refine x_for (n := 7) (P := fun i v => ∃ k t, sizes[i]? = some k ∧ v = Value.int k t) (σ := Unit) (fun _ _ => True) (fun i _ => [(PySem.Str.ofString "row", .ref zl), (PySem.Str.ofString "text", .str (tx (octs row)) tt)]) (fun _ _ => []) [] [(zl, zo)] F₃ hE ?hl hcn ?hit ?hmu ?hkp ?init ?turn ?done ?hs
  case hl => rfl
  case hs => intro _; rfl
  case hit =>
    with_reducible refine Ev.mono ev_sizes ?_
    rintro v h' hs' ⟨l2, vs2, n2, rfl, hnone, ho, hi⟩
    exact Itr.ints hh' (Lst.mk' ho hi) (F₃.newHidden hcn (mu := []) (fun _ h => nomatch h) hnone)
  case hmu => intro p hp; cases hp
  case hkp =>
    intro p hp
    simp only [List.mem_singleton] at hp
    subst hp
    exact ⟨by walk_at "mem", by simp⟩
  case init =>
    refine ⟨(), trivial, ?_, fun p hp => nomatch hp⟩
    intro p hp
    simp only [List.mem_cons, List.not_mem_nil, or_false] at hp
    rcases hp with rfl | rfl <;> walk_at "mem"
  case turn =>
    intro b' i zz v s' io hbb hkeep hio hi hK hP F'
    obtain ⟨k, t', hk, rfl⟩ := hP
    obtain ⟨b, hb, rfl⟩ := sizes_at hk
    have hrb : b'.get? zl = some zo := hkeep _ _ (F₃.get (by walk_at "mem")) (F₃.notHidden hcn (o := zo) (by walk_at "mem") (by simp))
    have hW : WW w b' := W.up hbb
    have hb1 := hb.one
    have hb64 := hb.le
    have hlr' : Lst s'.heap zl row := Lst.of_obj (F'.keep _ _ hrb) hob
    have q0 : 0 ≤ (min (row.length : Int) 64).fdiv b := by rw [Int.fdiv_eq_ediv_of_nonneg _ (by omega)]; exact Int.ediv_nonneg (by omega) (by omega)
    have q1 : (min (row.length : Int) 64).fdiv b ≤ 64 := by
      rw [Int.fdiv_eq_ediv_of_nonneg _ (by omega)]
      exact Int.le_trans (Int.ediv_le_self _ (by omega)) (by omega)
    refine x_for (n := ((min (row.length : Int) 64).fdiv b + 2 - (-1)).toNat) (P := fun j v => ∃ t, v = Value.int (-1 + (j : Int)) t) (σ := Unit) (fun _ _ => True) (fun _ _ => [(PySem.Str.ofString "row", .ref zl), (PySem.Str.ofString "text", .str (tx (octs row)) tt), (PySem.Str.ofString "bits", .int b t')]) (fun _ _ => []) [] [io] F' hE rfl hcn
      (Ev.itrR hh' (Ev.rangeN2 (a := -1) (b := (min (row.length : Int) 64).fdiv b + 2) (hW.up F'.keep) hE rfl (by walk_at "ev") (Ev.add (Ev.fdiv (a := min (row.length : Int) 64) (b := b) (Ev.minI hh' (hW.up F'.keep) hE rfl (Ev.lenL (hW.up F'.keep) hE rfl (Ev.nameL (by walk_at "has") hlr') (by omega)) Ev.cInt) (by walk_at "ev") (by omega) (by omega)) Ev.cInt)) (by omega) (by omega) rfl) ?_ ?_ ?_ ?_ ?_
    · intro p hp; cases hp
    · intro p hp
      simp only [List.mem_singleton] at hp
      subst hp
      exact ⟨List.mem_cons_self, by simp⟩
    · refine ⟨(), trivial, ?_, fun p hp => nomatch hp⟩
      intro p hp
      simp only [List.mem_cons, List.not_mem_nil, or_false] at hp
      rcases hp with rfl | rfl | rfl <;> walk_at "mem"
    · intro b'' j zz2 v2 s'' io2 hbb2 hkeep2 hio2 hj hK2 hP2 F''
      obtain ⟨t2, rfl⟩ := hP2
      have W'' := (hW.up hbb2).up F''.keep
      have hlr'' : Lst s''.heap zl row := Lst.of_obj (F''.keep _ _ (hbb2 _ _ hrb)) hob
      have hoff : -1 + (j : Int) < 2 ^ 40 := by omega
      refine x_if0 F'' (Ev.tb_eq (Ev.cmpT (c := (number row (-1 + (j : Int)) b != number row (-1 + (j : Int)) b)) (Pl := IsI (number row (-1 + (j : Int)) b)) (Pr := IsI (number row (-1 + (j : Int)) b))
        (Ev.d3 (P1 := IsV (.str (tx (octs row)) tt)) (P2 := IsV (.int (-1 + (j : Int)) t2)) (P3 := IsV (.int b t')) W'' hE rfl (Ev.name (by walk_at "has")) (Ev.name (by walk_at "has")) (Ev.name (by walk_at "has")) (fun v1 v2 v3 h hs' e1 e2 e3 => ?_))
        (Ev.d3 (P1 := IsV (.ref zl)) (P2 := IsV (.int (-1 + (j : Int)) t2)) (P3 := IsV (.int b t')) W'' hE rfl (Ev.name (by walk_at "has")) (Ev.name (by walk_at "has")) (Ev.name (by walk_at "has")) (fun v1 v2 v3 h hs' e1 e2 e3 => ?_))
        fun a c h hs' ha hc => Ev.neI ha hc) (bne_self_eq_false _)) ?_ ?_
      · rw [show v1 = .str (tx (octs row)) tt from e1, show v2 = .int (-1 + (j : Int)) t2 from e2, show v3 = .int b t' from e3]
        have := ev_get (W''.up hs') hh' (room hroom' (by decide)) (x := tx (octs row)) (t := tt) (u := t2) (z := t') (by omega) (by rw [hco]; exact hoc) hoff hb
        rwa [hco, law_get h8 hbits hb] at this
      · rw [show v1 = .ref zl from e1, show v2 = .int (-1 + (j : Int)) t2 from e2, show v3 = .int b t' from e3]
        exact ev_number (W''.up hs') hh' (room hroom' (by decide)) (hlr''.up hs') (by omega) hoff hb
      · intro hc; cases hc
      · intro hc s₄ F₄ k₄
        refine x_nil ⟨(), trivial, F₄.sub ?_ (fun _ h => h) (fun _ h => h), fun p hp => nomatch hp⟩
        intro p hp
        simp only [List.mem_cons, List.not_mem_nil, or_false] at hp
        rcases hp with rfl | rfl | rfl <;> walk_at "mem"
    · intro zz2 s'' hK2 F''
      refine x_nil ⟨(), trivial, F''.sub ?_ (fun _ h => h) (fun _ h => h), fun p hp => nomatch hp⟩
      intro p hp
      simp only [List.mem_cons, List.not_mem_nil, or_false] at hp
      rcases hp with rfl | rfl <;> walk_at "mem"
  case done =>
    intro zz s₄ hK F₄
    have W₄ := W.up F₄.keep
    have m4 : 0 ≤ (pick ns 2).fmod 1000 := Int.fmod_nonneg_of_pos _ (by decide)
    have m5 : (pick ns 2).fmod 1000 < 1000 := Int.fmod_lt_of_pos _ (by decide)
    have hsle := Txt.slice_le (tx (octs row)) none (some 1)
    have hle : (tx (octs row)).length ≤ 60 := hcz
    have hc1 : (tx [256 + (pick ns 2).fmod 1000]).length = 1 := rfl
    refine x_assignS F₄ hE rfl (i := Txt.slice (tx (octs row)) none (some 1) ++ tx [256 + (pick ns 2).fmod 1000]) (Ev.addS (Ev.cutS (Ev.nameS (by walk_at "has")) Ev.cInt (hsl _ (by omega))) (Ev.chr W₄ hE rfl (Ev.add Ev.cInt (Ev.mod (Ev.pk W₄ hE rfl (room0 hroom') (by walk_at "has") (hl.up F₄.keep) hz (by decide) (by decide) Ev.cInt) Ev.cInt (by decide))) (by omega) (by omega)) (hsl _ (by omega))) ?_
    intro tw s₅ F₅
    have hwide := wide_of (x := Txt.slice (tx (octs row)) none (some 1)) (c := 256 + (pick ns 2).fmod 1000) (by omega)
    have hwz : (Txt.slice (tx (octs row)) none (some 1) ++ tx [256 + (pick ns 2).fmod 1000]).cps.size ≤ 10000 := by
      show ((Txt.slice (tx (octs row)) none (some 1)).cps ++ (tx [256 + (pick ns 2).fmod 1000]).cps).size ≤ 10000
      rw [Array.size_append]
      have h1 : (Txt.slice (tx (octs row)) none (some 1)).cps.size ≤ 60 := Nat.le_trans hsle hle
      have h2 : (tx [256 + (pick ns 2).fmod 1000]).cps.size = 1 := rfl
      omega
    generalize Txt.slice (tx (octs row)) none (some 1) ++ tx [256 + (pick ns 2).fmod 1000] = wt at *
    obtain ⟨K₅, kk₅, _⟩ := below_re (base := s₀.heap) K hE hF F₅ Sub.rfl' (Heap.UpToSlots.refl _)
    rw [frs_one hF] at K₅ kk₅
    refine wpAny_execs_cons (wpAny_Return_some (BoolOp_and ?_))
    refine isNoneH (Hd.d6 (P1 := IsI 0) (P2 := IsV (.str wt tw)) (P3 := IsI 0) (P4 := IsI 8) (P5 := IsI 0) (P6 := IsI 9) (W.up F₅.keep) hE rfl Ev.cInt (Ev.name (by walk_at "has")) Ev.cInt Ev.cInt Ev.cInt Ev.cInt (fun v1 v2 v3 v4 v5 v6 h hs' e1 e2 e3 e4 e5 e6 => ?_)) K₅ fun s₆ sl => ?_
    · obtain ⟨t1, rfl⟩ := e1
      obtain ⟨t3, rfl⟩ := e3
      obtain ⟨t4, rfl⟩ := e4
      obtain ⟨t5, rfl⟩ := e5
      obtain ⟨t6, rfl⟩ := e6
      rw [show v2 = .str wt tw from e2]
      exact hd_get (W.up kk₅) hh' (room hroom' (by decide)) hwz (.inr ⟨rfl, hwide⟩)
    refine wpAny_truthy_bool ?_
    have F₆ := F₅.after sl
    obtain ⟨K₆, kk₆, _⟩ := below_re (base := s₀.heap) K hE hF F₆ Sub.rfl' (Heap.UpToSlots.refl _)
    rw [frs_one hF] at K₆ kk₆
    refine (BoolOp_one ?_)
    refine isNoneH (Hd.d6 (P1 := IsI 1) (P2 := IsV (.str wt tw)) (P3 := IsI 0) (P4 := IsI 1) (P5 := IsI 1) (P6 := IsI 9) (W.up F₆.keep) hE rfl Ev.cInt (Ev.name (by walk_at "has")) Ev.cInt Ev.cInt Ev.cInt Ev.cInt (fun v1 v2 v3 v4 v5 v6 h hs' e1 e2 e3 e4 e5 e6 => ?_)) K₆ fun s₇ sl₂ => ?_
    · obtain ⟨t1, rfl⟩ := e1
      obtain ⟨t3, rfl⟩ := e3
      obtain ⟨t4, rfl⟩ := e4
      obtain ⟨t5, rfl⟩ := e5
      obtain ⟨t6, rfl⟩ := e6
      rw [show v2 = .str wt tw from e2]
      exact hd_set (W.up kk₆) hh' (room hroom' (by decide)) hwz (.inr (.inl ⟨rfl, hwide⟩))
    have F₇ := F₆.after sl₂
    exact hQ s₇ F₇.same F₇.keep

-- L6
theorem fm_of {env : Env} {s₁ : Shared} {h₁ : Heap} {tk₁ : Nat} {o : Obj} {l : Addr} {m : Str → Option Value} (hloc : env.locals = s₁.heap.objs.size) (hcells : env.cells = [(PySem.Str.ofString "script", s₁.heap.objs.size + 1)])
    (F : Fr s₁.heap s₁.heap.objs.size h₁ m) (N : News s₁.heap s₁.heap.objs.size h₁ [(s₁.heap.objs.size + 1, o)]) (hd : o.data = .cell (some (.ref l))) :
    Fm s₁.heap env [] [(PySem.Str.ofString "script", .ref l)] [] s₁ { s₁ with heap := h₁, toks := tk₁ } := by
  have hone : ∀ n c, env.cells.lookup n = some c → n = PySem.Str.ofString "script" ∧ c = s₁.heap.objs.size + 1 := fun n c h => by
    rw [hcells] at h
    have := mem_of_lookup h
    rw [List.mem_singleton] at this
    cases this
    exact ⟨rfl, rfl⟩
  have hN := N _ List.mem_cons_self
  refine ⟨⟨h₁, tk₁, rfl⟩, F.keep, ⟨m, by rw [hloc]; exact F.ns, fun p hp => nomatch hp⟩, by rw [hloc]; exact get_size, fun p hp => ?_, fun n c h => ?_, fun n n' c h h' => ?_, fun p hp => nomatch hp⟩
  · obtain rfl := List.mem_singleton.mp hp
    refine ⟨s₁.heap.objs.size + 1, by rw [hcells]; simp, o, hN.1, hd⟩
  · obtain ⟨rfl, rfl⟩ := hone n c h
    exact ⟨⟨_, o, hN.1, hd⟩, hN.2.2, by rw [hloc]; exact hN.2.1⟩
  · rw [(hone n c h).1, (hone n' c h').1]
theorem ww_of {w : World} {h : Heap} {p : Program} {loose : List Str} {mean : ExcName → Option Value} {mg mb : Str → Option Value} (K : (hd.heap_39 w.params).In h) (T : Top p loose mean mg mb h) : WW w h :=
  ⟨K, T.nolimit, ⟨mg, T.g⟩, ⟨mb, T.b, T.builtins⟩⟩

-- J1
set_option maxHeartbeats 8000000
theorem law_holds : PySem.Challenge.rw_nz0176_01.Holds := hd (by
  k_go0
  rename_i w s₀ s₁ mg mb G Y fa o pm doc ho hg KX X V GL T B TE TW x1 x2 M x3 x4 hcd x5 hs hlay0 hL0 hr0 hl2 x6 x7 x8 x9 x10 hL ra w1 r0 hI hr1 hc1 hc2 K0 hD h₁ tk₁ F x11 right N0 X0
  have hW := ww_of KX T
  have hl : Lst s₁.heap _ _ := ⟨_, hL, hI⟩
  clear X V GL B TE TW M hcd hs hlay0 hL0 hr0 hl2 ra w1 r0 hr1 hc2 K0 hD X0 ho Y G
  refine law_walk (s₀ := s₁) hW rfl (by decide) (below_caller _) ⟨rfl, fun h _ => h, rfl, rfl⟩ ⟨rfl, rfl⟩ (fm_of rfl rfl F N0 (right.trans rfl)) hl (by omega) (fun s' lk sb => ?_)
  obtain ⟨h', t', rfl⟩ := lk
  exact ⟨.inl ⟨.bool true, .bool true, [], rfl, fun _ => rfl, .bool true, (by wrow_post), fun _ => ⟨.nil, fun _ h => nomatch h⟩⟩, sb, rfl, hg⟩)
end Mine

theorem PySem.Challenge.cw_nz0176_01_holds : PySem.Challenge.rw_nz0176_01.Holds := by
  exact Mine.law_holds
