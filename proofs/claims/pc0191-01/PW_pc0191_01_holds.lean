import PyProof.Rows.All
import Wide.All
import OpenK.AllK
import Wide.FinOn
import PyProof.SliceMore
import KE.KDictSum
import KE.KDictIter
import KE.KDictLaws
import PyProof.Rows.RegReprOcc
import PySem.Challenge.RW_pc0191_01
open PySem PySem.W PyProof.Rows PySem.Spec PySem.Calls PyProof.Rows.LCg
set_option Elab.async false
set_option maxRecDepth 100000
set_option maxHeartbeats 8000000
set_option linter.unusedVariables false
set_option linter.unusedSimpArgs false
set_option genInjectivity false
set_option genSizeOf false
set_option genSizeOfSpec false
namespace Mine
section
local macro_rules | `(tactic| o_head $_) => `(tactic| skip)
theorem fr : True := by
  refine Classical.byContradiction fun hn => ?_
  have hF : False := hn trivial
  have h : PySem.Challenge.rw_pc0191_01.Holds := by
    refine holds_law hF.elim fun said => ?_
    k_head
    exact hF.elim
  exact hF
end
noncomputable abbrev PgX : Program := PySem.Challenge.rw_pc0191_01.row.prog
end Mine
section
namespace Mine
abbrev FaultC : Value := .ref 52

noncomputable abbrev Pg : Program := PgX
abbrev Loc := Str → Option Value
abbrev Led := List (Addr × Obj)

/-- what stands around one frame of the text -/
structure Cx where
  w : World
  L : Addr
  A : Around
  A₀ : Around
  base : Heap
  h₀ : Heap
  outer : List Env
  env : Env
  p : Program
  loose : List Str
  mean : ExcName → Option Value
  mg : Str → Option Value
  mb : Str → Option Value
  B : Below A₀ base outer h₀
  X : (fr.heap_1 w.params).In h₀
  T : Top p loose mean mg mb h₀
  Xb : (fr.heap_1 w.params).In base
  Tb : Top p loose mean mg mb base
  hA : A.frames = some (env :: outer)
  hf : env.frame = some L
  hk : env.scope.kind = .function
  hgen : env.scope.isGenerator = false
  hco : env.scope.isCoroutine = false
  hb : env.builtins = builtinsNs
  hg : env.globals = mainGlobals
  hi : h₀.NoSeer
  ht : Pg.given.tree = none
  hh : A.handled = none
  hgd : A.guards = some []

section

def Cx.in1 (c : Cx) : Cx := { c with A := c.A.in1, hA := c.hA, hh := c.hh, hgd := c.hgd }
def Room (c : Cx) (n : Nat) : Prop := c.A.depth + n < recursionLimit ∧ c.A.units + 8 * n < cLine
theorem Room.in1 {c : Cx} {n : Nat} (h : Room c (n + 1)) : Room c.in1 n :=
  ⟨Nat.lt_of_succ_lt h.1, by have := h.2; show c.A.units + 1 + 8 * n < cLine; omega⟩
theorem Room.le {c : Cx} {n k : Nat} (h : Room c n) (hk : k ≤ n) : Room c k := ⟨by have := h.1; omega, by have := h.2; omega⟩

abbrev RX := Value → Heap → Prop
/-- where an exception goes: it passes out of a loop's own activation -/
structure Ex (c : Cx) where
  f : Value → Shared → Prop
  ok : PassesOwn (model Pg c.w) c.A c.env f
def EV {α : Type} (c : Cx) (m : Loc) (ν : Led) (t : Sem α) (P : α → Loc → Led → Prop) (R : RX) : Prop :=
  ∀ (s : Shared) (Q : α → Shared → Prop) (E : Ex c), Fr c.h₀ c.L s.heap m → News c.h₀ c.L s.heap ν →
    (∀ v m' ν' h' tk', P v m' ν' → Fr c.h₀ c.L h' m' → News c.h₀ c.L h' ν' → Q v { s with heap := h', toks := tk' }) →
    (∀ e h' tk', R e h' → E.f e { s with heap := h', toks := tk' }) →
    wpAny (model Pg c.w) c.A t Q E.f s

section rules
variable {α β : Type} {c : Cx} {m : Loc} {ν : Led} {R : RX} {env : Env}

theorem ev_pure {a : α} {P : α → Loc → Led → Prop} (h : P a m ν) : EV c m ν (pure a) P R :=
  fun s Q E F N hQ hE => wpAny_pure (hQ a m ν s.heap s.toks h F N)
theorem ev_bind {t : Sem α} {k : α → Sem β} {P : β → Loc → Led → Prop} (h : EV c m ν t (fun a m' ν' => EV c m' ν' (k a) P R) R) : EV c m ν (t >>= k) P R :=
  fun s Q E F N hQ hE => wpAny_bind (h s _ E F N (fun a m₁ ν₁ h₁ k₁ x F₁ N₁ => x _ Q E F₁ N₁ hQ hE) hE)
theorem ev_mono {t : Sem α} {P P' : α → Loc → Led → Prop} {R' : RX} (h : EV c m ν t P R) (hp : ∀ a m' ν', P a m' ν' → P' a m' ν') (hr : ∀ e h, R e h → R' e h) : EV c m ν t P' R' :=
  fun s Q E F N hQ hE => h s Q E F N (fun a m₁ ν₁ h₁ k₁ x => hQ a m₁ ν₁ h₁ k₁ (hp _ _ _ x)) (fun e h₁ k₁ x => hE e h₁ k₁ (hr _ _ x))
theorem ev_imp {t : Sem α} {P P' : α → Loc → Led → Prop} (h : EV c m ν t P R) (hp : ∀ a m' ν', P a m' ν' → P' a m' ν') : EV c m ν t P' R := ev_mono h hp fun _ _ x => x
/-- fewer, or in another order -/
theorem ev_sub {t : Sem α} {ν' : Led} {P : α → Loc → Led → Prop} (h : EV c m ν' t P R) (hs : ∀ p ∈ ν', p ∈ ν) : EV c m ν t P R :=
  fun s Q E F N hQ hE => h s Q E F (fun p hp => N p (hs p hp)) hQ hE
theorem ev_rule {tag : String} {P : Unit → Loc → Led → Prop} (h : P () m ν) : EV c m ν (rule tag) P R :=
  fun s Q E F N hQ hE => wpAny_rule (hQ () m ν s.heap s.toks h F N)
theorem ev_holding {vs : List Value} {t : Sem α} {P : α → Loc → Led → Prop} (h : EV c m ν t P R) : EV c m ν (holding vs t) P R :=
  fun s Q E F N hQ hE => wpAny_holding (h s Q E F N hQ hE)
end rules
/-- then e is evaluated; k has both values -/
abbrev kE (c : Cx) (env : Env) (e : Expr) (k : Value → Value → Loc → Led → Prop) (R : RX) : Value → Loc → Led → Prop := fun a m ν => EV c m ν (eval e env) (k a) R
abbrev kOp (c : Cx) (op : Operator) (P : Value → Loc → Led → Prop) (R : RX) : Value → Value → Loc → Led → Prop := fun a b m ν => EV c m ν (binaryOp op a b) P R
abbrev kUn (c : Cx) (op : UnaryOp) (P : Value → Loc → Led → Prop) (R : RX) : Value → Loc → Led → Prop := fun a m ν => EV c m ν (unaryOp op a) P R
abbrev kCmp (c : Cx) (op : CmpOp) (P : Value → Loc → Led → Prop) (R : RX) : Value → Value → Loc → Led → Prop := fun a b m ν => EV c m ν (compareOp op a b) P R
abbrev kTr (c : Cx) (P : Bool → Loc → Led → Prop) (R : RX) : Value → Loc → Led → Prop := fun v m ν => EV c m ν (truthy v) P R
abbrev kIf (c : Cx) (env : Env) (a b : Expr) (P : Value → Loc → Led → Prop) (R : RX) : Bool → Loc → Led → Prop := fun x m ν => if x then EV c m ν (eval a env) P R else EV c m ν (eval b env) P R
abbrev kIfS (c : Cx) (env : Env) (a b : List Stmt) (P : Flow → Loc → Led → Prop) (R : RX) : Bool → Loc → Led → Prop := fun x m ν => if x then EV c m ν (execs a env) P R else EV c m ν (execs b env) P R
abbrev kNot (P : Bool → Loc → Led → Prop) : Bool → Loc → Led → Prop := fun b m ν => P (!b) m ν
abbrev kAnd (c : Cx) (env : Env) (rest : List Expr) (pos : Pos) (whole : Sem Value) (P : Bool → Loc → Led → Prop) (R : RX) : Bool → Loc → Led → Prop := fun b m ν => if b then EV c m ν (isTrue (.BoolOp .And rest pos) env whole) P R else P false m ν
abbrev kOr (c : Cx) (env : Env) (rest : List Expr) (pos : Pos) (whole : Sem Value) (P : Bool → Loc → Led → Prop) (R : RX) : Bool → Loc → Led → Prop := fun b m ν => if b then P true m ν else EV c m ν (isTrue (.BoolOp .Or rest pos) env whole) P R
abbrev kChain (c : Cx) (env : Env) (op₁ op₂ : CmpOp) (r₂ : Expr) (P : Bool → Loc → Led → Prop) (R : RX) : Value → Value → Loc → Led → Prop := fun a b m ν => EV c m ν (compareOp op₁ a b) (kTr c (fun t m₄ ν₄ => if t then EV c m₄ ν₄ (eval r₂ env) (kCmp c op₂ (kTr c P R) R b) R else P false m₄ ν₄) R) R
abbrev kSpl (c : Cx) (env : Env) (pos : Pos) (rest : List Expr) (P : List Value → Loc → Led → Prop) (R : RX) : Value → Loc → Led → Prop := fun v m ν => EV c m ν (spliced (backTo pos (starEach rest env))) (fun vs => P (v :: vs)) R
abbrev kTup (c : Cx) (P : Value → Loc → Led → Prop) (R : RX) : List Value → Loc → Led → Prop := fun vs m ν => EV c m ν (newTuple vs) P R
abbrev kLst (c : Cx) (P : Value → Loc → Led → Prop) (R : RX) : List Value → Loc → Led → Prop := fun vs m ν => EV c m ν (newList vs) P R
abbrev kNext (P : Flow → Loc → Led → Prop) : Unit → Loc → Led → Prop := fun _ => P .next
abbrev kRet (P : Flow → Loc → Led → Prop) : Value → Loc → Led → Prop := fun v => P (.ret v)
abbrev kStore (c : Cx) (env : Env) (x : Str) (P : Flow → Loc → Led → Prop) (R : RX) : Value → Loc → Led → Prop := fun v m ν => EV c m ν (storeName env x v) (kNext P) R
abbrev kSetI (c : Cx) (env : Env) (i : Expr) (P : Flow → Loc → Led → Prop) (R : RX) : Value → Value → Loc → Led → Prop := fun v ov m ν => EV c m ν (eval i env) (fun iv m₁ ν₁ => EV c m₁ ν₁ (setItem ov iv v) (kNext P) R) R
abbrev kSetA (c : Cx) (attr : Str) (P : Flow → Loc → Led → Prop) (R : RX) : Value → Value → Loc → Led → Prop := fun v ov m ν => EV c m ν (setAttr ov attr v) (kNext P) R
section rules
variable {α β : Type} {c : Cx} {m : Loc} {ν : Led} {R : RX} {env : Env}
/- expressions -/
variable {P : Value → Loc → Led → Prop} {PB : Bool → Loc → Led → Prop} {PF : Flow → Loc → Led → Prop} {PU : Unit → Loc → Led → Prop} {PL : List Value → Loc → Led → Prop}

theorem ev_int {i : Int} {k : Nat} {pos : Pos} (h : ∀ t, P (.int i t) m ν) : EV c m ν (eval (.Constant (.int i) k pos) env) P R :=
  fun s Q E F N hQ hE => wpAny_Constant_int (hQ _ m ν s.heap _ (h _) F N)
theorem ev_str {x : Str} {k : Nat} {pos : Pos} (h : ∀ t, P (.str x t) m ν) : EV c m ν (eval (.Constant (.str x) k pos) env) P R :=
  fun s Q E F N hQ hE => Constant_str (hQ _ m ν s.heap _ (h _) F N)
theorem ev_none {k : Nat} {pos : Pos} (h : P .none m ν) : EV c m ν (eval (.Constant .none k pos) env) P R := ev_pure h
theorem ev_bool {b : Bool} {k : Nat} {pos : Pos} (h : P (.bool b) m ν) : EV c m ν (eval (.Constant (.bool b) k pos) env) P R := ev_pure h

theorem ev_BinOp {l r : Expr} {op : Operator} {pos : Pos} (h : EV c m ν (eval l env) (kE c env r (kOp c op P R) R) R) : EV c m ν (eval (.BinOp l op r pos) env) P R :=
  fun s Q E F N hQ hE => wpAny_BinOp (h s _ E F N (fun a m₁ ν₁ h₁ k₁ x F₁ N₁ => x _ _ E F₁ N₁ (fun b m₂ ν₂ h₂ k₂ y F₂ N₂ => y _ Q E F₂ N₂ hQ hE) hE) hE)
theorem ev_UnaryOp {op : UnaryOp} {x : Expr} {pos : Pos} (h : EV c m ν (eval x env) (kUn c op P R) R) : EV c m ν (eval (.UnaryOp op x pos) env) P R :=
  fun s Q E F N hQ hE => UnaryOp_ (h s _ E F N (fun a m₁ ν₁ h₁ k₁ x F₁ N₁ => x _ Q E F₁ N₁ hQ hE) hE)
theorem ev_IfExp {t b o : Expr} {pos : Pos} (h : EV c m ν (isTrue t env (eval t env)) (kIf c env b o P R) R) : EV c m ν (eval (.IfExp t b o pos) env) P R :=
  fun s Q E F N hQ hE => IfExp_ (h s _ E F N (fun a m₁ ν₁ h₁ k₁ x F₁ N₁ => by cases a <;> exact x _ Q E F₁ N₁ hQ hE) hE)

theorem ev_Compare {l r : Expr} {op : CmpOp} {pos : Pos} (h : EV c m ν (eval l env) (kE c env r (kCmp c op P R) R) R) (hm : behindInMarks op r = false := by with_unfolding_all rfl) : EV c m ν (eval (.Compare l [op] [r] pos) env) P R :=
  fun s Q E F N hQ hE => wpAny_Compare1 (h s _ E F N (fun a m₁ ν₁ h₁ k₁ x F₁ N₁ => x _ _ E F₁ N₁ (fun b m₂ ν₂ h₂ k₂ y F₂ N₂ => y _ Q E F₂ N₂ hQ hE) hE) hE) hm
theorem ev_isCompare {l r : Expr} {op : CmpOp} {pos : Pos} {whole : Sem Value} (h : EV c m ν (eval l env) (kE c env r (kCmp c op (kTr c PB R) R) R) R) (hm : behindInMarks op r = false := by with_unfolding_all rfl) : EV c m ν (isTrue (.Compare l [op] [r] pos) env whole) PB R :=
  fun s Q E F N hQ hE => wpAny_isTrue_Compare1 (h s _ E F N (fun a m₁ ν₁ h₁ k₁ x F₁ N₁ => x _ _ E F₁ N₁ (fun b m₂ ν₂ h₂ k₂ y F₂ N₂ => y _ _ E F₂ N₂ (fun v m₃ ν₃ h₃ k₃ z F₃ N₃ => z _ Q E F₃ N₃ hQ hE) hE) hE) hE) hm
/-- a op₁ b op₂ d, as a test -/
theorem ev_isChain {l r₁ r₂ : Expr} {op₁ op₂ : CmpOp} {pos : Pos} {whole : Sem Value}
    (h : EV c m ν (eval l env) (kE c env r₁ (kChain c env op₁ op₂ r₂ PB R) R) R)
    (hm : lastMarks [op₁, op₂] [r₁, r₂] = false := by with_unfolding_all rfl) : EV c m ν (isTrue (.Compare l [op₁, op₂] [r₁, r₂] pos) env whole) PB R :=
  fun s Q E F N hQ hE => isTrue_chain (h s _ E F N (fun a m₁ ν₁ h₁ k₁ x F₁ N₁ => test_link (x _ _ E F₁ N₁ (fun b m₂ ν₂ h₂ k₂ y F₂ N₂ => y _ _ E F₂ N₂ (fun v m₃ ν₃ h₃ k₃ z F₃ N₃ => z _ _ E F₃ N₃ (fun t m₄ ν₄ h₄ k₄ u F₄ N₄ => by
    cases t
    · exact hQ _ _ _ _ _ u F₄ N₄
    · exact test_last (u _ _ E F₄ N₄ (fun d m₅ ν₅ h₅ k₅ q F₅ N₅ => q _ _ E F₅ N₅ (fun v m₆ ν₆ h₆ k₆ r F₆ N₆ => r _ Q E F₆ N₆ hQ hE) hE) hE)) hE) hE) hE)) hE) hm
theorem ev_isNot {x : Expr} {pos : Pos} {whole : Sem Value} (h : EV c m ν (isTrue x env (eval x env)) (kNot PB) R) : EV c m ν (isTrue (.UnaryOp .Not x pos) env whole) PB R :=
  fun s Q E F N hQ hE => isTrue_not (h s _ E F N (fun a m₁ ν₁ h₁ k₁ x F₁ N₁ => hQ _ _ _ _ _ x F₁ N₁) hE)
theorem ev_isAnd {x : Expr} {rest : List Expr} {pos : Pos} {whole : Sem Value} (h : EV c m ν (isTrue x env (eval x env)) (kAnd c env rest pos whole PB R) R) : EV c m ν (isTrue (.BoolOp .And (x :: rest) pos) env whole) PB R :=
  fun s Q E F N hQ hE => isTrue_and (h s _ E F N (fun a m₁ ν₁ h₁ k₁ x F₁ N₁ => by cases a; exact hQ _ _ _ _ _ x F₁ N₁; exact x _ _ E F₁ N₁ hQ hE) hE)
theorem ev_isOr {x : Expr} {rest : List Expr} {pos : Pos} {whole : Sem Value} (h : EV c m ν (isTrue x env (eval x env)) (kOr c env rest pos whole PB R) R) : EV c m ν (isTrue (.BoolOp .Or (x :: rest) pos) env whole) PB R :=
  fun s Q E F N hQ hE => isTrue_or (h s _ E F N (fun a m₁ ν₁ h₁ k₁ x F₁ N₁ => by cases a; exact x _ _ E F₁ N₁ hQ hE; exact hQ _ _ _ _ _ x F₁ N₁) hE)
theorem ev_isAnd0 {pos : Pos} {whole : Sem Value} (h : PB true m ν) : EV c m ν (isTrue (.BoolOp .And [] pos) env whole) PB R :=
  fun s Q E F N hQ hE => isTrue_and_nil (hQ _ _ _ s.heap s.toks h F N)
theorem ev_isOr0 {pos : Pos} {whole : Sem Value} (h : PB false m ν) : EV c m ν (isTrue (.BoolOp .Or [] pos) env whole) PB R :=
  fun s Q E F N hQ hE => isTrue_or_nil (hQ _ _ _ s.heap s.toks h F N)
theorem ev_isPlain {e : Expr} {whole : Sem Value} (h : EV c m ν whole (kTr c PB R) R) (he : isTrue e env whole = (do let v ← whole; standAt e.pos; holding [v] (truthy v)) := by with_unfolding_all rfl) : EV c m ν (isTrue e env whole) PB R :=
  fun s Q E F N hQ hE => isTrue_plain (h s _ E F N (fun a m₁ ν₁ h₁ k₁ x F₁ N₁ => x _ Q E F₁ N₁ hQ hE) hE) he
theorem ev_BoolOr {a b : Expr} {pos : Pos} (h : EV c m ν (eval a env) (fun v m₁ ν₁ => EV c m₁ ν₁ (truthy v) (fun t m₂ ν₂ => if t then P v m₂ ν₂ else EV c m₂ ν₂ (eval b env) P R) R) R) : EV c m ν (eval (.BoolOp .Or [a, b] pos) env) P R :=
  fun s Q E F N hQ hE => BoolOp_or (h s _ E F N (fun v m₁ ν₁ h₁ k₁ x F₁ N₁ => x _ _ E F₁ N₁ (fun t m₂ ν₂ h₂ k₂ y F₂ N₂ => by cases t; exact BoolOp_one (y _ Q E F₂ N₂ hQ hE); exact hQ _ _ _ _ _ y F₂ N₂) hE) hE)
theorem ev_truthyB {b : Bool} (h : PB b m ν) : EV c m ν (truthy (.bool b)) PB R := fun s Q E F N hQ hE => wpAny_truthy_bool (hQ _ _ _ s.heap s.toks h F N)
theorem ev_spl0 {pos : Pos} (h : PL [] m ν) : EV c m ν (spliced (backTo pos (starEach [] env))) PL R := fun s Q E F N hQ hE => spliced_none (hQ _ _ _ s.heap s.toks h F N)
theorem ev_spl {e : Expr} {rest : List Expr} {pos : Pos} (h : EV c m ν (eval e env) (kSpl c env pos rest PL R) R)
    (he : starEach (e :: rest) env = (false, eval e env) :: starEach rest env := by with_unfolding_all rfl) : EV c m ν (spliced (backTo pos (starEach (e :: rest) env))) PL R :=
  fun s Q E F N hQ hE => spliced_more (h s _ E F N (fun v m₁ ν₁ h₁ k₁ x F₁ N₁ => x _ _ E F₁ N₁ (fun vs m₂ ν₂ h₂ k₂ y F₂ N₂ => hQ _ _ _ _ _ y F₂ N₂) hE) hE) he

/- objects -/
abbrev tupO (vs : List Value) (n : Nat := 0) : Obj := { cls := .type "tuple", data := .seq vs.toArray n }
abbrev lstO (vs : List Value) (n : Nat := 0) : Obj := { cls := .type "list", data := .seq vs.toArray n }

/-- above all that the ledger tells -/
def Above (a : Addr) (ν : Led) : Prop := ∀ p ∈ ν, p.1 < a
theorem ev_newObj {o : Obj} {P : Value → Loc → Led → Prop} (hq : ∀ a, Above a ν → P (.ref a) m ((a, o) :: ν)) (t : Sem Value) (ht : ∀ s (Q : Value → Shared → Prop) E, Q (.ref s.heap.objs.size) { s with heap := s.heap.push o } → wpAny (model Pg c.w) c.A t Q E s) (hfree : o.isFreed = false := by rfl) : EV c m ν t P R :=
  fun s Q E F N hQ hE => ht s Q E.f (hQ _ m _ _ s.toks (hq s.heap.objs.size (fun p hp => Heap.lt_size (N p hp).1)) (F.push o) (N.push F o hfree))
theorem ev_newTuple {vs : List Value} (h : ∀ a, Above a ν → P (.ref a) m ((a, tupO vs) :: ν)) (hsz : vs.length ≤ sizeLine := by simp [sizeLine]) : EV c m ν (newTuple vs) P R :=
  ev_newObj h _ fun s Q E q => wpAny_newObj_type q (by show vs.toArray.size ≤ sizeLine; rw [List.size_toArray]; exact hsz)
theorem ev_newList {vs : List Value} (h : ∀ a, Above a ν → P (.ref a) m ((a, lstO vs) :: ν)) (hsz : vs.length ≤ sizeLine := by simp [sizeLine]) : EV c m ν (newList vs) P R :=
  ev_newObj h _ fun s Q E q => wpAny_newObj_type q (by show vs.toArray.size ≤ sizeLine; rw [List.size_toArray]; exact hsz)
theorem ev_Tuple {elts : List Expr} {k : Nat} {pos : Pos} (h : EV c m ν (spliced (backTo pos (starEach elts env))) (kTup c P R) R) : EV c m ν (eval (.Tuple elts k pos) env) P R :=
  fun s Q E F N hQ hE => Tuple_ (h s _ E F N (fun v m₁ ν₁ h₁ k₁ x F₁ N₁ => x _ _ E F₁ N₁ hQ hE) hE)
theorem ev_List {elts : List Expr} {pos : Pos} (h : EV c m ν (spliced (backTo pos (starEach elts env))) (kLst c P R) R) : EV c m ν (eval (.List elts pos) env) P R :=
  fun s Q E F N hQ hE => List_ (h s _ E F N (fun v m₁ ν₁ h₁ k₁ x F₁ N₁ => x _ _ E F₁ N₁ hQ hE) hE)

/- statements -/
theorem ev_nil (h : PF .next m ν) : EV c m ν (execs [] env) PF R := fun s Q E F N hQ hE => wpAny_execs_nil (hQ _ _ _ s.heap s.toks h F N)
def Then (c : Cx) (env : Env) (rest : List Stmt) (PF : Flow → Loc → Led → Prop) (R : RX) : Flow → Loc → Led → Prop
  | .next, m, ν => EV c m ν (execs rest env) PF R
  | f, m, ν => PF f m ν
theorem then_next {rest : List Stmt} (h : EV c m ν (execs rest env) PF R) : Then c env rest PF R .next m ν := h
theorem then_ret {rest : List Stmt} {v : Value} (h : PF (.ret v) m ν) : Then c env rest PF R (.ret v) m ν := h
theorem then_cont {rest : List Stmt} (h : PF .cont m ν) : Then c env rest PF R .cont m ν := h
theorem ev_cons {st : Stmt} {rest : List Stmt} (h : EV c m ν (exec st env) (Then c env rest PF R) R) : EV c m ν (execs (st :: rest) env) PF R :=
  fun s Q E F N hQ hE => wpAny_execs_cons (h s _ E F N (fun f m₁ ν₁ h₁ k₁ x F₁ N₁ => by cases f <;> first | exact hQ _ _ _ _ _ x F₁ N₁ | exact x _ Q E F₁ N₁ hQ hE) hE)
theorem ev_Assign {x : Str} {pos' pos : Pos} {value : Expr} (h : EV c m ν (eval value env) (kStore c env x PF R) R)
    (hs : swapsWith value (some (.Name x pos')) pos.line env = pure false := by with_unfolding_all rfl) : EV c m ν (exec (.Assign [.Name x pos'] value pos) env) PF R :=
  fun s Q E F N hQ hE => wpAny_Assign_Name (h s _ E F N (fun v m₁ ν₁ h₁ k₁ x F₁ N₁ => x _ _ E F₁ N₁ (fun _ m₂ ν₂ h₂ k₂ y F₂ N₂ => hQ _ _ _ _ _ y F₂ N₂) hE) hE) hs
theorem ev_AssignSub {o i value : Expr} {pos' pos : Pos} (h : EV c m ν (eval value env) (kE c env o (kSetI c env i PF R) R) R)
    (hs : swapsWith value (some (.Subscript o i pos')) pos.line env = pure false := by with_unfolding_all rfl) : EV c m ν (exec (.Assign [.Subscript o i pos'] value pos) env) PF R :=
  fun s Q E F N hQ hE => wpAny_Assign_Subscript (h s _ E F N (fun v m₁ ν₁ h₁ k₁ x F₁ N₁ => x _ _ E F₁ N₁ (fun _ m₂ ν₂ h₂ k₂ y F₂ N₂ => y _ _ E F₂ N₂ (fun _ m₃ ν₃ h₃ k₃ z F₃ N₃ => z _ _ E F₃ N₃ (fun _ m₄ ν₄ h₄ k₄ u F₄ N₄ => hQ _ _ _ _ _ u F₄ N₄) hE) hE) hE) hE) hs
theorem ev_AssignAttr {o value : Expr} {attr : Str} {pos' pos : Pos} (h : EV c m ν (eval value env) (kE c env o (kSetA c attr PF R) R) R)
    (hs : swapsWith value (some (.Attribute o attr pos')) pos.line env = pure false := by with_unfolding_all rfl) : EV c m ν (exec (.Assign [.Attribute o attr pos'] value pos) env) PF R :=
  fun s Q E F N hQ hE => plainObj_wpAny_Assign_Attribute (h s _ E F N (fun v m₁ ν₁ h₁ k₁ x F₁ N₁ => x _ _ E F₁ N₁ (fun _ m₂ ν₂ h₂ k₂ y F₂ N₂ => y _ _ E F₂ N₂ (fun _ m₄ ν₄ h₄ k₄ u F₄ N₄ => hQ _ _ _ _ _ u F₄ N₄) hE) hE) hE) hs
theorem ev_AssignTup {elts : List Expr} {k : Nat} {tpos pos : Pos} {value : Expr} (h : EV c m ν (eval value env) (fun v m₁ ν₁ => EV c m₁ ν₁ (assign (.Tuple elts k tpos) env v) (fun _ m₂ ν₂ => PF .next m₂ ν₂) R) R)
    (hs : swapsWithSole [.Tuple elts k tpos] value pos.line env = pure false := by with_unfolding_all rfl) (hw : swappedStores [.Tuple elts k tpos] value env = pure none := by with_unfolding_all rfl) : EV c m ν (exec (.Assign [.Tuple elts k tpos] value pos) env) PF R :=
  fun s Q E F N hQ hE => Assign_Tuple (h s _ E F N (fun v m₁ ν₁ h₁ k₁ x F₁ N₁ => x _ _ E F₁ N₁ (fun _ m₂ ν₂ h₂ k₂ y F₂ N₂ => hQ _ _ _ _ _ y F₂ N₂) hE) hE) hs hw
theorem ev_AssignSwap {elts : List Expr} {k : Nat} {tpos pos : Pos} {value : Expr} {names : List Str} (h : EV c m ν (eval value env) (fun v m₁ ν₁ => EV c m₁ ν₁ (unpackItems v names.length none) (fun items m₂ ν₂ => EV c m₂ ν₂ (assignInOrder (names.reverse.map fun n => bindName env n) items.reverse) (fun _ m₃ ν₃ => PF .next m₃ ν₃) R) R) R)
    (hs : swapsWithSole [.Tuple elts k tpos] value pos.line env = pure false := by rfl) (hw : swappedStores [.Tuple elts k tpos] value env = pure (some names) := by rfl) : EV c m ν (exec (.Assign [.Tuple elts k tpos] value pos) env) PF R :=
  fun s Q E F N hQ hE => Assign_Tuple_swapped (h s _ E F N (fun v m₁ ν₁ h₁ k₁ x F₁ N₁ => x _ _ E F₁ N₁ (fun _ m₂ ν₂ h₂ k₂ y F₂ N₂ => y _ _ E F₂ N₂ (fun _ m₃ ν₃ h₃ k₃ z F₃ N₃ => hQ _ _ _ _ _ z F₃ N₃) hE) hE) hE) hs hw
theorem ev_Return {e : Expr} {pos : Pos} (h : EV c m ν (eval e env) (kRet PF) R) : EV c m ν (exec (.Return (some e) pos) env) PF R :=
  fun s Q E F N hQ hE => wpAny_Return_some (h s _ E F N (fun v m₁ ν₁ h₁ k₁ x F₁ N₁ => hQ _ _ _ _ _ x F₁ N₁) hE)
theorem ev_If {t : Expr} {a b : List Stmt} {pos : Pos} (h : EV c m ν (isTrue t env (eval t env)) (kIfS c env a b PF R) R) : EV c m ν (exec (.If t a b pos) env) PF R :=
  fun s Q E F N hQ hE => wpAny_If (h s _ E F N (fun x m₁ ν₁ h₁ k₁ y F₁ N₁ => by cases x <;> exact y _ Q E F₁ N₁ hQ hE) hE)
theorem ev_Continue {pos : Pos} (h : PF .cont m ν) : EV c m ν (exec (.Continue pos) env) PF R := fun s Q E F N hQ hE => wpAny_Continue (hQ _ _ _ s.heap s.toks h F N)
end rules
end
end Mine

end
section
namespace Mine
section
variable {α β : Type} {c : Cx} {m : Loc} {ν : Led} {R : RX} {env : Env}
variable {P : Value → Loc → Led → Prop} {PB : Bool → Loc → Led → Prop} {PF : Flow → Loc → Led → Prop} {PU : Unit → Loc → Led → Prop} {PL : List Value → Loc → Led → Prop}

def upd (m : Loc) (x : Str) (v : Value) : Loc := fun y => if y = x then some v else m y
theorem upd_self {m : Loc} {x : Str} {v : Value} : upd m x v x = some v := by simp [upd]
theorem upd_ne {m : Loc} {x y : Str} {v : Value} (h : y ≠ x) : upd m x v y = m y := by simp [upd, h]
theorem upd_to {m : Loc} {x y : Str} {v u : Value} (e : m y = some u) (h : y ≠ x := by decide) : upd m x v y = some u := (upd_ne h).trans e
/- names -/
theorem ev_local {x : Str} {pos : Pos} {v : Value} (hv : m x = some v := by walk_at "zlk") (h : P v m ν) (hL : env.locals = c.L := by with_unfolding_all rfl) (hk : env.scope.kind = .function := by with_unfolding_all rfl) (hx : env.kindOf x = some .local := by with_unfolding_all rfl)
    (hd : (x == ("__debug__" : Str)) = false := by decide) : EV c m ν (eval (.Name x pos) env) P R :=
  fun s Q E F N hQ hE => wpAny_Name (wpAny_loadName_local hk hx (hL ▸ F.ns) hv (hQ _ _ _ s.heap s.toks h F N)) hd
theorem ev_cell {x : Str} {pos : Pos} {v : Value} {cc : Addr} {o : Obj} (hc : env.cells.lookup x = some cc := by with_unfolding_all rfl) (hm : (cc, o) ∈ ν := by walk_at "zmem") (ho : o.data = .cell (some v) := by assumption) (h : P v m ν) (hk : env.scope.kind = .function := by with_unfolding_all rfl) (hx : env.kindOf x = some .cell := by with_unfolding_all rfl)
    (hd : (x == ("__debug__" : Str)) = false := by decide) : EV c m ν (eval (.Name x pos) env) P R :=
  fun s Q E F N hQ hE => wpAny_Name (wpAny_loadName_cell hk hx hc ⟨o, N.get hm, ho⟩ (hQ _ _ _ s.heap s.toks h F N)) hd
theorem ev_glob {x : Str} {pos : Pos} {v : Value} (e : nsIn (fr.heap_1 c.w.params) mainGlobals x = some (some v) := by k_is) (h : P v m ν) (hg : env.globals = mainGlobals := by with_unfolding_all rfl) (hk : env.scope.kind = .function := by with_unfolding_all rfl) (hx : env.kindOf x = some .globalImplicit := by with_unfolding_all rfl)
    (hd : (x == ("__debug__" : Str)) = false := by decide) : EV c m ν (eval (.Name x pos) env) P R :=
  fun s Q E F N hQ hE => Name_function_global hk hx (loadGlobal_global (hg ▸ c.T.g.keeps F.keep) (mg_of c.X c.T.g e) (hQ _ _ _ s.heap s.toks h F N)) hd
theorem ev_bltn {x : Str} {pos : Pos} {v : Value} (e : nsIn (fr.heap_1 c.w.params) mainGlobals x = some none := by k_is) (hv : bootBuiltins x = some v := by first | boot_fast | boot_by_name) (h : P v m ν) (hn : x ≠ "__name__" := by decide) (hg : env.globals = mainGlobals := by with_unfolding_all rfl) (hb : env.builtins = builtinsNs := by with_unfolding_all rfl) (hk : env.scope.kind = .function := by with_unfolding_all rfl) (hx : env.kindOf x = some .globalImplicit := by with_unfolding_all rfl)
    (hd : (x == ("__debug__" : Str)) = false := by decide) : EV c m ν (eval (.Name x pos) env) P R :=
  fun s Q E F N hQ hE => Name_function_global hk hx (loadGlobal_builtin (hg ▸ c.T.g.keeps F.keep) (mg_none_of c.X c.T.g e) (hb ▸ c.T.b.keeps F.keep) ((c.T.builtins x hn).trans hv) (hQ _ _ _ s.heap s.toks h F N)) hd

theorem ev_store {x : Str} {v : Value} (h : PU () (upd m x v) ν) (hL : env.locals = c.L := by with_unfolding_all rfl) (hk : env.scope.kind = .function := by with_unfolding_all rfl) (hx : env.kindOf x = some .local := by with_unfolding_all rfl) : EV c m ν (storeName env x v) PU R :=
  fun s Q E F N hQ hE => wpAny_storeName_local hx (hL ▸ F.ns) (fun h' hn hs => hQ _ _ _ h' _ h (F.set (hL ▸ hn) (hL ▸ hs)) (N.set (hL ▸ hs))) (by rw [hk]; rfl)
theorem ev_storeCell {x : Str} {v : Value} {cc : Addr} {o : Obj} {v₀ : Option Value} {ν₁ : Led} (hc : env.cells.lookup x = some cc) (ho : o.data = .cell v₀) (hν : ∀ p ∈ (cc, o) :: ν₁, p ∈ ν) (hne : ∀ p ∈ ν₁, p.1 ≠ cc) (h : ∀ o', o'.data = .cell (some v) → PU () m ((cc, o') :: ν₁))
    (hk : env.scope.kind = .function := by rfl) (hx : env.kindOf x = some .cell := by rfl) : EV c m ν (storeName env x v) PU R := by
  intro s Q E F N hQ hE
  have N₁ : News c.h₀ c.L s.heap ((cc, o) :: ν₁) := fun p hp => N p (hν p hp)
  have M := N₁ (cc, o) (.head _)
  refine wpAny_storeName_cell hk hx hc ⟨o, M.1, ho⟩ fun h' hv hs => ?_
  obtain ⟨o', ho', hd'⟩ := hv
  refine hQ _ _ _ h' s.toks (h o' hd') ⟨F.ns.sameBut hs (Ne.symm M.2.1), fun b ob e => (hs.2 b (fun q => ?_)).trans (F.keep b ob e), F.above⟩ (fun p hp => ?_)
  · rw [q, M.2.2] at e; cases e
  · rcases List.mem_cons.mp hp with rfl | hp
    · exact ⟨ho', M.2⟩
    · have P₁ := N₁ p (.tail _ hp)
      exact ⟨(hs.2 _ (hne p hp)).trans P₁.1, P₁.2⟩

/- one object turned -/
theorem news_put {h₀ h h' : Heap} {L a : Addr} {m : Loc} {o o' : Obj} {ν₁ : Led} (F : Fr h₀ L h m) (N₁ : News h₀ L h ((a, o) :: ν₁)) (hne : ∀ p ∈ ν₁, p.1 ≠ a) (ho : h'.get? a = some o') (hs : Heap.SameBut a h h') : Fr h₀ L h' m ∧ News h₀ L h' ((a, o') :: ν₁) := by
  have M := N₁ (a, o) (.head _)
  refine ⟨⟨F.ns.sameBut hs (Ne.symm M.2.1), fun b ob e => (hs.2 b (fun q => ?_)).trans (F.keep b ob e), F.above⟩, (fun p hp => ?_)⟩
  · rw [q, M.2.2] at e; cases e
  · rcases List.mem_cons.mp hp with rfl | hp
    · exact ⟨ho, M.2⟩
    · have P₁ := N₁ p (.tail _ hp)
      exact ⟨(hs.2 _ (hne p hp)).trans P₁.1, P₁.2⟩

/- ints -/
theorem ev_add {a b : Int} {t u : Tok} (h : ∀ k, P (.int (a + b) k) m ν) : EV c m ν (binaryOp .Add (.int a t) (.int b u)) P R := fun s Q E F N hQ hE => PyProof.Rows.add_int (hQ _ _ _ s.heap _ (h _) F N)
theorem ev_sub' {a b : Int} {t u : Tok} (h : ∀ k, P (.int (a - b) k) m ν) : EV c m ν (binaryOp .Sub (.int a t) (.int b u)) P R := fun s Q E F N hQ hE => PyProof.Rows.sub_int (hQ _ _ _ s.heap _ (h _) F N)
theorem ev_mul {a b : Int} {t u : Tok} (hm : PySem.IntMulOk a b := by mul_fits) (h : ∀ k, P (.int (a * b) k) m ν) : EV c m ν (binaryOp .Mult (.int a t) (.int b u)) P R := fun s Q E F N hQ hE => PyProof.Rows.mul_int (hQ _ _ _ s.heap _ (h _) F N) hm
theorem ev_mod {a b : Int} {t u : Tok} (hb : b ≠ 0 := by omega) (h : ∀ k, P (.int (a.fmod b) k) m ν) : EV c m ν (binaryOp .Mod (.int a t) (.int b u)) P R := fun s Q E F N hQ hE => PyProof.Rows.mod_int hb (hQ _ _ _ s.heap _ (h _) F N)
theorem ev_fdiv {a b : Int} {t u : Tok} (hb : b ≠ 0 := by omega) (hr : Room c 101 := by walk_at "zroom") (h : ∀ k, P (.int (a.fdiv b) k) m ν) : EV c m ν (binaryOp .FloorDiv (.int a t) (.int b u)) P R :=
  fun s Q E F N hQ hE => PyProof.Rows.floordiv_int hb (hQ _ _ _ s.heap _ (h _) F N) (.inr (PySem.PylongRoom.of (c.T.nolimit.keeps F.keep) (Nat.lt_of_succ_lt hr.1) (PySem.SeerAt.of (c.hi.keeps F.keep) c.ht c.hA c.hgen c.hco c.hb c.hg)))
theorem ev_lt {a b : Int} {t u : Tok} (h : P (.bool (decide (a < b))) m ν) : EV c m ν (compareOp .Lt (.int a t) (.int b u)) P R := fun s Q E F N hQ hE => PyProof.Rows.lt_int (hQ _ _ _ s.heap s.toks h F N)
theorem ev_le {a b : Int} {t u : Tok} (h : P (.bool (decide (a ≤ b))) m ν) : EV c m ν (compareOp .LtE (.int a t) (.int b u)) P R := fun s Q E F N hQ hE => PyProof.Rows.le_int (hQ _ _ _ s.heap s.toks h F N)
theorem ev_gt {a b : Int} {t u : Tok} (h : P (.bool (decide (b < a))) m ν) : EV c m ν (compareOp .Gt (.int a t) (.int b u)) P R := fun s Q E F N hQ hE => PyProof.Rows.gt_int (hQ _ _ _ s.heap s.toks h F N)
theorem ev_ge {a b : Int} {t u : Tok} (h : P (.bool (decide (b ≤ a))) m ν) : EV c m ν (compareOp .GtE (.int a t) (.int b u)) P R := fun s Q E F N hQ hE => PyProof.Rows.ge_int (hQ _ _ _ s.heap s.toks h F N)
theorem ev_eq {a b : Int} {t u : Tok} (h : P (.bool (a == b)) m ν) : EV c m ν (compareOp .Eq (.int a t) (.int b u)) P R := fun s Q E F N hQ hE => PyProof.Rows.eq_int (hQ _ _ _ s.heap s.toks h F N)
end
end Mine

end
section
namespace Mine
abbrev NoX : RX := fun _ _ => False
theorem lookup_app {y : Str} {b : List (Str × Value)} : ∀ a : List (Str × Value), (a ++ b).lookup y = (match a.lookup y with | some v => some v | none => b.lookup y)
  | [] => rfl
  | p :: r => by
    obtain ⟨x, v⟩ := p
    simp only [List.cons_append, List.lookup]
    cases h : y == x <;> simp [lookup_app r]
/-- what a call's binds make of the locals -/
def bnd (m : Loc) : List (Str × Value) → Loc
  | [] => m
  | p :: r => bnd (upd m p.1 p.2) r
abbrev noLoc : Loc := fun _ => none
theorem bnd_app (y : Str) : ∀ (l : List (Str × Value)) (m : Loc), bnd m l y = (match l.reverse.lookup y with | some v => some v | none => m y)
  | [], m => rfl
  | p :: r, m => by
    rw [bnd, bnd_app y r, List.reverse_cons, lookup_app]
    cases r.reverse.lookup y with
    | some v => rfl
    | none =>
      obtain ⟨x, v⟩ := p
      by_cases h : y = x
      · subst h; simp [upd, List.lookup]
      · have : (y == x) = false := by simpa using h
        simp [upd, h, List.lookup, this]
theorem bnd_eq (l : List (Str × Value)) : (fun y => l.reverse.lookup y) = bnd noLoc l := by
  funext y
  rw [bnd_app]
  cases l.reverse.lookup y <;> rfl
abbrev retOf : Flow → Value
  | .ret v => v
  | _ => .none
section
variable {α β : Type} {c : Cx} {m : Loc} {ν : Led} {R : RX}
variable {P : Value → Loc → Led → Prop}

theorem room_deeper {A : Around} {env : Env} {n : Nat} (h : A.depth + (n + 1) < recursionLimit ∧ A.units + 8 * (n + 1) < cLine) : (A.deeper env).depth + n < recursionLimit ∧ (A.deeper env).units + 8 * n < cLine :=
  ⟨by have := h.1; show A.depth + 1 + n < _; omega, by have := h.2; show A.units + 3 + 8 * n < _; omega⟩

/-- an exception (a MachineFault) is on its way through the frame of env; what lay in the ledger ν lies there still -/
structure Fly (c : Cx) (ν : Led) (l : List Env) (v : Value) (h : Heap) (made : Prop) : Prop where
  at' : ∃ (a : Addr) (B : Heap) (a0 : Value), v = .ref a ∧ c.base.StaysIn B ∧ (∀ b o, c.h₀.get? b = some o → b ∉ c.outer.filterMap (·.frame) → B.get? b = some o) ∧ (∀ q ∈ ν, B.get? q.1 = some q.2 ∧ q.1 ≠ c.L ∧ c.h₀.get? q.1 = none) ∧ B.StaysIn h ∧ B.get? a = none ∧ h.FunFrames B l ∧
    ((made ∧ ∃ oe vs, h.get? a = some oe ∧ oe.cls = FaultC ∧ oe.data = .fields vs ∧ vs[1]? = some .none ∧ vs[0]? = some a0) ∨ h.TracedW B a FaultC a0)
  fr : ∃ g m, Fr c.h₀ c.L g m ∧ g.UpToSlots h
/-- raised somewhere in this frame -/
def Rz (c : Cx) (ν : Led) : RX := fun v h => Fly c ν (c.env :: c.outer) v h True
/-- it came from a call -/
def Rt (c : Cx) (ν : Led) : RX := fun v h => Fly c ν (c.env :: c.outer) v h False
theorem Fly.mono {c : Cx} {ν ν' : Led} {l : List Env} {M : Prop} (hs : ∀ p ∈ ν, p ∈ ν') {v : Value} {h : Heap} (x : Fly c ν' l v h M) : Fly c ν l v h M := by
  obtain ⟨⟨a, B, a0, e, hb, h0, hl, r⟩, f⟩ := x
  exact ⟨⟨a, B, a0, e, hb, h0, fun q hq => hl q (hs q hq), r⟩, f⟩
theorem Rz.mono {c : Cx} {ν ν' : Led} (hs : ∀ p ∈ ν, p ∈ ν') {v : Value} {h : Heap} (x : Rz c ν' v h) : Rz c ν v h := Fly.mono hs x
theorem Rt.mono {c : Cx} {ν ν' : Led} (hs : ∀ p ∈ ν, p ∈ ν') {v : Value} {h : Heap} (x : Rt c ν' v h) : Rt c ν v h := Fly.mono hs x
theorem Rt.rz {c : Cx} {ν ν' : Led} (hs : ∀ p ∈ ν, p ∈ ν') {v : Value} {h : Heap} (x : Rt c ν' v h) : Rz c ν v h := by
  obtain ⟨⟨a, B, a0, e, hb, h0, hl, k1, k2, k3, k4⟩, f⟩ := x
  exact ⟨⟨a, B, a0, e, hb, h0, fun q hq => hl q (hs q hq), k1, k2, k3, .inr (k4.resolve_left fun q => q.1)⟩, f⟩
theorem Rz.leave {c : Cx} {ν : Led} {v : Value} {s : Shared} {E : Value → Shared → Prop} {Q : Unit → Shared → Prop} (x : Rz c ν v s.heap) (hQ : ∀ h', Fly c ν c.outer v h' False → Q () { s with heap := h' }) :
    wpAny (model Pg c.w) c.A (leaving c.env v) Q E s := by
  obtain ⟨⟨a, B, a0, rfl, hb, h0, hl, k1, k2, k3, k4⟩, g, m, F, U⟩ := x
  rcases k4 with ⟨-, oe, vs, he, hc, hd, h1, ha0⟩ | ht
  · refine wpAny_leaving_firstW c.hA k3 c.hf he k1 k2 hd h1 ha0 fun h' hL => ?_
    obtain ⟨j1, ⟨_, _, j2⟩, j3, j4⟩ := hL
    exact hQ h' ⟨⟨a, B, a0, rfl, hb, h0, hl, j1, k2, j2, .inr (hc ▸ j3)⟩, g, m, F, U.trans j4⟩
  · refine wpAny_leaving_nextW c.hA k3 c.hf ht k1 k2 fun h' hL => ?_
    obtain ⟨j1, ⟨_, _, j2⟩, j3, j4⟩ := hL
    exact hQ h' ⟨⟨a, B, a0, rfl, hb, h0, hl, j1, k2, j2, .inr j3⟩, g, m, F, U.trans j4⟩
theorem fr_self {h₀ h : Heap} {L : Addr} {m : Loc} (F : Fr h₀ L h m) : h₀.get? L = none := by
  cases q : h₀.get? L with
  | none => rfl
  | some o => exact absurd (Nat.lt_of_lt_of_le (Heap.lt_size q) F.above) (Nat.lt_irrefl _)
/-- back in the caller's frame -/
theorem Fly.back {c c' : Cx} {ν : Led} {v : Value} {h : Heap} {m : Loc} (x : Fly c' ν c'.outer v h False) (hb : c'.base = c.base) (ho : c'.outer = c.env :: c.outer) (FG : Fr c.h₀ c.L c'.h₀ m) (hn : ∀ p ∈ ν, p.1 ≠ c.L ∧ c.h₀.get? p.1 = none) : Rt c ν v h := by
  obtain ⟨⟨a, B, a0, e, k0, h0, r⟩, g, m', F, U⟩ := x
  rw [ho] at r h0
  rw [hb] at k0
  obtain ⟨hl, k1, k2, k3, k4⟩ := r
  refine ⟨⟨a, B, a0, e, k0, fun b o q nm => h0 b o (FG.keep b o q) fun hm => ?_, fun q hq => ⟨(hl q hq).1, hn q hq⟩, k1, k2, k3, k4⟩, c'.h₀, m, FG, (Heap.UpToSlots.of_keeps F.keep).trans U⟩
  obtain ⟨env, he, hf⟩ := List.mem_filterMap.mp hm
  rcases List.mem_cons.mp he with rfl | he
  · rw [c.hf] at hf
    obtain rfl := Option.some.inj hf
    rw [fr_self FG] at q; cases q
  · exact nm (List.mem_filterMap.mpr ⟨env, he, hf⟩)

/-- a def of the top without cells is called -/
theorem cev_call {Rs : Result → Shared → Prop} {s : Shared} {f : Addr} {args : List Value} {kw : List (Str × Value)} {n : Nat} {name qual : Str} {params : Arguments} {body : List Stmt} {scope : Scope} {dV kV doc pm cdv ct oc : Value} {an od : Option Addr} {osl : Array (Option Value)} {binds : List (Str × Value)} {Rb : Cx → RX}
    (F : Fr c.h₀ c.L s.heap m) (N : News c.h₀ c.L s.heap ν)
    (hQ : ∀ v ν' h' tk', P v m ν' → Fr c.h₀ c.L h' m → News c.h₀ c.L h' ν' → Rs (.ok (.ret v)) { s with heap := h', toks := tk' }) (hE : ∀ e h' tk', R e h' → Rs (.error e) { s with heap := h', toks := tk' })
    (ho : (fr.heap_1 c.w.params).lookup f = some ⟨oc, od, .func (fnOf name qual params body scope dV kV doc pm an cdv ct), osl⟩) (hcd : codeIn (fr.heap_1 c.w.params) cdv qual = true) (hr : Room c (n + 1))
    (hbind : ∀ s : Shared, c.h₀.StaysIn s.heap → BindsTo s (fnOf name qual params body scope dV kV doc pm an cdv ct) ⟨args, kw⟩ binds) (hloc : ∀ y ∈ binds, scope.names.lookup y.1 = some .local)
    (hck : (scope.isCoroutine, scope.isGenerator, scope.kind) = (false, false, .function)) (hcell : ∀ x ∈ scope.names, x.2 ≠ .cell)
    (h : ∀ c' : Cx, Room c' n → (c'.base = c.base ∧ c'.w = c.w) → c'.env = envOf qual scope c'.L f cdv → EV c' (bnd noLoc binds) ν (execs body (envOf qual scope c'.L f cdv)) (fun fl _ ν' => P (retOf fl) m ν') (Rb c'))
    (hR : (∀ c' e h', Rb c' e h' → False) ∨ ∃ C : Prop, (∀ c' e h', Rb c' e h' → C ∧ Rz c' ν e h') ∧ (C → ∀ e h', Rt c ν e h' → R e h')) :
    codeAny (model Pg c.w) c.A (.call (.ref f) ⟨args, kw⟩) Rs s := by
  obtain ⟨hco, hk'⟩ := Prod.mk.inj hck
  obtain ⟨hgen, hk⟩ := Prod.mk.inj hk'
  have lift : ∀ (s' : Shared) (L' : Addr) (m' : Loc) (ν' : Led), Fr (hideAll s.heap (ν.map (fun x : Addr × Obj => x.1))) L' s'.heap m' → News (hideAll s.heap (ν.map (fun x : Addr × Obj => x.1))) L' s'.heap ν' → Fr c.h₀ c.L s'.heap m ∧ News c.h₀ c.L s'.heap ν' := by
    intro s' L' m' ν' F' N'
    exact (groundX (R := fun _ s' => Fr c.h₀ c.L s'.heap m ∧ News c.h₀ c.L s'.heap ν') c.B F N c.hA c.hf c.hk).2.2.2 .none s' ⟨L', m', ν', F', N', fun a b => ⟨a, b⟩⟩
  obtain ⟨FG, BG, st, -⟩ := groundX (R := fun _ _ => True) c.B F N c.hA c.hf c.hk
  refine codeAny_call_def (fd := fnOf name qual params body scope dV kV doc pm an cdv ct) (body := body) (binds := binds) (Nat.lt_of_le_of_lt (Nat.le_add_right _ _) hr.1) ((c.X.keeps F.keep) _ _ ho) rfl (c.T.nolimit.keeps F.keep) (codeRec_of (c.X.keeps F.keep) hcd) rfl (hbind s F.keep) hcell hloc (fun h₁ hns hk₁ => ?_) hco hgen hk
  let c' : Cx := ⟨c.w, s.heap.objs.size, c.A.deeper (envOf qual scope s.heap.objs.size f cdv), c.A, c.base, hideAll s.heap (ν.map (fun x : Addr × Obj => x.1)), c.env :: c.outer, envOf qual scope s.heap.objs.size f cdv,
    c.p, c.loose, c.mean, c.mg, c.mb, BG, c.X.keeps st, c.T.keeps st, c.Xb, c.Tb, Around.frames_deeper c.hA, rfl, hk, hgen, hco, rfl, rfl, c.hi.keeps st, c.ht, c.hh, c.hgd⟩
  have r' : Room c' n := room_deeper hr
  let E' : Ex c' := ⟨fun e s' => wpAny (model Pg c.w) c'.A (leaving c'.env e) (fun _ s'' => Rs (.error e) s'') (fun e' s'' => Rs (.error e') s'') s', PassesOwn.leaving⟩
  refine h c' r' ⟨rfl, rfl⟩ rfl _ _ E' ⟨bnd_eq binds ▸ hns, fun b o e => hk₁ b o (of_hideAll _ e), Nat.le_of_eq (hideAll_size _ _)⟩ (fun p hp => ⟨hk₁ _ _ (N p hp).1, Nat.ne_of_lt (Heap.lt_size (N p hp).1), hideAll_none _ (List.mem_map_of_mem hp)⟩) (fun fl m' ν' h' tk' hp F' N' => ?_) (fun e h' tk' hx => ?_)
  · obtain ⟨a, b⟩ := lift { s with heap := h', toks := tk' } _ _ _ F' N'
    cases fl <;> exact hQ _ _ _ _ hp a b
  · rcases hR with hR | ⟨C, hR, hR'⟩
    · exact (hR c' e h' hx).elim
    · exact Rz.leave (c := c') (s := { s with heap := h', toks := tk' }) (hR c' e h' hx).2 fun h'' x => hE e h'' tk' (hR' (hR c' e h' hx).1 e h'' (x.back rfl rfl FG fun p hp => (N p hp).2))
theorem ev_call {f : Addr} {args : List Value} {kw : List (Str × Value)} {n : Nat} {name qual : Str} {params : Arguments} {body : List Stmt} {scope : Scope} {dV kV doc pm cdv ct oc : Value} {an od : Option Addr} {osl : Array (Option Value)} {binds : List (Str × Value)} {Rb : RX}
    (ho : (fr.heap_1 c.w.params).lookup f = some ⟨oc, od, .func (fnOf name qual params body scope dV kV doc pm an cdv ct), osl⟩) (hcd : codeIn (fr.heap_1 c.w.params) cdv qual = true) (hr : Room c (n + 1))
    (hbind : ∀ s : Shared, BindsTo s (fnOf name qual params body scope dV kV doc pm an cdv ct) ⟨args, kw⟩ binds) (hloc : ∀ y ∈ binds, scope.names.lookup y.1 = some .local)
    (hck : (scope.isCoroutine, scope.isGenerator, scope.kind) = (false, false, .function)) (hcell : ∀ x ∈ scope.names, x.2 ≠ .cell)
    (h : ∀ c' : Cx, Room c' n → (c'.base = c.base ∧ c'.w = c.w) → EV c' (bnd noLoc binds) ν (execs body (envOf qual scope c'.L f cdv)) (fun fl _ ν' => P (retOf fl) m ν') Rb)
    (hR : ∀ e h', Rb e h' → False) :
    EV c m ν (call (.ref f) args kw) P R :=
  fun s Q E F N hQ hE => wpAny_call (cev_call (Rb := fun _ => Rb) F N (fun v ν' h' tk' hp F' N' => hQ v m ν' h' tk' hp F' N') hE ho hcd hr (fun s _ => hbind s) hloc hck hcell (fun c' r hb _ => h c' r hb) (.inl fun _ => hR))
/-- .. and may raise -/
theorem ev_callR {f : Addr} {args : List Value} {kw : List (Str × Value)} {n : Nat} {name qual : Str} {params : Arguments} {body : List Stmt} {scope : Scope} {dV kV doc pm cdv ct oc : Value} {an od : Option Addr} {osl : Array (Option Value)} {binds : List (Str × Value)}
    (ho : (fr.heap_1 c.w.params).lookup f = some ⟨oc, od, .func (fnOf name qual params body scope dV kV doc pm an cdv ct), osl⟩) (hcd : codeIn (fr.heap_1 c.w.params) cdv qual = true) (hr : Room c (n + 1))
    (hbind : ∀ s : Shared, BindsTo s (fnOf name qual params body scope dV kV doc pm an cdv ct) ⟨args, kw⟩ binds) (hloc : ∀ y ∈ binds, scope.names.lookup y.1 = some .local)
    (hck : (scope.isCoroutine, scope.isGenerator, scope.kind) = (false, false, .function)) (hcell : ∀ x ∈ scope.names, x.2 ≠ .cell)
    (hR : ∀ e h', Rt c ν e h' → R e h')
    (h : ∀ c' : Cx, Room c' n → (c'.base = c.base ∧ c'.w = c.w) → EV c' (bnd noLoc binds) ν (execs body (envOf qual scope c'.L f cdv)) (fun fl _ ν' => P (retOf fl) m ν') (Rz c' ν)) :
    EV c m ν (call (.ref f) args kw) P R :=
  fun s Q E F N hQ hE => wpAny_call (cev_call (Rb := fun c' => Rz c' ν) F N (fun v ν' h' tk' hp F' N' => hQ v m ν' h' tk' hp F' N') hE ho hcd hr (fun s _ => hbind s) hloc hck hcell (fun c' r hb _ => h c' r hb) (.inr ⟨True, fun _ _ _ x => ⟨trivial, x⟩, fun _ => hR⟩))
/-- .. may raise, and if so C holds -/
def Rx (C : Prop) (c : Cx) (ν : Led) : RX := fun e h => C ∧ Rz c ν e h
theorem ev_callX (C : Prop) {f : Addr} {args : List Value} {kw : List (Str × Value)} {n : Nat} {name qual : Str} {params : Arguments} {body : List Stmt} {scope : Scope} {dV kV doc pm cdv ct oc : Value} {an od : Option Addr} {osl : Array (Option Value)} {binds : List (Str × Value)}
    (ho : (fr.heap_1 c.w.params).lookup f = some ⟨oc, od, .func (fnOf name qual params body scope dV kV doc pm an cdv ct), osl⟩) (hcd : codeIn (fr.heap_1 c.w.params) cdv qual = true) (hr : Room c (n + 1))
    (hbind : ∀ s : Shared, BindsTo s (fnOf name qual params body scope dV kV doc pm an cdv ct) ⟨args, kw⟩ binds) (hloc : ∀ y ∈ binds, scope.names.lookup y.1 = some .local)
    (hck : (scope.isCoroutine, scope.isGenerator, scope.kind) = (false, false, .function)) (hcell : ∀ x ∈ scope.names, x.2 ≠ .cell)
    (hR : C → ∀ e h', Rt c ν e h' → R e h')
    (h : ∀ c' : Cx, Room c' n → (c'.base = c.base ∧ c'.w = c.w) → c'.env = envOf qual scope c'.L f cdv → EV c' (bnd noLoc binds) ν (execs body (envOf qual scope c'.L f cdv)) (fun fl _ ν' => P (retOf fl) m ν') (Rx C c' ν)) :
    EV c m ν (call (.ref f) args kw) P R :=
  fun s Q E F N hQ hE => wpAny_call (cev_call (Rb := fun c' => Rx C c' ν) F N (fun v ν' h' tk' hp F' N' => hQ v m ν' h' tk' hp F' N') hE ho hcd hr (fun s _ => hbind s) hloc hck hcell h (.inr ⟨C, fun _ _ _ x => x, hR⟩))
end
end Mine

end
section
namespace Mine
/-- a list's object; a tuple's -/
def LstO (o : Obj) (vs : List Value) : Prop := ∃ n, o = lstO vs n
def TupO (o : Obj) (vs : List Value) : Prop := ∃ n, o = tupO vs n
theorem lstO_mk {vs : List Value} {n : Nat} : LstO (lstO vs n) vs := ⟨n, rfl⟩
theorem tupO_mk {vs : List Value} {n : Nat} : TupO (tupO vs n) vs := ⟨n, rfl⟩
theorem LstO.at {h : Heap} {a : Addr} {o : Obj} {vs : List Value} (L : LstO o vs) (e : h.get? a = some o) : h.IsList a vs.toArray := by
  obtain ⟨n, rfl⟩ := L
  exact ⟨_, e, rfl, n, rfl⟩
theorem LstO.isL {h : Heap} {a : Addr} {o : Obj} {vs : List Value} (L : LstO o vs) (e : h.get? a = some o) : h.PlainList a vs.toArray := by
  obtain ⟨n, rfl⟩ := L
  exact ⟨n, e⟩
theorem LstO.cls {o : Obj} {vs : List Value} (L : LstO o vs) : o.cls = .type "list" := by
  obtain ⟨n, rfl⟩ := L
  rfl
theorem LstO.dict {o : Obj} {vs : List Value} (L : LstO o vs) : o.dict = none := by
  obtain ⟨n, rfl⟩ := L
  rfl
theorem TupO.at {h : Heap} {a : Addr} {o : Obj} {vs : List Value} (L : TupO o vs) (e : h.get? a = some o) : h.IsTuple a vs.toArray := by
  obtain ⟨n, rfl⟩ := L
  exact ⟨_, e, rfl, n, rfl⟩
theorem TupO.at' {h : Heap} {a : Addr} {o : Obj} {vs : List Value} (L : TupO o vs) (e : h.get? a = some o) : IsTup h a vs.toArray := by
  obtain ⟨n, rfl⟩ := L
  exact ⟨_, e, rfl, n, rfl⟩
theorem LstO.inj {o : Obj} {vs vs' : List Value} (a : LstO o vs) (b : LstO o vs') : vs = vs' := by
  obtain ⟨n, rfl⟩ := a
  obtain ⟨n', e'⟩ := b
  cases e'
  rfl
theorem TupO.inj {o : Obj} {vs vs' : List Value} (a : TupO o vs) (b : TupO o vs') : vs = vs' := by
  obtain ⟨n, rfl⟩ := a
  obtain ⟨n', e'⟩ := b
  cases e'
  rfl
/-- a list's object put anew -/
theorem lst_up {h : Heap} {l : Addr} {vs ws : List Value} {n : Nat} {f : Array Value → Array Value} (e : h.get? l = some (lstO vs n)) (hf : f vs.toArray = ws.toArray) : ∃ o', (h.update l (Obj.mapSeq f)).get? l = some o' ∧ LstO o' ws := by
  have q : Obj.mapSeq f (lstO vs n) = lstO ws (if (f vs.toArray).size == vs.toArray.size then n else n + 1) := by
    show (⟨_, _, .seq (f vs.toArray) _, _⟩ : Obj) = ⟨_, _, .seq ws.toArray _, _⟩
    rw [hf]
  exact ⟨_, (Heap.get?_update_self _ e (by rw [q]; rfl)).trans (by rw [q]), _, rfl⟩
abbrev kSub (c : Cx) (value slice : Expr) (P : Value → Loc → Led → Prop) (R : RX) : Value → Value → Loc → Led → Prop := fun o i m ν => EV c m ν (subscriptTail value slice o i) P R
section
variable {α β : Type} {c : Cx} {m : Loc} {ν : Led} {R : RX} {env : Env}
variable {P : Value → Loc → Led → Prop} {PB : Bool → Loc → Led → Prop} {PF : Flow → Loc → Led → Prop} {PU : Unit → Loc → Led → Prop} {PL : List Value → Loc → Led → Prop}

theorem ev_Sub {value slice : Expr} {pos : Pos} (h : EV c m ν (eval value env) (kE c env slice (kSub c value slice P R) R) R) : EV c m ν (eval (.Subscript value slice pos) env) P R :=
  fun s Q E F N hQ hE => Subscript_ (h s _ E F N (fun v m₁ ν₁ h₁ k₁ x F₁ N₁ => x _ _ E F₁ N₁ (fun _ m₂ ν₂ h₂ k₂ y F₂ N₂ => y _ Q E F₂ N₂ hQ hE) hE) hE)
/-- a list's item at a place that lies in it -/
theorem ev_itemL {value slice : Expr} {l : Addr} {o : Obj} {vs : List Value} {k : Int} {u : Tok} {x : Value} (hm : (l, o) ∈ ν := by walk_at "zmem") (ho : LstO o vs := by walk_at "zo") (h0 : 0 ≤ k := by decide) (hhi : k < 2 ^ 63 := by decide) (hx : vs[k.toNat]? = some x := by exact rfl) (h : P x m ν)
    (hs : subscripted slice false (.ref l) (.int k u) = operate [.ref l, .int k u] (getItem (.ref l) (.int k u)) := by with_unfolding_all rfl) : EV c m ν (subscriptTail value slice (.ref l) (.int k u)) P R :=
  fun s Q E F N hQ hE => tail_any (ho.at (N.get hm)).typeIs slot_list_getitem.lookup (wpAny_getItem_list (ho.at (N.get hm)) h0 hhi (by simpa using hx) (hQ _ _ _ s.heap s.toks h F N)) hs
theorem ev_itemT {value slice : Expr} {l : Addr} {o : Obj} {vs : List Value} {k : Int} {u : Tok} {j : Nat} {x : Value} (hm : (l, o) ∈ ν) (ho : TupO o vs) (hlo : -(2 ^ 63) ≤ k) (hhi : k < 2 ^ 63) (hj : seqIndex? k vs.length = some j) (hx : vs[j]? = some x) (h : P x m ν)
    (hs : subscripted slice false (.ref l) (.int k u) = operate [.ref l, .int k u] (getItem (.ref l) (.int k u)) := by with_unfolding_all rfl) : EV c m ν (subscriptTail value slice (.ref l) (.int k u)) P R :=
  fun s Q E F N hQ hE => item_tupleT (ho.at' (N.get hm)) hlo hhi hj hx (hQ _ _ _ s.heap s.toks h F N) hs

/-- one object of the ledger is turned -/
theorem ev_mut {t : Sem α} {P : α → Loc → Led → Prop} {v : α} {a : Addr} {o : Obj} {ν₁ : Led} (Good : Obj → Prop) (hν : ∀ p ∈ (a, o) :: ν₁, p ∈ ν) (hne : ∀ p ∈ ν₁, p.1 ≠ a)
    (ht : ∀ s (Q : α → Shared → Prop) E, s.heap.get? a = some o → (∀ h' tk' o', h'.get? a = some o' → Good o' → Heap.SameBut a s.heap h' → Q v { s with heap := h', toks := tk' }) → wpAny (model Pg c.w) c.A t Q E s)
    (h : ∀ o', Good o' → P v m ((a, o') :: ν₁)) : EV c m ν t P R := by
  intro s Q E F N hQ hE
  have N₁ : News c.h₀ c.L s.heap ((a, o) :: ν₁) := fun p hp => N p (hν p hp)
  refine ht s Q E.f (N₁ (a, o) (.head _)).1 fun h' tk' o' e g hs => ?_
  obtain ⟨F', N'⟩ := news_put F N₁ hne e hs
  exact hQ _ _ _ h' tk' (h o' g) F' N'
theorem ite_D {p : Prop} [Decidable p] {a b : Prop} (h : p → a) (h' : ¬ p → b) : if decide p = true then a else b := by
  by_cases q : p
  · simpa [q] using h q
  · simpa [q] using h' q
theorem ite_T {a b : Prop} (h : a) : if true = true then a else b := by rw [if_pos rfl]; exact h
theorem ite_F {a b : Prop} (h : b) : if false = true then a else b := by rw [if_neg Bool.false_ne_true]; exact h
end
end Mine

end
section
namespace Mine
section
variable {α β : Type} {c : Cx} {m : Loc} {ν : Led} {R : RX} {env : Env}
variable {P : Value → Loc → Led → Prop} {PB : Bool → Loc → Led → Prop} {PF : Flow → Loc → Led → Prop} {PU : Unit → Loc → Led → Prop} {PO : Option Value → Loc → Led → Prop}

def LIt (o : Obj) (l : Addr) (i : Nat) : Prop := o.cls = .type "list_iterator" ∧ o.data = .fields #[.ref l, .int i 0]
def TIt (o : Obj) (l : Addr) (i : Nat) : Prop := o.cls = .type "tuple_iterator" ∧ o.data = .fields #[.ref l, .int i 0]
def RIt (o : Obj) (x left : Int) : Prop := o = { cls := .type "range_iterator", dict := none, data := .fields #[rawInt x, rawInt left, rawInt 1], slots := #[] }

theorem news_ext {h₀ h h' : Heap} {L a : Addr} {m : Loc} {ν₁ : Led} (F : Fr h₀ L h m) (N₁ : News h₀ L h ν₁) (haL : a ≠ L) (h0 : h₀.get? a = none) (hne : ∀ p ∈ ν₁, p.1 ≠ a) (he : Heap.ExtBut a h h') : Fr h₀ L h' m ∧ News h₀ L h' ν₁ :=
  ⟨⟨F.ns.extBut he (Ne.symm haL), fun b o e => he b o (fun q => by rw [q, h0] at e; cases e) (F.keep b o e), F.above⟩, fun p hp => ⟨he _ _ (hne p hp) (N₁ p hp).1, (N₁ p hp).2⟩⟩

/- an iterator is made -/
theorem ev_iterL {l : Addr} {o : Obj} {vs : List Value} (hm : (l, o) ∈ ν) (ho : LstO o vs) (h : ∀ it oi, Above it ν → LIt oi l 0 → P (.ref it) m ((it, oi) :: ν)) : EV c m ν (pyIter (.ref l)) P R :=
  fun s Q E F N hQ hE => wpAny_pyIter_list (ho.at (N.get hm)) (hQ _ m _ _ s.toks (h s.heap.objs.size _ (fun p hp => Heap.lt_size (N p hp).1) ⟨rfl, rfl⟩) (F.push _) (N.push F _ rfl))
theorem ev_iterT {l : Addr} {o : Obj} {vs : List Value} (hm : (l, o) ∈ ν) (ho : TupO o vs) (h : ∀ it oi, Above it ν → TIt oi l 0 → P (.ref it) m ((it, oi) :: ν)) : EV c m ν (pyIter (.ref l)) P R :=
  fun s Q E F N hQ hE => wpAny_pyIter_tuple (ho.at (N.get hm)) (hQ _ m _ _ s.toks (h s.heap.objs.size _ (fun p hp => Heap.lt_size (N p hp).1) ⟨rfl, rfl⟩) (F.push _) (N.push F _ rfl))
theorem small1 {n : Int} (h0 : 0 ≤ n) (h1 : n < 2 ^ 40) : Builtin.Range.small 0 n 1 = true ∧ Builtin.Range.rangeSize 0 n 1 = n := by
  have e : Builtin.Range.rangeSize 0 n 1 = n := by unfold Builtin.Range.rangeSize; simp; omega
  refine ⟨?_, e⟩
  unfold Builtin.Range.small
  rw [e]
  simp [Builtin.Range.rangeFitsLong]
  omega
/-- range(n) walked at once -/
theorem ev_range1 {n : Int} {t : Tok} (h : ∀ r t' u, Above r ν → P (.ref r) m ((r, { cls := .type "range", dict := none, data := .fields #[.int 0 t', .int n t, .int 1 u], slots := #[] }) :: ν)) : EV c m ν (call (.type "range") [.int n t]) P R :=
  fun s Q E F N hQ hE => call_range_1 (hQ _ m _ _ _ (h s.heap.objs.size _ _ (fun p hp => Heap.lt_size (N p hp).1)) (F.push _) (N.push F _ rfl))
theorem ev_iterR {r : Addr} {n : Int} {t t' u : Tok} (hm : (r, { cls := .type "range", dict := none, data := .fields #[.int 0 t', .int n t, .int 1 u], slots := #[] }) ∈ ν) (h0 : 0 ≤ n) (h1 : n < 2 ^ 40) (h : ∀ it oi, Above it ν → RIt oi 0 n → P (.ref it) m ((it, oi) :: ν)) : EV c m ν (pyIter (.ref r)) P R :=
  fun s Q E F N hQ hE => wpAny_pyIter_range (N.get hm) (small1 h0 h1).1 (hQ _ m _ _ s.toks (h s.heap.objs.size _ (fun p hp => Heap.lt_size (N p hp).1) (by unfold RIt; rw [(small1 h0 h1).2])) (F.push _) (N.push F _ rfl))
/- an iterator is asked -/
theorem ev_nextL {it l : Addr} {oi o : Obj} {i : Nat} {vs : List Value} {x : Value} {ν₁ : Led} (hi : LIt oi l i) (hm : (l, o) ∈ ν₁) (ho : LstO o vs) (hx : vs[i]? = some x) (hν : ∀ p ∈ (it, oi) :: ν₁, p ∈ ν) (hne : ∀ p ∈ ν₁, p.1 ≠ it)
    (h : ∀ oi', LIt oi' l (i + 1) → PO (some x) m ((it, oi') :: ν₁)) : EV c m ν (pyNext (.ref it)) PO R := by
  intro s Q E F N hQ hE
  have N₁ : News c.h₀ c.L s.heap ((it, oi) :: ν₁) := fun p hp => N p (hν p hp)
  refine wpAny_pyNext_list_item ⟨oi, (N₁ _ (.head _)).1, hi.1, hi.2⟩ (ho.at (N₁ _ (.tail _ hm)).1) (by simpa using hx) fun h' hit hs => ?_
  obtain ⟨o', e, h1, h2⟩ := hit
  obtain ⟨F', N'⟩ := news_put F N₁ hne e hs
  exact hQ _ _ _ h' s.toks (h o' ⟨h1, h2⟩) F' N'
theorem ev_endL {it l : Addr} {oi o : Obj} {i : Nat} {vs : List Value} {ν₁ : Led} (hi : LIt oi l i) (hm : (l, o) ∈ ν₁) (ho : LstO o vs) (hx : vs[i]? = none) (hν : ∀ p ∈ (it, oi) :: ν₁, p ∈ ν) (hne : ∀ p ∈ ν₁, p.1 ≠ it)
    (h : PO none m ν₁) : EV c m ν (pyNext (.ref it)) PO R := by
  intro s Q E F N hQ hE
  have N₁ : News c.h₀ c.L s.heap ((it, oi) :: ν₁) := fun p hp => N p (hν p hp)
  refine wpAny_pyNext_list_end c.hh ⟨oi, (N₁ _ (.head _)).1, hi.1, hi.2⟩ (ho.at (N₁ _ (.tail _ hm)).1) (by simpa using hx) fun h' he => ?_
  obtain ⟨F', N'⟩ := news_ext F (fun p hp => N₁ p (.tail _ hp)) (N₁ _ (.head _)).2.1 (N₁ _ (.head _)).2.2 hne he
  exact hQ _ _ _ h' s.toks h F' N'
theorem ev_nextT {it l : Addr} {oi o : Obj} {i : Nat} {vs : List Value} {x : Value} {ν₁ : Led} (hi : TIt oi l i) (hm : (l, o) ∈ ν₁) (ho : TupO o vs) (hx : vs[i]? = some x) (hν : ∀ p ∈ (it, oi) :: ν₁, p ∈ ν) (hne : ∀ p ∈ ν₁, p.1 ≠ it)
    (h : ∀ oi', TIt oi' l (i + 1) → PO (some x) m ((it, oi') :: ν₁)) : EV c m ν (pyNext (.ref it)) PO R := by
  intro s Q E F N hQ hE
  have N₁ : News c.h₀ c.L s.heap ((it, oi) :: ν₁) := fun p hp => N p (hν p hp)
  refine wpAny_pyNext_tuple_item ⟨oi, (N₁ _ (.head _)).1, hi.1, hi.2⟩ (ho.at (N₁ _ (.tail _ hm)).1) (by simpa using hx) fun h' hit hs => ?_
  obtain ⟨o', e, h1, h2⟩ := hit
  obtain ⟨F', N'⟩ := news_put F N₁ hne e hs
  exact hQ _ _ _ h' s.toks (h o' ⟨h1, h2⟩) F' N'
theorem ev_endT {it l : Addr} {oi o : Obj} {i : Nat} {vs : List Value} {ν₁ : Led} (hi : TIt oi l i) (hm : (l, o) ∈ ν₁) (ho : TupO o vs) (hx : vs[i]? = none) (hν : ∀ p ∈ (it, oi) :: ν₁, p ∈ ν) (hne : ∀ p ∈ ν₁, p.1 ≠ it)
    (h : PO none m ν₁) : EV c m ν (pyNext (.ref it)) PO R := by
  intro s Q E F N hQ hE
  have N₁ : News c.h₀ c.L s.heap ((it, oi) :: ν₁) := fun p hp => N p (hν p hp)
  refine wpAny_pyNext_tuple_end c.hh ⟨oi, (N₁ _ (.head _)).1, hi.1, hi.2⟩ (ho.at (N₁ _ (.tail _ hm)).1) (by simpa using hx) fun h' he => ?_
  obtain ⟨F', N'⟩ := news_ext F (fun p hp => N₁ p (.tail _ hp)) (N₁ _ (.head _)).2.1 (N₁ _ (.head _)).2.2 hne he
  exact hQ _ _ _ h' s.toks h F' N'
theorem ev_nextR {it : Addr} {oi : Obj} {x left : Int} {ν₁ : Led} (hi : RIt oi x left) (hx : 0 < left) (hν : ∀ p ∈ (it, oi) :: ν₁, p ∈ ν) (hne : ∀ p ∈ ν₁, p.1 ≠ it)
    (h : ∀ oi' t, RIt oi' (x + 1) (left - 1) → PO (some (.int x t)) m ((it, oi') :: ν₁)) : EV c m ν (pyNext (.ref it)) PO R := by
  intro s Q E F N hQ hE
  have N₁ : News c.h₀ c.L s.heap ((it, oi) :: ν₁) := fun p hp => N p (hν p hp)
  have e0 := (N₁ _ (.head _)).1
  rw [hi] at e0
  refine wpAny_pyNext_range_item (step := 1) e0 hx fun h' hit hs => ?_
  obtain ⟨F', N'⟩ := news_put F N₁ hne hit hs
  exact hQ _ _ _ h' _ (h _ _ rfl) F' N'
theorem ev_endR {it : Addr} {oi : Obj} {x left : Int} {ν₁ : Led} (hi : RIt oi x left) (hx : left ≤ 0) (hν : ∀ p ∈ (it, oi) :: ν₁, p ∈ ν) (hne : ∀ p ∈ ν₁, p.1 ≠ it)
    (h : PO none m ν₁) : EV c m ν (pyNext (.ref it)) PO R := by
  intro s Q E F N hQ hE
  have N₁ : News c.h₀ c.L s.heap ((it, oi) :: ν₁) := fun p hp => N p (hν p hp)
  have e0 := (N₁ _ (.head _)).1
  rw [hi] at e0
  refine wpAny_pyNext_range_end (step := 1) c.hh e0 hx fun h' he => ?_
  obtain ⟨F', N'⟩ := news_ext F (fun p hp => N₁ p (.tail _ hp)) (N₁ _ (.head _)).2.1 (N₁ _ (.head _)).2.2 hne he
  exact hQ _ _ _ h' s.toks h F' N'

/- loops -/
/-- what may go out of a loop's body -/
def OutOfLoop (c : Cx) (env : Env) (Rb R : RX) : Prop := (∀ e h, Rb e h → False) ∨ (c.env = env ∧ ∀ e h, Rb e h → R e h)
theorem outNoX {c : Cx} {env : Env} {R : RX} : OutOfLoop c env NoX R := .inl fun _ _ h => h
theorem outSame {c : Cx} {env : Env} {R : RX} (he : c.env = env) : OutOfLoop c env R R := .inr ⟨he, fun _ _ h => h⟩
theorem OutOfLoop.out {c : Cx} {env : Env} {Rb R : RX} (x : OutOfLoop c env Rb R) {s : Shared} (E : Ex c) (hE : ∀ e h' tk', R e h' → E.f e { s with heap := h', toks := tk' }) :
    ∃ E' : Ex c, (∀ e h' tk', Rb e h' → E'.f e { s with heap := h', toks := tk' }) ∧ ∀ e s', E'.f e s' → notedBy (model Pg c.w) c.A env (fun e s' => cameBackBy (model Pg c.w) c.A env E.f e s') e s' := by
  rcases x with x | ⟨rfl, x⟩
  · exact ⟨⟨fun _ _ => False, PassesOwn.never⟩, fun e h' _ q => x e h' q, fun _ _ q => q.elim⟩
  · exact ⟨E, fun e h' tk' q => hE e h' tk' (x e h' q), E.ok⟩

def Turned (J : Nat → Loc → Led → Prop) (k : Nat) (PF : Flow → Loc → Led → Prop) : Flow → Loc → Led → Prop
  | .next, m, ν | .cont, m, ν => ∃ k', k' < k ∧ J k' m ν
  | .brk, m, ν => PF .next m ν
  | .ret v, m, ν => PF (.ret v) m ν
def ForTurn (c : Cx) (env : Env) (target : Expr) (it : Value) (body : List Stmt) (J : Nat → Loc → Led → Prop) (k : Nat) (PF : Flow → Loc → Led → Prop) (Rb : RX) : Option Value → Loc → Led → Prop
  | none, m, ν => PF .next m ν
  | some v, m, ν => EV c m ν (letOwnedTupleGo target it v) (fun _ m₁ ν₁ => EV c m₁ ν₁ (assign target env v) (fun _ m₂ ν₂ => EV c m₂ ν₂ (execs body env) (Turned J k PF) Rb) Rb) Rb
theorem ev_For {target iter : Expr} {body : List Stmt} {pos : Pos} {Rb : RX}
    (h : EV c m ν (eval iter env) (fun x m₁ ν₁ => EV c m₁ ν₁ (pyIter x) (fun it m₂ ν₂ => ∃ (J : Nat → Loc → Led → Prop) (n : Nat), J n m₂ ν₂ ∧ ∀ k m₃ ν₃, J k m₃ ν₃ → EV c m₃ ν₃ (pyNext it) (ForTurn c env target it body J k PF Rb) Rb) R) R)
    (hX : OutOfLoop c env Rb R) (hs : ∀ x, foldedSetIterable iter env x = pure x := by intro _; rfl) : EV c m ν (exec (.For target iter body [] pos) env) PF R := by
  intro s Q E F N hQ hE
  refine wpAny_For (h s _ E F N (fun x m₁ ν₁ h₁ k₁ a F₁ N₁ => a _ _ E F₁ N₁ (fun it m₂ ν₂ h₂ k₂ b F₂ N₂ => ?_) hE) hE) hs
  obtain ⟨J, n, j0, turn⟩ := b
  obtain ⟨E', hE', ex⟩ := hX.out E hE
  have up : ∀ {α : Type} {t : Sem α} {Q : α → Shared → Prop} {s' : Shared}, wpAny (model Pg c.w) c.A t Q E'.f s' → wpAny (model Pg c.w) c.A t Q (notedBy (model Pg c.w) c.A env (fun e s' => cameBackBy (model Pg c.w) c.A env E.f e s')) s' := fun h => wpAny_mono h (fun _ _ x => x) ex
  refine codeAny_forLoop_any (fun k s' => ∃ h' tk m' ν', s' = { s with heap := h', toks := tk } ∧ J k m' ν' ∧ Fr c.h₀ c.L h' m' ∧ News c.h₀ c.L h' ν') ?_ n ⟨h₂, k₂, m₂, ν₂, rfl, j0, F₂, N₂⟩
  rintro k s' ⟨h', tk, m', ν', rfl, hj, F', N'⟩
  refine up (turn k m' ν' hj _ _ E' F' N' (fun r m₃ ν₃ h₃ k₃ a F₃ N₃ => ?_) hE')
  cases r with
  | none => exact wpAny_execs_nil (hQ _ _ _ _ _ a F₃ N₃)
  | some v =>
    refine up (a _ _ E' F₃ N₃ (fun _ m₄ ν₄ h₄ k₄ b F₄ N₄ => up (b _ _ E' F₄ N₄ (fun _ m₅ ν₅ h₅ k₅ d F₅ N₅ => up (d _ _ E' F₅ N₅ (fun f m₆ ν₆ h₆ k₆ g F₆ N₆ => ?_) hE')) hE')) hE')
    cases f with
    | next => obtain ⟨k', hk, j'⟩ := g; exact ⟨k', hk, h₆, k₆, m₆, ν₆, rfl, j', F₆, N₆⟩
    | cont => obtain ⟨k', hk, j'⟩ := g; exact ⟨k', hk, h₆, k₆, m₆, ν₆, rfl, j', F₆, N₆⟩
    | brk => exact hQ _ _ _ _ _ g F₆ N₆
    | ret v => exact hQ _ _ _ _ _ g F₆ N₆
theorem ev_While {test : Expr} {body : List Stmt} {pos : Pos} {Rb : RX} (J : Nat → Loc → Led → Prop) (n : Nat) (h0 : J n m ν)
    (turn : ∀ k m₃ ν₃, J k m₃ ν₃ → EV c m₃ ν₃ (isTrue test env (eval test env)) (fun b m₄ ν₄ => if b then EV c m₄ ν₄ (execs body env) (Turned J k PF) Rb else PF .next m₄ ν₄) Rb)
    (hX : OutOfLoop c env Rb R) : EV c m ν (exec (.While test body [] pos) env) PF R := by
  intro s Q E F N hQ hE
  obtain ⟨E', hE', ex⟩ := hX.out E hE
  have up : ∀ {α : Type} {t : Sem α} {Q : α → Shared → Prop} {s' : Shared}, wpAny (model Pg c.w) c.A t Q E'.f s' → wpAny (model Pg c.w) c.A t Q (notedBy (model Pg c.w) c.A env (fun e s' => cameBackBy (model Pg c.w) c.A env E.f e s')) s' := fun h => wpAny_mono h (fun _ _ x => x) ex
  refine wpAny_While (codeAny_whileLoop (fun k s' => ∃ h' tk m' ν', s' = { s with heap := h', toks := tk } ∧ J k m' ν' ∧ Fr c.h₀ c.L h' m' ∧ News c.h₀ c.L h' ν') ?_ n ⟨s.heap, s.toks, m, ν, rfl, h0, F, N⟩)
  rintro k s' ⟨h', tk, m', ν', rfl, hj, F', N'⟩
  refine up (turn k m' ν' hj _ _ E' F' N' (fun b m₃ ν₃ h₃ k₃ a F₃ N₃ => ?_) hE')
  cases b with
  | false => exact wpAny_execs_nil (hQ _ _ _ _ _ a F₃ N₃)
  | true =>
    refine up (a _ _ E' F₃ N₃ (fun f m₆ ν₆ h₆ k₆ g F₆ N₆ => ?_) hE')
    cases f with
    | next => obtain ⟨k', hk, j'⟩ := g; exact ⟨k', hk, h₆, k₆, m₆, ν₆, rfl, j', F₆, N₆⟩
    | cont => obtain ⟨k', hk, j'⟩ := g; exact ⟨k', hk, h₆, k₆, m₆, ν₆, rfl, j', F₆, N₆⟩
    | brk => exact hQ _ _ _ _ _ g F₆ N₆
    | ret v => exact hQ _ _ _ _ _ g F₆ N₆
end
end Mine

end
section
namespace Mine
section
variable {α β : Type} {c : Cx} {m : Loc} {ν : Led} {R : RX} {env : Env}
variable {P : Value → Loc → Led → Prop} {PB : Bool → Loc → Led → Prop} {PF : Flow → Loc → Led → Prop} {PU : Unit → Loc → Led → Prop} {PO : Option Value → Loc → Led → Prop}

/-- the comprehension's tests: none or one -/
def testsOf (ifs : List Expr) (cenv : Env) : Sem Bool := forIn ifs true fun c r => if r = true then do let ok ← isTrue c cenv (eval c cenv); pure (ForInStep.yield ok) else pure (ForInStep.yield r)
theorem ev_tests0 {cenv : Env} (h : PB true m ν) : EV c m ν (testsOf [] cenv) PB R := fun s Q E F N hQ hE => wpAny_pure (hQ _ _ _ s.heap s.toks h F N)
theorem ev_tests1 {cenv : Env} {t : Expr} (h : EV c m ν (isTrue t cenv (eval t cenv)) PB R) : EV c m ν (testsOf [t] cenv) PB R := by
  intro s Q E F N hQ hE
  unfold testsOf
  simp only [List.forIn_cons, List.forIn_nil, if_true]
  refine wpAny_bind (wpAny_bind (h s _ E F N (fun b m₁ ν₁ h₁ k₁ x F₁ N₁ => wpAny_pure (wpAny_pure (hQ _ _ _ _ _ x F₁ N₁))) hE))

def Back (J : Nat → Loc → Led → Prop) (k : Nat) : Loc → Led → Prop := fun m ν => ∃ k', k' < k ∧ J k' m ν
abbrev kApp (c : Cx) (acc : Value) (P : Loc → Led → Prop) (R : RX) : Value → Loc → Led → Prop := fun y m ν => EV c m ν (call (.builtin "list.append") [acc, y]) (fun _ => P) R
abbrev kElt (c : Cx) (cenv : Env) (elt : Expr) (acc : Value) (P : Loc → Led → Prop) (R : RX) : Bool → Loc → Led → Prop := fun ok m ν => if ok then EV c m ν (eval elt cenv) (kApp c acc P R) R else P m ν
def CompTurn (c : Cx) (cenv : Env) (target : Expr) (it : Value) (ifs : List Expr) (elt : Expr) (acc : Value) (J : Nat → Loc → Led → Prop) (k : Nat) (PE : Loc → Led → Prop) (Rb : RX) : Option Value → Loc → Led → Prop
  | none, m, ν => PE m ν
  | some v, m, ν => EV c m ν (letOwnedTupleGo target it v) (fun _ m₁ ν₁ => EV c m₁ ν₁ (assign target cenv v) (fun _ m₂ ν₂ => EV c m₂ ν₂ (testsOf ifs cenv) (kElt c cenv elt acc (Back J k) Rb) Rb) Rb) Rb
/-- behind the comprehension: its own names' dict C is let go -/
def CompPE (C : Addr) (P : Loc → Led → Prop) : Loc → Led → Prop := fun m ν => ∃ oC mC ν₁, NsObj oC mC ∧ (∀ p ∈ (C, oC) :: ν₁, p ∈ ν) ∧ (∀ p ∈ ν₁, p.1 ≠ C) ∧ P m ν₁
def CompIt (c : Cx) (env : Env) (scope : Scope) (cl : List (Str × Addr)) (target : Expr) (ifs : List Expr) (elt : Expr) (P : Value → Loc → Led → Prop) (Rb : RX) : Value → Loc → Led → Prop := fun it m ν =>
  ∀ D C oC, Above D ν → @LT.lt Nat _ D C → NsObj oC (fun _ => none) → EV c m ((C, oC) :: (D, lstO []) :: ν) (pyIter it) (fun it' m' ν' => it' = it ∧ m' = m ∧ ν' = (C, oC) :: (D, lstO []) :: ν) NoX ∧
    ∃ (J : Nat → Loc → Led → Prop) (n : Nat), J n m ((C, oC) :: (D, lstO []) :: ν) ∧ ∀ k m₁ ν₁, J k m₁ ν₁ → EV c m₁ ν₁ (pyNext it) (CompTurn c (compEnvC scope cl C env) target it ifs elt (.ref D) J k (CompPE C (P (.ref D))) Rb) Rb

/-- the exceptional way out of a comprehension -/
def OutOfComp (c : Cx) (env : Env) (scope : Scope) (cl : List (Str × Addr)) (Rb R : RX) : Prop := ∀ e h, Rb e h → False
theorem outCompNoX {scope : Scope} {cl : List (Str × Addr)} {R : RX} : OutOfComp c env scope cl NoX R := fun _ _ h => h

theorem ev_ListComp {elt target iter : Expr} {ifs : List Expr} {scope : Scope} {cl : List (Str × Addr)} {pos : Pos} {Rb : RX}
    (h : EV c m ν (eval iter env) (fun x m₁ ν₁ => EV c m₁ ν₁ (pyIter x) (CompIt c env scope cl target ifs elt P Rb) R) R)
    (hX : OutOfComp c env scope cl Rb R)
    (hclos : closureFor scope env = pure cl) (hcell : ∀ y ∈ scope.names, y.2 ≠ .cell) (hkind : scope.kind = .function)
    (hnames : ∀ x ∈ scope.names, x.2 = .local → scope.names.lookup x.1 = some .local) (hs : ∀ x, foldedSetIterable iter env x = pure x) :
    EV c m ν (eval (.ListComp elt [⟨target, iter, ifs, 0⟩] scope pos) env) P R := by
  intro s Q E F N hQ hE
  show wpAny _ _ (comprehension (.ListComp elt [⟨target, iter, ifs, 0⟩] scope pos) scope env iter.pos (newList []) false (eval iter env)) Q E.f s
  refine wpAny_comprehension_free (g := ⟨target, iter, ifs, 0⟩) (gs := []) rfl hs hclos hkind hnames ?_
  refine h s _ E F N (fun x m₁ ν₁ h₁ k₁ a F₁ N₁ => a _ _ E F₁ N₁ (fun it m₂ ν₂ h₂ k₂ b F₂ N₂ => ?_) hE) hE
  refine wpAny_newObj_type (wpAny_newFunctionEnv hcell (by intro y hy; simp at hy) (fun h₃ hns hsb => ?_) hkind)
  dsimp only at hns hsb ⊢
  generalize hH : h₂.push { cls := .type "list", dict := none, data := .seq ([] : List Value).toArray } = H at hns hsb ⊢
  have hD : H.objs.size = h₂.objs.size + 1 := by rw [← hH, Heap.size_push]
  obtain ⟨oC, heC, hoC⟩ := ns_obj hns
  have hDC : h₂.objs.size < H.objs.size := by rw [hD]; exact Nat.lt_succ_self _
  have old : ∀ b o, H.get? b = some o → h₃.get? b = some o := fun b o e => hsb.extBut b o (Nat.ne_of_lt (Heap.lt_size e)) (Heap.get?_push_of_some _ e)
  have FH : Fr c.h₀ c.L H m₂ := hH ▸ F₂.push _
  have NH : News c.h₀ c.L H ((h₂.objs.size, lstO []) :: ν₂) := hH ▸ N₂.push F₂ _ rfl
  have F₃ : Fr c.h₀ c.L h₃ m₂ := FH.keeps old
  have N₃ : News c.h₀ c.L h₃ ((H.objs.size, oC) :: (h₂.objs.size, lstO []) :: ν₂) := by
    intro p hp
    rcases List.mem_cons.mp hp with rfl | hp
    · refine ⟨heC, Nat.ne_of_gt FH.ns.lt, ?_⟩
      cases hq : c.h₀.get? H.objs.size with
      | none => rfl
      | some o' => exact absurd (Heap.lt_size (FH.keep _ _ hq)) (Nat.lt_irrefl _)
    · exact ⟨old _ _ (NH p hp).1, (NH p hp).2⟩
  obtain ⟨self, J, n, j0, turn⟩ := b h₂.objs.size H.objs.size oC (fun p hp => Heap.lt_size (N₂ p hp).1) hDC hoC
  let E' : Ex c := ⟨fun _ _ => False, PassesOwn.never⟩
  have up : ∀ {α : Type} {t : Sem α} {Q : α → Shared → Prop} {X : Value → Shared → Prop} {s' : Shared}, wpAny (model Pg c.w) c.A t Q E'.f s' → wpAny (model Pg c.w) c.A t Q X s' := fun h => wpAny_mono h (fun _ _ x => x) (fun _ _ x => x.elim)
  have hE' : ∀ (s : Shared) e h' tk', Rb e h' → E'.f e { s with heap := h', toks := tk' } := fun s e h' tk' x => hX e h' x
  have loop : ∀ s₃ : Shared, (∃ h' tk, s₃ = { s with heap := h', toks := tk } ∧ Fr c.h₀ c.L h' m₂ ∧ News c.h₀ c.L h' ((H.objs.size, oC) :: (h₂.objs.size, lstO []) :: ν₂)) →
      codeAny (model Pg c.w) c.A (.compLoop (.ListComp elt [⟨target, iter, ifs, 0⟩] scope pos) 0 it (.ref h₂.objs.size) (compEnvC scope cl H.objs.size env)) (compPost (model Pg c.w) c.A E.f none Q (.ref h₂.objs.size) H.objs.size) s₃ := by
    rintro s₃ ⟨h', tk, rfl, F', N'⟩
    refine codeAny_loop rfl (fun k s' => ∃ h' tk m' ν', s' = { s with heap := h', toks := tk } ∧ J k m' ν' ∧ Fr c.h₀ c.L h' m' ∧ News c.h₀ c.L h' ν') (fun k s' hI => ?_) n ⟨h', tk, m₂, _, rfl, j0, F', N'⟩
    obtain ⟨h', tk, m', ν', rfl, hj, F', N'⟩ := hI
    show wpAny _ c.A ((compTurn (.ListComp elt [⟨target, iter, ifs, 0⟩] scope pos) 0 it (.ref h₂.objs.size) (compEnvC scope cl H.objs.size env)).onRaise (fun x => do noteFrame x (compEnvC scope cl H.objs.size env); theTreesLotGoes x)) _ _ _
    refine wpAny_noted ?_
    rw [compTurn_list]
    refine wpAny_bind (wpAny_standAt (wpAny_bind (up (turn k m' ν' hj _ _ E' F' N' (fun r m₄ ν₄ h₄ k₄ g F₄ N₄ => ?_) (hE' _)))))
    cases r with
    | none =>
      refine wpAny_pure ?_
      obtain ⟨oC', mC, ν₆, g1, g2, g3, g4⟩ := g
      have M := N₄ _ (g2 _ (.head _))
      refine ⟨mC, g1.ns M.1, fun h' hs' => ?_⟩
      obtain ⟨F'', N''⟩ := news_ext F₄ (fun p hp => N₄ p (g2 _ (.tail _ hp))) M.2.1 M.2.2 g3 hs'.extBut
      exact hQ _ _ _ _ _ g4 F'' N''
    | some v =>
      refine wpAny_bind (up (g _ _ E' F₄ N₄ (fun _ m₅ ν₅ h₅ k₅ g₅ F₅ N₅ => ?_) (hE' _)))
      refine wpAny_bind (up (g₅ _ _ E' F₅ N₅ (fun _ m₆ ν₆ h₆ k₆ g₆ F₆ N₆ => ?_) (hE' _)))
      refine wpAny_bind (up (g₆ _ _ E' F₆ N₆ (fun ok m₇ ν₇ h₇ k₇ g₇ F₇ N₇ => ?_) (hE' _)))
      cases ok with
      | false =>
        refine wpAny_pure ?_
        obtain ⟨k', hk, j'⟩ := g₇
        exact ⟨rfl, k', hk, h₇, k₇, m₇, ν₇, rfl, j', F₇, N₇⟩
      | true =>
        refine wpAny_bind (wpAny_bind (up (g₇ _ _ E' F₇ N₇ (fun y m₈ ν₈ h₈ k₈ g₈ F₈ N₈ => wpAny_bind (up (g₈ _ _ E' F₈ N₈ (fun _ m₉ ν₉ h₉ k₉ g₉ F₉ N₉ => wpAny_pure (wpAny_pure ?_)) (hE' _)))) (hE' _))))
        obtain ⟨k', hk, j'⟩ := g₉
        exact ⟨rfl, k', hk, h₉, k₉, m₉, ν₉, rfl, j', F₉, N₉⟩
  refine codeAny_compStart_list (loop _ ⟨h₃, _, rfl, F₃, N₃⟩) (up (self _ _ E' F₃ N₃ (fun it' m₄ ν₄ h₄ k₄ g F₄ N₄ => ?_) (fun _ _ _ z => z.elim)))
  obtain ⟨rfl, rfl, rfl⟩ := g
  exact loop _ ⟨h₄, k₄, rfl, F₄, N₄⟩

theorem ev_selfL {it l : Addr} {oi : Obj} {i : Nat} (hm : (it, oi) ∈ ν) (hi : LIt oi l i) (h : P (.ref it) m ν) : EV c m ν (pyIter (.ref it)) P R :=
  fun s Q E F N hQ hE => wpAny_pyIter_listiter (i := i) (l := l) ⟨oi, N.get hm, hi.1, hi.2⟩ (hQ _ _ _ s.heap s.toks h F N)
theorem ev_selfT {it l : Addr} {oi : Obj} {i : Nat} (hm : (it, oi) ∈ ν) (hi : TIt oi l i) (h : P (.ref it) m ν) : EV c m ν (pyIter (.ref it)) P R :=
  fun s Q E F N hQ hE => wpAny_pyIter_tupleiter (i := i) (t := l) ⟨oi, N.get hm, hi.1, hi.2⟩ (hQ _ _ _ s.heap s.toks h F N)
theorem ev_selfR {it : Addr} {oi : Obj} {x left : Int} (hm : (it, oi) ∈ ν) (hi : RIt oi x left) (h : P (.ref it) m ν) : EV c m ν (pyIter (.ref it)) P R :=
  fun s Q E F N hQ hE => wpAny_pyIter_rangeiter (x := x) (left := left) (step := 1) (by have e := N.get hm; rw [hi] at e; exact e) (hQ _ _ _ s.heap s.toks h F N)

/-- names of a comprehension's own dict -/
theorem ev_localC {x : Str} {pos : Pos} {v : Value} {C : Addr} {oC : Obj} {mC : Loc} (hm : (C, oC) ∈ ν := by walk_at "zmem") (hC : NsObj oC mC := by assumption) (hv : mC x = some v := by walk_at "zlk") (h : P v m ν) (hL : env.locals = C := by with_unfolding_all rfl) (hk : env.scope.kind = .function := by with_unfolding_all rfl) (hx : env.kindOf x = some .local := by with_unfolding_all rfl)
    (hd : (x == ("__debug__" : Str)) = false := by decide) : EV c m ν (eval (.Name x pos) env) P R :=
  fun s Q E F N hQ hE => wpAny_Name (wpAny_loadName_local hk hx (hL ▸ hC.ns (N.get hm)) hv (hQ _ _ _ s.heap s.toks h F N)) hd
theorem ev_storeC {x : Str} {v : Value} {C : Addr} {oC : Obj} {mC : Loc} {ν₁ : Led} (hC : NsObj oC mC := by assumption) (hν : ∀ p ∈ (C, oC) :: ν₁, p ∈ ν) (hne : ∀ p ∈ ν₁, p.1 ≠ C := by walk_at "zne") (h : ∀ oC', NsObj oC' (upd mC x v) → PU () m ((C, oC') :: ν₁)) (hL : env.locals = C := by with_unfolding_all rfl) (hk : env.scope.kind = .function := by with_unfolding_all rfl) (hx : env.kindOf x = some .local := by with_unfolding_all rfl) :
    EV c m ν (storeName env x v) PU R :=
  ev_mut (fun o' => NsObj o' (upd mC x v)) hν hne (fun s Q E e hQ => wpAny_storeName_local hx (hL ▸ hC.ns e) (fun h' hn hs => by
    obtain ⟨o', e', hn'⟩ := ns_obj hn
    exact hQ h' _ o' (hL ▸ e') hn' (hL ▸ hs)) (by rw [hk]; rfl)) h
theorem ev_assignName {x : Str} {pos : Pos} {v : Value} (h : EV c m ν (storeName env x v) PU R) : EV c m ν (assign (.Name x pos) env v) PU R :=
  fun s Q E F N hQ hE => wpAny_assign_Name (h s Q E F N hQ hE)
theorem ev_goName {x : Str} {pos : Pos} {it v : Value} (h : PU () m ν) : EV c m ν (letOwnedTupleGo (.Name x pos) it v) PU R := ev_pure h
theorem ev_append {l : Addr} {o : Obj} {vs : List Value} {x : Value} {ν₁ : Led} (ho : LstO o vs) (hν : ∀ p ∈ (l, o) :: ν₁, p ∈ ν) (hne : ∀ p ∈ ν₁, p.1 ≠ l) (hsz : vs.length ≤ sizeLine) (h : ∀ o', LstO o' (vs ++ [x]) → P .none m ((l, o') :: ν₁)) :
    EV c m ν (call (.builtin "list.append") [.ref l, x]) P R :=
  ev_mut (fun o' => LstO o' (vs ++ [x])) hν hne (fun s Q E e hQ => wpAny_list_append_plain (ho.isL e) (fun h' hl hs => by
    obtain ⟨n, e'⟩ := hl
    exact hQ h' s.toks _ e' ⟨n, by rw [List.push_toArray]⟩ hs) (by simpa using hsz)) h
end
end Mine

end
section
namespace Mine
abbrev kCall (c : Cx) (env : Env) (pos : Pos) (args : List Expr) (P : Value → Loc → Led → Prop) (R : RX) : Value → Loc → Led → Prop := fun f m ν => EV c m ν (callWith pos f [] (backTo pos (starEach args env)) []) P R
abbrev kArgs (c : Cx) (f : Value) (first : List Value) (P : Value → Loc → Led → Prop) (R : RX) : List Value → Loc → Led → Prop := fun vs m ν => EV c m ν (call f (first ++ vs)) P R
abbrev kA0 (c : Cx) (f : Value) (P : Value → Loc → Led → Prop) (R : RX) : List Value → Loc → Led → Prop := fun vs m ν => EV c m ν (call f vs) P R
abbrev kA1 (c : Cx) (f x : Value) (P : Value → Loc → Led → Prop) (R : RX) : List Value → Loc → Led → Prop := fun vs m ν => EV c m ν (call f (x :: vs)) P R
abbrev kMeth (c : Cx) (env : Env) (pos : Pos) (args : List Expr) (P : Value → Loc → Led → Prop) (R : RX) : Value × List Value → Loc → Led → Prop := fun fx m ν => EV c m ν (callWith pos fx.1 fx.2 (backTo pos (starEach args env)) []) P R
abbrev kGetM (c : Cx) (env : Env) (name : Str) (pl : Sem Bool) (pos : Pos) (args : List Expr) (P : Value → Loc → Led → Prop) (R : RX) : Value → Loc → Led → Prop := fun ov m ν => EV c m ν (getMethod ov name pl) (kMeth c env pos args P R) R
abbrev kGetA (c : Cx) (attr : Str) (P : Value → Loc → Led → Prop) (R : RX) : Value → Loc → Led → Prop := fun o m ν => EV c m ν (getAttr o attr true) P R
section
variable {α β : Type} {c : Cx} {m : Loc} {ν : Led} {R : RX} {env : Env}
variable {P : Value → Loc → Led → Prop} {PB : Bool → Loc → Led → Prop} {PF : Flow → Loc → Led → Prop} {PU : Unit → Loc → Led → Prop} {PO : Option Value → Loc → Led → Prop} {PM : Value × List Value → Loc → Led → Prop}

theorem ev_Call {func : Expr} {args : List Expr} {pos : Pos} (h : EV c m ν (eval func env) (kCall c env pos args P R) R) (he : eval (.Call func args [] pos) env = (do callWith pos (← eval func env) [] (backTo pos (starEach args env)) (backToKw pos (keywordEach [] env))) := by with_unfolding_all rfl) : EV c m ν (eval (.Call func args [] pos) env) P R :=
  fun s Q E F N hQ hE => Call_ (h s _ E F N (fun v m₁ ν₁ h₁ k₁ x F₁ N₁ => x _ Q E F₁ N₁ hQ hE) hE) he
theorem ev_CallM {o : Expr} {name : Str} {apos pos : Pos} {args : List Expr} {pl : Sem Bool} (h : EV c m ν (eval o env) (kGetM c env name pl pos args P R) R)
    (he : eval (.Call (.Attribute o name apos) args [] pos) env = (do let ov ← eval o env; standAt apos.atName; let (f, first) ← holding [ov] (getMethod ov name pl); callWith pos f first (backTo pos (starEach args env)) []) := by with_unfolding_all rfl) : EV c m ν (eval (.Call (.Attribute o name apos) args [] pos) env) P R :=
  fun s Q E F N hQ hE => MethodCall_ (h s _ E F N (fun v m₁ ν₁ h₁ k₁ x F₁ N₁ => x _ _ E F₁ N₁ (fun v m₁ ν₁ h₁ k₁ x F₁ N₁ => x _ Q E F₁ N₁ hQ hE) hE) hE) he
theorem ev_cwF {f : Addr} {first : List Value} {e : Expr} {rest : List Expr} {pos : Pos} (hk : keepIn (fr.heap_1 c.w.params) (.ref f) = true) (h : EV c m ν (spliced (backTo pos (starEach (e :: rest) env))) (kArgs c (.ref f) first P R) R)
    (he : starEach (e :: rest) env = (false, eval e env) :: starEach rest env) (hplain : (backTo pos (starEach rest env)).any (·.1) = false) : EV c m ν (callWith pos (.ref f) first (backTo pos (starEach (e :: rest) env)) []) P R :=
  fun s Q E F N hQ hE => callWith_K c.X hk (h s _ E F N (fun v m₁ ν₁ h₁ k₁ x F₁ N₁ => ⟨c.X.keeps F₁.keep, x _ Q E F₁ N₁ hQ hE⟩) hE) he hplain
theorem ev_cwB {id : String} {first : List Value} {e : Expr} {rest : List Expr} {pos : Pos} (h : EV c m ν (spliced (backTo pos (starEach (e :: rest) env))) (kArgs c (.builtin id) first P R) R)
    (he : starEach (e :: rest) env = (false, eval e env) :: starEach rest env) (hplain : (backTo pos (starEach (e :: rest) env)).any (·.1) = false) : EV c m ν (callWith pos (.builtin id) first (backTo pos (starEach (e :: rest) env)) []) P R :=
  fun s Q E F N hQ hE => callWith_builtin hplain (by
    have := h s _ E F N (fun v m₁ ν₁ h₁ k₁ x F₁ N₁ => x _ Q E F₁ N₁ hQ hE) hE
    rw [he] at this ⊢
    exact evalArgs_plain this)
theorem ev_cwB0 {id : String} {first : List Value} {pos : Pos} (h : EV c m ν (call (.builtin id) (first ++ [])) P R) : EV c m ν (callWith pos (.builtin id) first (backTo pos (starEach [] env)) []) P R :=
  fun s Q E F N hQ hE => callWith_builtin rfl (evalArgs_nil3 (h s Q E F N hQ hE))
theorem ev_cwT {T : String} {e : Expr} {rest : List Expr} {pos : Pos} (h : EV c m ν (spliced (backTo pos (starEach (e :: rest) env))) (kArgs c (.type T) [] P R) R)
    (he : starEach (e :: rest) env = (false, eval e env) :: starEach rest env) (hplain : (backTo pos (starEach rest env)).any (·.1) = false) : EV c m ν (callWith pos (.type T) [] (backTo pos (starEach (e :: rest) env)) []) P R :=
  fun s Q E F N hQ hE => PyProof.Rows.callWith_type1 (h s _ E F N (fun v m₁ ν₁ h₁ k₁ x F₁ N₁ => x _ Q E F₁ N₁ hQ hE) hE) he hplain
theorem ev_cwB_0 {id : String} {e : Expr} {rest : List Expr} {pos : Pos} (h : EV c m ν (spliced (backTo pos (starEach (e :: rest) env))) (kA0 c (.builtin id) P R) R)
    (he : starEach (e :: rest) env = (false, eval e env) :: starEach rest env := by with_unfolding_all rfl) (hplain : (backTo pos (starEach (e :: rest) env)).any (·.1) = false := by with_unfolding_all rfl) : EV c m ν (callWith pos (.builtin id) [] (backTo pos (starEach (e :: rest) env)) []) P R := ev_cwB h he hplain
theorem ev_cwB_1 {id : String} {x : Value} {e : Expr} {rest : List Expr} {pos : Pos} (h : EV c m ν (spliced (backTo pos (starEach (e :: rest) env))) (kA1 c (.builtin id) x P R) R)
    (he : starEach (e :: rest) env = (false, eval e env) :: starEach rest env := by with_unfolding_all rfl) (hplain : (backTo pos (starEach (e :: rest) env)).any (·.1) = false := by with_unfolding_all rfl) : EV c m ν (callWith pos (.builtin id) [x] (backTo pos (starEach (e :: rest) env)) []) P R := ev_cwB h he hplain
theorem ev_cwB0_1 {id : String} {x : Value} {pos : Pos} (h : EV c m ν (call (.builtin id) [x]) P R) : EV c m ν (callWith pos (.builtin id) [x] (backTo pos (starEach [] env)) []) P R := ev_cwB0 h
theorem ev_cwF_0 {f : Addr} {e : Expr} {rest : List Expr} {pos : Pos} (hk : keepIn (fr.heap_1 c.w.params) (.ref f) = true := by k_is) (h : EV c m ν (spliced (backTo pos (starEach (e :: rest) env))) (kA0 c (.ref f) P R) R)
    (he : starEach (e :: rest) env = (false, eval e env) :: starEach rest env := by with_unfolding_all rfl) (hplain : (backTo pos (starEach rest env)).any (·.1) = false := by with_unfolding_all rfl) : EV c m ν (callWith pos (.ref f) [] (backTo pos (starEach (e :: rest) env)) []) P R := ev_cwF hk h he hplain
theorem ev_cwT_0 {T : String} {e : Expr} {rest : List Expr} {pos : Pos} (h : EV c m ν (spliced (backTo pos (starEach (e :: rest) env))) (kA0 c (.type T) P R) R)
    (he : starEach (e :: rest) env = (false, eval e env) :: starEach rest env := by with_unfolding_all rfl) (hplain : (backTo pos (starEach rest env)).any (·.1) = false := by with_unfolding_all rfl) : EV c m ν (callWith pos (.type T) [] (backTo pos (starEach (e :: rest) env)) []) P R := ev_cwT h he hplain
theorem ev_Attr {value : Expr} {attr : Str} {pos : Pos} (h : EV c m ν (eval value env) (kGetA c attr P R) R)
    (he : eval (.Attribute value attr pos) env = (do let o ← eval value env; standAt pos.atName; let r ← holding [o] (getAttr o attr true); letTemporaryGo value o r; pure r) := by with_unfolding_all rfl) : EV c m ν (eval (.Attribute value attr pos) env) P R :=
  fun s Q E F N hQ hE => Attribute_any_ (h s _ E F N (fun v m₁ ν₁ h₁ k₁ x F₁ N₁ => x _ Q E F₁ N₁ hQ hE) hE) he

/- ints, bools -/
theorem ev_neg {a : Int} {t : Tok} (h : ∀ k, P (.int (-a) k) m ν) : EV c m ν (unaryOp .USub (.int a t)) P R := fun s Q E F N hQ hE => PyProof.Rows.neg_int (hQ _ _ _ s.heap _ (h _) F N)
theorem ev_pow {a n : Int} {t u : Tok} (hn : 0 ≤ n) (hn2 : n ≤ 1000000) (ha : a.natAbs < 2 ^ 64) (h : ∀ k, P (.int (a ^ n.toNat) k) m ν) : EV c m ν (binaryOp .Pow (.int a t) (.int n u)) P R := fun s Q E F N hQ hE => PyProof.Rows.pow_int_small hn hn2 ha (hQ _ _ _ s.heap _ (h _) F N)
theorem ev_intB {b : Bool} (h : ∀ k, P (.int (if b then 1 else 0) k) m ν) : EV c m ν (call (.type "int") [.bool b]) P R := fun s Q E F N hQ hE => call_int_bool (hQ _ _ _ s.heap _ (h _) F N)
theorem ev_isiInt {n : Int} {u : Tok} (h : P (.bool true) m ν) : EV c m ν (call (.builtin "isinstance") [.int n u, .type "int"]) P R := fun s Q E F N hQ hE => PySem.IsiPair.int_int (hQ _ _ _ s.heap s.toks h F N)
theorem ev_isNone {v : Value} (h : P (.bool (v == .none)) m ν) : EV c m ν (compareOp .Is v .none) P R := fun s Q E F N hQ hE => is_none (hQ _ _ _ s.heap s.toks h F N)
theorem ev_isSelf {x : Addr} (h : P (.bool true) m ν) : EV c m ν (compareOp .Is (.ref x) (.ref x)) P R := fun s Q E F N hQ hE => wpAny_is_ref_self (hQ _ _ _ s.heap s.toks h F N)
theorem ev_ne {a b : Int} {t u : Tok} (h : P (.bool (a != b)) m ν) : EV c m ν (compareOp .NotEq (.int a t) (.int b u)) P R := fun s Q E F N hQ hE => ne_int (hQ _ _ _ s.heap s.toks h F N)

/- lists, tuples -/
theorem ev_lenL {l : Addr} {o : Obj} {vs : List Value} (hm : (l, o) ∈ ν := by walk_at "zmem") (ho : LstO o vs := by walk_at "zo") (hf : vs.length < 2 ^ 40 := by walk_at "zlen") (h : ∀ k, P (.int vs.length k) m ν) : EV c m ν (call (.builtin "len") [.ref l]) P R :=
  fun s Q E F N hQ hE => PyProof.Rows.len_list (ho.at (N.get hm)) (by simp only [List.size_toArray]; omega) (hQ _ _ _ s.heap _ (by simpa only [List.size_toArray] using h _) F N)
theorem ev_lenT {l : Addr} {o : Obj} {vs : List Value} (hm : (l, o) ∈ ν := by walk_at "zmem") (ho : TupO o vs := by walk_at "zo") (hf : vs.length < 2 ^ 40 := by walk_at "zlen") (h : ∀ k, P (.int vs.length k) m ν) : EV c m ν (call (.builtin "len") [.ref l]) P R :=
  fun s Q E F N hQ hE => PyProof.Rows.len_tuple (ho.at' (N.get hm)) (by simp only [List.size_toArray]; omega) (hQ _ _ _ s.heap _ (by simpa only [List.size_toArray] using h _) F N)
theorem stays_base {c : Cx} {h : Heap} {m : Loc} (F : Fr c.h₀ c.L h m) {l : Addr} {vs : Array Value} (hl : c.base.IsList l vs) : h.IsList l vs :=
  stays_list (fun b o e => F.keep b o (c.B.stays b o e)) hl
theorem ev_itemBase {value slice : Expr} {l : Addr} {vs : List Value} {k : Int} {u : Tok} {x : Value} (hl : c.base.IsList l vs.toArray) (h0 : 0 ≤ k) (hhi : k < 2 ^ 63) (hx : vs[k.toNat]? = some x) (h : P x m ν)
    (hs : subscripted slice false (.ref l) (.int k u) = operate [.ref l, .int k u] (getItem (.ref l) (.int k u))) : EV c m ν (subscriptTail value slice (.ref l) (.int k u)) P R :=
  fun s Q E F N hQ hE => tail_any (stays_base F hl).typeIs slot_list_getitem.lookup (wpAny_getItem_list (stays_base F hl) h0 hhi (by simpa using hx) (hQ _ _ _ s.heap s.toks h F N)) hs
theorem ev_addL {a b : Addr} {oa ob : Obj} {vs ws : List Value} (ha : (a, oa) ∈ ν) (hoa : LstO oa vs) (hb : (b, ob) ∈ ν) (hob : LstO ob ws) (hz : vs.length + ws.length ≤ sizeLine) (h : ∀ D o, Above D ν → LstO o (vs ++ ws) → P (.ref D) m ((D, o) :: ν)) : EV c m ν (binaryOp .Add (.ref a) (.ref b)) P R :=
  fun s Q E F N hQ hE => kmk_add_lit F N (hoa.at (N.get ha)) (hob.at (N.get hb)) rfl (fun D h' F' N' hab => hQ _ _ _ h' _ (h D _ hab ⟨_, rfl⟩) F' N') (by simpa using hz)
theorem ev_getAppend {l : Addr} {o : Obj} {vs : List Value} {pl : Sem Bool} (hm : (l, o) ∈ ν := by walk_at "zmem") (ho : LstO o vs := by walk_at "zo") (h : PM (.builtin "list.append", [.ref l]) m ν) : EV c m ν (getMethod (.ref l) "append" pl) PM R :=
  fun s Q E F N hQ hE => getMethod_list_append (N.get hm) ho.cls ho.dict (hQ _ _ _ s.heap s.toks h F N)
theorem ev_getExtend {l : Addr} {o : Obj} {vs : List Value} {pl : Sem Bool} (hm : (l, o) ∈ ν := by walk_at "zmem") (ho : LstO o vs := by walk_at "zo") (h : PM (.builtin "list.extend", [.ref l]) m ν) : EV c m ν (getMethod (.ref l) "extend" pl) PM R :=
  fun s Q E F N hQ hE => getMethod_builtin ⟨_, N.get hm, ho.cls⟩ PySem.F.plainAttrs_list PySem.F.slot_list_extend PySem.F.type_list_extend (fun a e => by cases e; exact ⟨_, N.get hm, ho.dict⟩) (hQ _ _ _ s.heap s.toks h F N)
theorem ev_getPop {l : Addr} {o : Obj} {vs : List Value} {pl : Sem Bool} (hm : (l, o) ∈ ν := by walk_at "zmem") (ho : LstO o vs := by walk_at "zo") (h : PM (.builtin "list.pop", [.ref l]) m ν) : EV c m ν (getMethod (.ref l) "pop" pl) PM R :=
  fun s Q E F N hQ hE => getMethod_builtin ⟨_, N.get hm, ho.cls⟩ PySem.F.plainAttrs_list PySem.F.slot_list_pop PySem.F.type_list_pop (fun a e => by cases e; exact ⟨_, N.get hm, ho.dict⟩) (hQ _ _ _ s.heap s.toks h F N)
theorem ev_pop {l : Addr} {o : Obj} {vs : List Value} {x : Value} {ν₁ : Led} (ho : LstO o (vs ++ [x])) (hν : ∀ p ∈ (l, o) :: ν₁, p ∈ ν) (hne : ∀ p ∈ ν₁, p.1 ≠ l) (hsz : vs.length < sizeLine) (h : ∀ o', LstO o' vs → P x m ((l, o') :: ν₁)) : EV c m ν (call (.builtin "list.pop") [.ref l]) P R :=
  ev_mut (fun o' => LstO o' vs) hν hne (fun s Q E e hQ => by
    obtain ⟨n, rfl⟩ := ho
    exact Copied.pop_at (n := n) e (by simp) (fun h' hs he => hQ h' s.toks _ he ⟨n + 1, by simp⟩ hs) (by simp only [List.size_toArray, List.length_append, List.length_singleton]; omega)) h
theorem ev_extendT {l b : Addr} {o ob : Obj} {vs ws : List Value} {ν₁ : Led} (ho : LstO o vs) (hb : (b, ob) ∈ ν₁) (hob : TupO ob ws) (hν : ∀ p ∈ (l, o) :: ν₁, p ∈ ν) (hne : ∀ p ∈ ν₁, p.1 ≠ l) (hsz : vs.length + ws.length ≤ sizeLine) (h : ∀ o', LstO o' (vs ++ ws) → P .none m ((l, o') :: ν₁)) :
    EV c m ν (call (.builtin "list.extend") [.ref l, .ref b]) P R := by
  intro s Q E F N hQ hE
  have N₁ : News c.h₀ c.L s.heap ((l, o) :: ν₁) := fun p hp => N p (hν p hp)
  have el := (N₁ _ (.head _)).1
  have eb := (N₁ _ (.tail _ hb)).1
  obtain ⟨n, rfl⟩ := ho
  obtain ⟨n2, rfl⟩ := hob
  refine call_meets PySem.F.slot_list_extend ⟨_, el, rfl⟩ PySem.F.entry_list_extend (PySem.F.args_list_extend_2 _ _) (PySem.AutoSeq1.list_extend_list_tuple_0 l vs.toArray n b ws.toArray n2 (extend_door (by simpa using hsz)) (by simp only [List.size_toArray]; omega) (by simp only [List.size_toArray]; omega)) ⟨el, eb, ?_⟩
  obtain ⟨o', e', g⟩ := lst_up (ws := vs ++ ws) (f := fun x => x ++ ws.toArray) el (by simp)
  obtain ⟨F', N'⟩ := news_put F N₁ hne e' (Heap.SameBut.update ..)
  exact hQ _ _ _ _ s.toks (h o' g) F' N'
theorem ev_listOfT {b : Addr} {ob : Obj} {ws : List Value} (hb : (b, ob) ∈ ν) (hob : TupO ob ws) (hsz : ws.length ≤ sizeLine) (h : ∀ D o, Above D ν → LstO o ws → P (.ref D) m ((D, o) :: ν)) : EV c m ν (call (.type "list") [.ref b]) P R := by
  obtain ⟨n2, rfl⟩ := hob
  exact fun s Q E F N hQ hE => kup_listOfT F N hb (zs := ws) rfl (fun D k h' F' N' l1 => hQ _ _ _ _ _ (h D _ l1 ⟨_, rfl⟩) F' N') hsz
theorem ev_tupleOfL {l : Addr} {o : Obj} {vs : List Value} (hm : (l, o) ∈ ν) (ho : LstO o vs) (hsz : vs.length ≤ sizeLine) (h : ∀ D, Above D ν → P (.ref D) m ((D, tupO vs) :: ν)) : EV c m ν (call (.type "tuple") [.ref l]) P R :=
  fun s Q E F N hQ hE => call_tuple_list (ho.at (N.get hm)) (fun h' hk => by
    have N' : News c.h₀ c.L h' ν := fun p hp => ⟨hk _ _ (N p hp).1, (N p hp).2⟩
    exact hQ _ _ _ _ s.toks (h h'.objs.size fun p hp => Heap.lt_size (N' p hp).1) ((F.keeps hk).push _) (N'.push (F.keeps hk) _ rfl)) (by simpa using hsz)
theorem ev_tupleOfT {t : Addr} {o : Obj} {vs : List Value} (hm : (t, o) ∈ ν := by walk_at "zmem") (ho : TupO o vs := by walk_at "zo") (h : P (.ref t) m ν) : EV c m ν (call (.type "tuple") [.ref t]) P R :=
  fun s Q E F N hQ hE => call_tuple_same (ho.at (N.get hm)) (hQ _ _ _ s.heap s.toks h F N)
end
end Mine

end
section
namespace Mine
/-- an iterator `it` that gives n items; b: its own objects at place k -/
structure Yld (c : Cx) (it : Addr) (target : Expr) (own : Addr → Prop) (n : Nat) (B : Nat → Led → Prop) (Item : Nat → Value → Led → Prop) (src : Led → Prop) : Prop where
  turn : ∀ k b ν₁ m (PO : Option Value → Loc → Led → Prop) (R : RX), B k b → (∀ p ∈ ν₁, ¬ own p.1) → src ν₁ → (n ≤ k → PO none m ν₁) →
    (k < n → ∀ v δ b₁, Item k v δ → (∀ p ∈ δ, Above p.1 ν₁ ∧ ¬ own p.1) → (∀ m' (PU : Unit → Loc → Led → Prop) (R' : RX) ν₂, (∀ p ∈ ν₂, ¬ own p.1) → (∀ b', B (k + 1) b' → PU () m' (b' ++ ν₂)) → EV c m' (b₁ ++ ν₂) (letOwnedTupleGo target (.ref it) v) PU R') → PO (some v) m (b₁ ++ (δ ++ ν₁))) →
    EV c m (b ++ ν₁) (pyNext (.ref it)) PO R
  self : ∀ k b ν m (P : Value → Loc → Led → Prop) (R : RX), B k b → (∀ p ∈ b, p ∈ ν) → P (.ref it) m ν → EV c m ν (pyIter (.ref it)) P R
section
variable {c : Cx} {m : Loc} {ν : Led} {R : RX} {env : Env} {it : Addr} {target : Expr} {own : Addr → Prop} {n : Nat} {B : Nat → Led → Prop} {Item : Nat → Value → Led → Prop} {src : Led → Prop}
variable {P : Value → Loc → Led → Prop} {PF : Flow → Loc → Led → Prop}

def TurnI (own : Addr → Prop) (src : Led → Prop) (I : Loc → Led → Prop) (b : Led) (PF : Flow → Loc → Led → Prop) : Flow → Loc → Led → Prop
  | .next, m, ν | .cont, m, ν => ∃ ν', (∀ p ∈ b ++ ν', p ∈ ν) ∧ (∀ p ∈ ν', ¬ own p.1) ∧ src ν' ∧ I m ν'
  | .brk, m, ν => PF .next m ν
  | .ret v, m, ν => PF (.ret v) m ν
theorem ev_forI {body : List Stmt} {Rb : RX} (Y : Yld c it target own n B Item src) (I : Nat → Loc → Led → Prop) {b₀ ν₀ : Led} (hb : B 0 b₀) (hc : ∀ p ∈ ν₀, ¬ own p.1) (hs : src ν₀) (h0 : I 0 m ν₀) (hν : ∀ p ∈ b₀ ++ ν₀, p ∈ ν)
    (step : ∀ k m₁ ν₁ v δ b, k < n → I k m₁ ν₁ → (∀ p ∈ ν₁, ¬ own p.1) → src ν₁ → Item k v δ → (∀ p ∈ δ, Above p.1 ν₁ ∧ ¬ own p.1) → B (k + 1) b →
      EV c m₁ (b ++ (δ ++ ν₁)) (assign target env v) (fun _ m₂ ν₂ => EV c m₂ ν₂ (execs body env) (TurnI own src (I (k + 1)) b PF) Rb) Rb)
    (fin : ∀ m₁ ν₁, I n m₁ ν₁ → (∀ p ∈ ν₁, ¬ own p.1) → src ν₁ → PF .next m₁ ν₁) :
    ∃ (J : Nat → Loc → Led → Prop) (n' : Nat), J n' m ν ∧ ∀ k m₃ ν₃, J k m₃ ν₃ → EV c m₃ ν₃ (pyNext (.ref it)) (ForTurn c env target (.ref it) body J k PF Rb) Rb := by
  refine ⟨fun j m₁ ν₁ => ∃ k b ν₂, j = n - k ∧ k ≤ n ∧ B k b ∧ (∀ p ∈ ν₂, ¬ own p.1) ∧ src ν₂ ∧ I k m₁ ν₂ ∧ (∀ p ∈ b ++ ν₂, p ∈ ν₁), n, ⟨0, b₀, ν₀, rfl, Nat.zero_le _, hb, hc, hs, h0, hν⟩, ?_⟩
  rintro j m₁ ν₁ ⟨k, b, ν₂, rfl, hk, hB, hcl, hsr, hI, hsub⟩
  refine ev_sub ?_ hsub
  refine Y.turn k b ν₂ m₁ _ _ hB hcl hsr (fun hn => ?_) (fun hn v δ b₁ hi hd go => ?_)
  · have : k = n := Nat.le_antisymm hk hn
    subst this
    exact fin _ _ hI hcl hsr
  · show EV c m₁ _ (letOwnedTupleGo target (.ref it) v) _ _
    refine go m₁ _ _ _ (fun p hp => ?_) (fun b' hB' => ?_)
    · rcases List.mem_append.mp hp with hp | hp
      · exact (hd p hp).2
      · exact hcl p hp
    refine ev_imp (step k m₁ ν₂ v δ b' hn hI hcl hsr hi hd hB') (fun _ m₂ ν₃ h => ev_imp h (fun f m₃ ν₄ g => ?_))
    have lt : n - (k + 1) < n - k := by omega
    cases f with
    | next => obtain ⟨ν', g1, g2, g3, g4⟩ := g; exact ⟨_, lt, k + 1, b', ν', rfl, hn, hB', g2, g3, g4, g1⟩
    | cont => obtain ⟨ν', g1, g2, g3, g4⟩ := g; exact ⟨_, lt, k + 1, b', ν', rfl, hn, hB', g2, g3, g4, g1⟩
    | brk => exact g
    | ret v => exact g

/-- one turn of a comprehension is done: the item y, if any -/
def CompDone (own : Addr → Prop) (src : Led → Prop) (C D : Addr) (oD : Obj) (b : Led) (m : Loc) (I : Led → Prop) : Loc → Led → Prop := fun m' ν' =>
  m' = m ∧ ∃ oC mC ν'', NsObj oC mC ∧ (∀ p ∈ (C, oC) :: (D, oD) :: (b ++ ν''), p ∈ ν') ∧ (∀ p ∈ ν'', ¬ own p.1 ∧ p.1 ≠ C ∧ p.1 ≠ D) ∧ src ν'' ∧ I ν''
theorem ev_compI {scope : Scope} {cl : List (Str × Addr)} {ifs : List Expr} {elt : Expr} {Rb : RX} (Y : Yld c it target own n B Item src) (hsz : n ≤ sizeLine) (I : Nat → List Value → Led → Prop) {b₀ ν₀ : Led} (hb : B 0 b₀) (hc : ∀ p ∈ ν₀, ¬ own p.1) (hs : src ν₀) (h0 : I 0 [] ν₀) (hν : ∀ p ∈ b₀ ++ ν₀, p ∈ ν)
    (hown : ∀ a, own a → ∃ p ∈ b₀, p.1 = a) (hbo : ∀ k b, B k b → ∀ p ∈ b, own p.1)
    (hup : ∀ (L : Led) (q : Addr × Obj), src L → src (q :: L))
    (step : ∀ k acc ν₁ v δ b C oC mC D oD, k < n → acc.length ≤ k → I k acc ν₁ → (∀ p ∈ ν₁, ¬ own p.1 ∧ p.1 ≠ C ∧ p.1 ≠ D) → src ν₁ → Item k v δ → (∀ p ∈ δ, Above p.1 ν₁ ∧ ¬ own p.1 ∧ p.1 ≠ C ∧ p.1 ≠ D) → B (k + 1) b → NsObj oC mC → LstO oD acc → Above D ν₀ → @LT.lt Nat _ D C → (∀ p ∈ b, p.1 ≠ C ∧ p.1 ≠ D) → (∀ p ∈ (D, oD) :: (b ++ (δ ++ ν₁)), p.1 ≠ C) →
      EV c m ((C, oC) :: (D, oD) :: (b ++ (δ ++ ν₁))) (assign target (compEnvC scope cl C env) v) (fun _ m₂ ν₂ => EV c m₂ ν₂ (testsOf ifs (compEnvC scope cl C env)) (fun ok m₃ ν₃ => if ok then EV c m₃ ν₃ (eval elt (compEnvC scope cl C env)) (fun y => CompDone own src C D oD b m (I (k + 1) (acc ++ [y]))) Rb else CompDone own src C D oD b m (I (k + 1) acc) m₃ ν₃) Rb) Rb)
    (fin : ∀ D oD acc ν₁, acc.length ≤ n → I n acc ν₁ → LstO oD acc → Above D ν₀ → (∀ p ∈ ν₁, ¬ own p.1 ∧ p.1 ≠ D) → src ν₁ → P (.ref D) m ((D, oD) :: ν₁)) :
    CompIt c env scope cl target ifs elt P Rb (.ref it) m ν := by
  intro D C oC hD hDC hoC
  have hD0 : Above D ν₀ := fun p hp => hD p (hν p (List.mem_append_right _ hp))
  have apart : ∀ a, own a → a ≠ D ∧ a ≠ C := by
    intro a ha
    obtain ⟨p, hp, rfl⟩ := hown a ha
    have : @LT.lt Nat _ p.1 D := hD p (hν p (List.mem_append_left _ hp))
    exact ⟨Nat.ne_of_lt this, Nat.ne_of_lt (Nat.lt_trans this hDC)⟩
  have cd : C ≠ D := Nat.ne_of_gt hDC
  refine ⟨Y.self 0 b₀ _ _ _ _ hb (fun p hp => .tail _ (.tail _ (hν p (List.mem_append_left _ hp)))) ⟨rfl, rfl, rfl⟩, fun j m₁ ν₁ => m₁ = m ∧ ∃ k b acc oC mC oD ν₂, j = n - k ∧ k ≤ n ∧ acc.length ≤ k ∧ B k b ∧ NsObj oC mC ∧ LstO oD acc ∧ (∀ p ∈ ν₂, ¬ own p.1 ∧ p.1 ≠ C ∧ p.1 ≠ D) ∧ src ν₂ ∧ I k acc ν₂ ∧ (∀ p ∈ b ++ ((C, oC) :: (D, oD) :: ν₂), p ∈ ν₁), n, ?_, ?_⟩
  · refine ⟨rfl, 0, b₀, [], oC, _, lstO [], ν₀, rfl, Nat.zero_le _, Nat.le_refl _, hb, hoC, lstO_mk, fun p hp => ⟨hc p hp, Nat.ne_of_lt (Nat.lt_trans (hD0 p hp) hDC), Nat.ne_of_lt (hD0 p hp)⟩, hs, h0, fun p hp => ?_⟩
    rcases List.mem_append.mp hp with hp | hp
    · exact .tail _ (.tail _ (hν p (List.mem_append_left _ hp)))
    · cases hp with
      | head => exact .head _
      | tail _ hp =>
        cases hp with
        | head => exact .tail _ (.head _)
        | tail _ hp => exact .tail _ (.tail _ (hν p (List.mem_append_right _ hp)))
  · rintro j m₁ ν₁ ⟨rfl, k, b, acc, oC, mC, oD', ν₂, rfl, hk, hal, hB, hoC', hoD, hcl, hsr, hI, hsub⟩
    refine ev_sub ?_ hsub
    have hcl' : ∀ p ∈ (C, oC) :: (D, oD') :: ν₂, ¬ own p.1 := by
      intro p hp
      cases hp with
      | head => exact fun h => (apart _ h).2 rfl
      | tail _ hp =>
        cases hp with
        | head => exact fun h => (apart _ h).1 rfl
        | tail _ hp => exact (hcl p hp).1
    refine Y.turn k b _ _ _ _ hB hcl' (hup _ _ (hup _ _ hsr)) (fun hn => ?_) (fun hn v δ b₁ hi hd go => ?_)
    · have : k = n := Nat.le_antisymm hk hn
      subst this
      refine ⟨oC, mC, (D, oD') :: ν₂, hoC', fun p hp => hp, fun p hp => ?_, fin D oD' acc ν₂ hal hI hoD hD0 (fun p hp => ⟨(hcl p hp).1, (hcl p hp).2.2⟩) hsr⟩
      cases hp with
      | head => exact cd.symm
      | tail _ hp => exact (hcl p hp).2.1
    · show EV c m₁ _ (letOwnedTupleGo target (.ref it) v) _ _
      refine go m₁ _ _ _ (fun p hp => ?_) (fun b' hB' => ?_)
      · rcases List.mem_append.mp hp with hp | hp
        · exact (hd p hp).2
        · exact hcl' p hp
      have hab : ∀ p ∈ δ, Above p.1 ν₂ ∧ ¬ own p.1 ∧ p.1 ≠ C ∧ p.1 ≠ D := fun p hp => ⟨fun q hq => (hd p hp).1 q (.tail _ (.tail _ hq)), (hd p hp).2, Nat.ne_of_gt ((hd p hp).1 (C, oC) (.head _)), Nat.ne_of_gt ((hd p hp).1 (D, oD') (.tail _ (.head _)))⟩
      have neC : ∀ p ∈ (D, oD') :: (b' ++ (δ ++ ν₂)), p.1 ≠ C := by
        intro p hp
        rcases List.mem_cons.mp hp with rfl | hp
        · exact cd.symm
        · rcases List.mem_append.mp hp with hp | hp
          · exact (apart _ (hbo _ _ hB' p hp)).2
          · rcases List.mem_append.mp hp with hp | hp
            · exact (hab p hp).2.2.1
            · exact (hcl p hp).2.1
      refine ev_sub (ν' := (C, oC) :: (D, oD') :: (b' ++ (δ ++ ν₂))) ?_ (fun p hp => ?_)
      · refine ev_imp (step k acc ν₂ v δ b' C oC mC D oD' hn hal hI hcl hsr hi hab hB' hoC' hoD hD0 hDC (fun p hp => ⟨(apart _ (hbo _ _ hB' p hp)).2, (apart _ (hbo _ _ hB' p hp)).1⟩) neC) (fun _ m₂ ν₃ h => ev_imp h (fun ok m₃ ν₄ g => ?_))
        have lt : n - (k + 1) < n - k := by omega
        cases ok with
        | false =>
          obtain ⟨rfl, oC2, mC2, ν5, g1, g2, g3, g4, g5⟩ := g
          refine ⟨_, lt, rfl, k + 1, b', acc, oC2, mC2, oD', ν5, rfl, hn, Nat.le_succ_of_le hal, hB', g1, hoD, g3, g4, g5, fun p hp => g2 p ?_⟩
          rcases List.mem_append.mp hp with hp | hp
          · exact .tail _ (.tail _ (List.mem_append_left _ hp))
          · cases hp with
            | head => exact .head _
            | tail _ hp =>
              cases hp with
              | head => exact .tail _ (.head _)
              | tail _ hp => exact .tail _ (.tail _ (List.mem_append_right _ hp))
        | true =>
          refine ev_imp g (fun y m₄ ν₆ q => ?_)
          obtain ⟨rfl, oC2, mC2, ν5, g1, g2, g3, g4, g5⟩ := q
          refine ev_append (l := D) (o := oD') (ν₁ := (C, oC2) :: (b' ++ ν5)) hoD (fun p hp => g2 p ?_) (fun p hp => ?_) (Nat.le_trans hal (Nat.le_trans hk hsz)) (fun o' ho' => ?_)
          · cases hp with
            | head => exact .tail _ (.head _)
            | tail _ hp =>
              cases hp with
              | head => exact .head _
              | tail _ hp => exact .tail _ (.tail _ hp)
          · cases hp with
            | head => exact cd
            | tail _ hp =>
              rcases List.mem_append.mp hp with hp | hp
              · exact (apart _ (hbo _ _ hB' p hp)).1
              · exact (g3 p hp).2.2
          · refine ⟨_, lt, rfl, k + 1, b', acc ++ [y], oC2, mC2, o', ν5, rfl, hn, by simpa using hal, hB', g1, ho', g3, g4, g5, fun p hp => ?_⟩
            rcases List.mem_append.mp hp with hp | hp
            · exact .tail _ (.tail _ (List.mem_append_left _ hp))
            · cases hp with
              | head => exact .tail _ (.head _)
              | tail _ hp =>
                cases hp with
                | head => exact .head _
                | tail _ hp => exact .tail _ (.tail _ (List.mem_append_right _ hp))
      · cases hp with
        | head => exact List.mem_append_right _ (List.mem_append_right _ (.head _))
        | tail _ hp =>
          cases hp with
          | head => exact List.mem_append_right _ (List.mem_append_right _ (.tail _ (.head _)))
          | tail _ hp =>
            rcases List.mem_append.mp hp with hp | hp
            · exact List.mem_append_left _ hp
            · rcases List.mem_append.mp hp with hp | hp
              · exact List.mem_append_right _ (List.mem_append_left _ hp)
              · exact List.mem_append_right _ (List.mem_append_right _ (.tail _ (.tail _ hp)))

/- the sources -/
theorem yldL {x : Str} {pos : Pos} {it l : Addr} {o : Obj} {vs : List Value} (ho : LstO o vs) :
    Yld c it (.Name x pos) (fun a => a = it) vs.length (fun k b => ∃ oi, b = [(it, oi)] ∧ LIt oi l k) (fun k v δ => vs[k]? = some v ∧ δ = []) (fun L => (l, o) ∈ L) := by
  refine ⟨?_, ?_⟩
  · rintro k b ν₁ m PO R ⟨oi, rfl, hi⟩ hc hs h1 h2
    cases hx : vs[k]? with
    | none => exact ev_endL hi hs ho hx (fun _ h => h) hc (h1 (List.getElem?_eq_none_iff.mp hx))
    | some x' => exact ev_nextL hi hs ho hx (fun _ h => h) hc (fun oi' hi' => h2 (List.getElem?_eq_some_iff.mp hx).1 _ [] [(it, oi')] ⟨hx, rfl⟩ (fun _ h => nomatch h) fun m' PU R' ν₂ _ q => ev_goName (q _ ⟨_, rfl, hi'⟩))
  · rintro k b ν m P R ⟨oi, rfl, hi⟩ hs h
    exact ev_selfL (hs _ (.head _)) hi h
theorem yldT {x : Str} {pos : Pos} {it l : Addr} {o : Obj} {vs : List Value} (ho : TupO o vs) :
    Yld c it (.Name x pos) (fun a => a = it) vs.length (fun k b => ∃ oi, b = [(it, oi)] ∧ TIt oi l k) (fun k v δ => vs[k]? = some v ∧ δ = []) (fun L => (l, o) ∈ L) := by
  refine ⟨?_, ?_⟩
  · rintro k b ν₁ m PO R ⟨oi, rfl, hi⟩ hc hs h1 h2
    cases hx : vs[k]? with
    | none => exact ev_endT hi hs ho hx (fun _ h => h) hc (h1 (List.getElem?_eq_none_iff.mp hx))
    | some x' => exact ev_nextT hi hs ho hx (fun _ h => h) hc (fun oi' hi' => h2 (List.getElem?_eq_some_iff.mp hx).1 _ [] [(it, oi')] ⟨hx, rfl⟩ (fun _ h => nomatch h) fun m' PU R' ν₂ _ q => ev_goName (q _ ⟨_, rfl, hi'⟩))
  · rintro k b ν m P R ⟨oi, rfl, hi⟩ hs h
    exact ev_selfT (hs _ (.head _)) hi h
theorem yldR {x : Str} {pos : Pos} {it : Addr} {n : Nat} :
    Yld c it (.Name x pos) (fun a => a = it) n (fun k b => ∃ oi, b = [(it, oi)] ∧ RIt oi k ((n : Int) - k)) (fun k v δ => (∃ t, v = .int k t) ∧ δ = []) (fun L => True) := by
  refine ⟨?_, ?_⟩
  · rintro k b ν₁ m PO R ⟨oi, rfl, hi⟩ hc hs h1 h2
    by_cases hk : k < n
    · exact ev_nextR hi (by omega) (fun _ h => h) hc (fun oi' t hi' => h2 hk _ [] [(it, oi')] ⟨⟨t, rfl⟩, rfl⟩ (fun _ h => nomatch h) fun m' PU R' ν₂ _ q => ev_goName (q _ ⟨_, rfl, by
        have e1 : ((k : Int) + 1) = ((k + 1 : Nat) : Int) := by omega
        have e2 : ((n : Int) - k - 1) = (n : Int) - ((k + 1 : Nat) : Int) := by omega
        rw [e1, e2] at hi'; exact hi'⟩))
    · exact ev_endR hi (by omega) (fun _ h => h) hc (h1 (Nat.le_of_not_lt hk))
  · rintro k b ν m P R ⟨oi, rfl, hi⟩ hs h
    exact ev_selfR (hs _ (.head _)) hi h
end
end Mine

end
section
open Builtin.SmallTypes
namespace Mine
section
variable {α β : Type} {c : Cx} {m : Loc} {ν : Led} {R : RX} {env : Env}
variable {P : Value → Loc → Led → Prop} {PF : Flow → Loc → Led → Prop} {PU : Unit → Loc → Led → Prop} {PO : Option Value → Loc → Led → Prop}
theorem ev_post {t : Sem α} {P : α → Loc → Led → Prop} (h : EV c m ν t (fun v m' ν' => ∃ ν'', (∀ p ∈ ν'', p ∈ ν') ∧ P v m' ν'') R) : EV c m ν t P R :=
  fun s Q E F N hQ hE => h s Q E F N (fun v m' ν' h' k x F' N' => by
    obtain ⟨ν'', sub, x⟩ := x
    exact hQ v m' ν'' h' k x F' (fun p hp => N' p (sub p hp))) hE
/-- the object at one place of the ledger is turned -/
theorem ev_mutAt {t : Sem α} {P : α → Loc → Led → Prop} {v : α} {a : Addr} {o : Obj} {pre post : Led} (Good : Obj → Prop) (h1 : ∀ p ∈ pre, p.1 ≠ a) (h2 : ∀ p ∈ post, p.1 ≠ a)
    (ht : ∀ s (Q : α → Shared → Prop) E, s.heap.get? a = some o → (∀ h' tk' o', h'.get? a = some o' → Good o' → Heap.SameBut a s.heap h' → Q v { s with heap := h', toks := tk' }) → wpAny (model Pg c.w) c.A t Q E s)
    (h : ∀ o', Good o' → P v m (pre ++ (a, o') :: post)) : EV c m (pre ++ (a, o) :: post) t P R := by
  refine ev_post (ev_mut (ν₁ := pre ++ post) Good (fun p hp => ?_) (fun p hp => ?_) ht (fun o' g => ⟨_, fun p hp => ?_, h o' g⟩))
  · rcases List.mem_cons.mp hp with rfl | hp
    · exact List.mem_append_right _ (.head _)
    · exact (List.mem_append.mp hp).elim (List.mem_append_left _) fun x => List.mem_append_right _ (.tail _ x)
  · exact (List.mem_append.mp hp).elim (h1 p) (h2 p)
  · rcases List.mem_append.mp hp with hp | hp
    · exact .tail _ (List.mem_append_left _ hp)
    · rcases List.mem_cons.mp hp with rfl | hp
      · exact .head _
      · exact .tail _ (List.mem_append_right _ hp)
abbrev recO (cls : String) (vs : Array Value) : Obj := { cls := .type cls, dict := none, data := .fields vs, slots := #[] }
theorem ev_field {a : Addr} {cls : String} {vs : Array Value} {i : Nat} {x : Value} (hm : (a, recO cls vs) ∈ ν) (hx : vs[i]? = some x) (h : P x m ν) : EV c m ν (field (.ref a) i) P R :=
  fun s Q E F N hQ hE => wpAny_field (N.get hm) rfl hx (hQ _ _ _ s.heap s.toks h F N)
theorem ev_setField {a : Addr} {cls : String} {vs : Array Value} {k : Nat} {x : Value} {pre post : Led} (hk : k < vs.size) (h1 : ∀ p ∈ pre, p.1 ≠ a) (h2 : ∀ p ∈ post, p.1 ≠ a) (h : PU () m (pre ++ (a, recO cls (vs.setIfInBounds k x)) :: post)) : EV c m (pre ++ (a, recO cls vs) :: post) (setField (.ref a) k x) PU R :=
  ev_mutAt (fun o' => o' = recO cls (vs.setIfInBounds k x)) h1 h2 (fun s Q E e hQ => wpAny_setField_rec e hk fun h' e' hs => hQ h' s.toks _ e' rfl hs) (fun o' g => by subst g; exact h)
theorem ev_seqT {a : Addr} {o : Obj} {vs : List Value} {P : Option (Array Value) → Loc → Led → Prop} (hm : (a, o) ∈ ν) (ho : TupO o vs) (h : P (some vs.toArray) m ν) : EV c m ν (seqItems? (.ref a)) P R := by
  obtain ⟨n, rfl⟩ := ho
  exact fun s Q E F N hQ hE => wpAny_seqItems (N.get hm) rfl (hQ _ _ _ s.heap s.toks h F N)
theorem ev_updT {a : Addr} {o : Obj} {vs : List Value} {k : Nat} {x : Value} {pre post : Led} (ho : TupO o vs) (hsz : vs.length ≤ 16) (h1 : ∀ p ∈ pre, p.1 ≠ a) (h2 : ∀ p ∈ post, p.1 ≠ a) (h : ∀ o', TupO o' (vs.set k x) → PU () m (pre ++ (a, o') :: post)) : EV c m (pre ++ (a, o) :: post) (updateSeq a (·.setIfInBounds k x)) PU R := by
  obtain ⟨n, rfl⟩ := ho
  refine ev_mutAt (fun o' => TupO o' (vs.set k x)) h1 h2 (fun s Q E e hQ => ?_) h
  have hz : vs.toArray.size ≤ sizeLine := by simp only [List.size_toArray]; exact Nat.le_trans hsz (by decide)
  refine wpAny_updateSeq e rfl (hQ _ s.toks _ (Heap.get?_update_self _ e rfl) ⟨(if ((vs.toArray.setIfInBounds k x).size == vs.toArray.size) = true then n else n + 1), ?_⟩ (Heap.SameBut.update ..)) hz (by simp only [List.size_toArray, Array.size_setIfInBounds]; exact Nat.le_trans (Nat.le_trans hsz (by decide)) (Nat.le_succ sizeLine))
  show (⟨_, _, .seq (vs.toArray.setIfInBounds k x) _, _⟩ : Obj) = ⟨_, _, .seq (vs.set k x).toArray _, _⟩
  simp
theorem ev_letGo {removed keep : List Value} (h : PU () m ν) : EV c m ν (letGo removed keep) PU R := fun s Q E F N hQ hE => wpAny_letGo (hQ _ _ _ s.heap s.toks h F N)
theorem ev_onRaise {t : Sem α} {k : Value → Sem Unit} {P : α → Loc → Led → Prop} (h : EV c m ν t P NoX) : EV c m ν (t.onRaise k) P R :=
  fun s Q E F N hQ hE => wpAny_onRaise (wpAny_mono (h s Q ⟨fun _ _ => False, PassesOwn.never⟩ F N hQ (fun _ _ _ x => x)) (fun _ _ x => x) (fun _ _ x => x.elim))
def SIt (o : Obj) (x : Str) (t : Tok) (i : Nat) : Prop := o.cls = .type "str_ascii_iterator" ∧ o.data = .fields #[.str x t, .int i 0]
theorem ev_nextS {it : Addr} {oi : Obj} {x : Str} {t : Tok} {i k : Nat} {pre post : Led} (hi : SIt oi x t i) (hx : x.cps[i]? = some k) (h1 : ∀ p ∈ pre, p.1 ≠ it) (h2 : ∀ p ∈ post, p.1 ≠ it) (h : ∀ oi' u, SIt oi' x t (i + 1) → P (.str ⟨#[k]⟩ u) m (pre ++ (it, oi') :: post)) : EV c m (pre ++ (it, oi) :: post) (nextOf (.ref it)) P R := by
  intro s Q E F N hQ hE
  have M := N (it, oi) (List.mem_append_right _ (.head _))
  refine wpAny_nextOf_ascii_item ⟨oi, M.1, hi.1, hi.2⟩ hx fun h' hit hs => ?_
  obtain ⟨o', e, g⟩ := hit
  have N₁ : News c.h₀ c.L s.heap ((it, oi) :: (pre ++ post)) := fun p hp => N p (by
    rcases List.mem_cons.mp hp with rfl | hp
    · exact List.mem_append_right _ (.head _)
    · exact (List.mem_append.mp hp).elim (List.mem_append_left _) fun x => List.mem_append_right _ (.tail _ x))
  obtain ⟨F', N'⟩ := news_put F N₁ (fun p hp => (List.mem_append.mp hp).elim (h1 p) (h2 p)) e hs
  refine hQ _ _ _ h' _ (h o' _ g) F' (fun p hp => N' p ?_)
  rcases List.mem_append.mp hp with hp | hp
  · exact .tail _ (List.mem_append_left _ hp)
  · rcases List.mem_cons.mp hp with rfl | hp
    · exact .head _
    · exact .tail _ (List.mem_append_right _ hp)
theorem ev_nextTu {it l : Addr} {oi o : Obj} {i : Nat} {vs : List Value} {x : Value} {pre post : Led} (hi : TIt oi l i) (hm : (l, o) ∈ pre ++ post) (ho : TupO o vs) (hx : vs[i]? = some x) (h1 : ∀ p ∈ pre, p.1 ≠ it) (h2 : ∀ p ∈ post, p.1 ≠ it) (h : ∀ oi', TIt oi' l (i + 1) → P x m (pre ++ (it, oi') :: post)) : EV c m (pre ++ (it, oi) :: post) (nextOf (.ref it)) P R := by
  intro s Q E F N hQ hE
  have M := N (it, oi) (List.mem_append_right _ (.head _))
  have N₁ : News c.h₀ c.L s.heap ((it, oi) :: (pre ++ post)) := fun p hp => N p (by
    rcases List.mem_cons.mp hp with rfl | hp
    · exact List.mem_append_right _ (.head _)
    · exact (List.mem_append.mp hp).elim (List.mem_append_left _) fun x => List.mem_append_right _ (.tail _ x))
  have back : ∀ h' o', h'.get? it = some o' → TIt o' l (i + 1) → Heap.SameBut it s.heap h' → Q x { s with heap := h' } := by
    intro h' o' e g hs
    obtain ⟨F', N'⟩ := news_put F N₁ (fun p hp => (List.mem_append.mp hp).elim (h1 p) (h2 p)) e hs
    refine hQ _ _ _ h' s.toks (h o' g) F' (fun p hp => N' p ?_)
    rcases List.mem_append.mp hp with hp | hp
    · exact .tail _ (List.mem_append_left _ hp)
    · rcases List.mem_cons.mp hp with rfl | hp
      · exact .head _
      · exact .tail _ (List.mem_append_right _ hp)
  have el := (N₁ _ (.tail _ hm)).1
  obtain ⟨n, rfl⟩ := ho
  have T : s.TypeIs (.ref it) "tuple_iterator" := ⟨oi, M.1, hi.1⟩
  unfold nextOf
  refine wpAny_bind (wpAny_callSpecial?_slot (name := Str.ofString "__next__") T PySem.F.slot_tuple_iterator_next (wpAny_call_entry PySem.F.slot_tuple_iterator_next T PySem.F.entry_tuple_iterator_next ?_ (PySem.F.args_tuple_iterator_next_1 _)))
  show wpAny _ _ (field (.ref it) 0 >>= _) _ _ s
  refine wpAny_bind (wpAny_field M.1 hi.2 (x := .ref l) rfl ?_)
  show wpAny _ _ (if (Value.ref l == Value.none) = true then _ else _) _ _ s
  rw [if_neg (show ¬ ((Value.ref l == Value.none) = true) from Bool.false_ne_true)]
  show wpAny _ _ (field (.ref it) 1 >>= _) _ _ s
  refine wpAny_bind (wpAny_field M.1 hi.2 (x := .int i 0) rfl ?_)
  show wpAny _ _ (seqItems? (.ref l) >>= _) _ _ s
  refine wpAny_bind (wpAny_seqItems el rfl ?_)
  have hx' : vs.toArray[i]? = some x := by simpa using hx
  simp only [Int.toNat_natCast, hx']
  refine wpAny_bind (wpAny_setField M.1 hi.2 (by simp) (wpAny_pure ⟨x, rfl, wpAny_pure (back _ _ (Heap.get?_update_self _ M.1 (Obj.isFreed_of_fields (Obj.data_mapFields hi.2 _))) ⟨(Obj.cls_mapFields ..).trans hi.1, ?_⟩ (Heap.SameBut.update ..))⟩))
  rw [Obj.data_mapFields hi.2]
  simp [rawInt]

abbrev zO (f0 : Value) (TI TO : Addr) : Obj := recO "zip" #[f0, .bool false, .bool false, .ref TI, .ref TO]
/-- all five apart -/
structure ZAp (z TI TO i1 i2 : Addr) : Prop where
  a1 : TI ≠ z
  a2 : TO ≠ z
  a3 : i1 ≠ z
  a4 : i2 ≠ z
  a5 : TI ≠ TO
  a6 : TI ≠ i1
  a7 : TI ≠ i2
  a8 : TO ≠ i1
  a9 : TO ≠ i2
  a10 : i1 ≠ i2
abbrev zLed (z TI TO i1 i2 : Addr) (f0 : Value) (oT o1 o2 : Obj) (a b : Value) : Led := [(z, zO f0 TI TO), (TI, tupO [.ref i1, .ref i2]), (TO, oT), (i1, o1), (i2, o2)]
theorem ev_zipBody {z TI TO i1 i2 tt : Addr} {oT o1 o2 ot : Obj} {a b y : Value} {x : Str} {t : Tok} {k u : Nat} {vs : List Value} {ν₁ : Led} {P : Fin → Loc → Led → Prop} (Z : ZAp z TI TO i1 i2) (hT : TupO oT [a, b]) (h1 : SIt o1 x t k) (h2 : TIt o2 tt k) (hm : (tt, ot) ∈ ν₁) (hot : TupO ot vs)
    (hx : x.cps[k]? = some u) (hy : vs[k]? = some y) (hne : ∀ p ∈ ν₁, p.1 ≠ z ∧ p.1 ≠ TI ∧ p.1 ≠ TO ∧ p.1 ≠ i1 ∧ p.1 ≠ i2)
    (h : ∀ T v oT' o1' o2', Above T (zLed z TI TO i1 i2 (rawInt T) oT' o1' o2' a b ++ ν₁) → TupO oT' [.str ⟨#[u]⟩ v, y] → SIt o1' x t (k + 1) → TIt o2' tt (k + 1) → P (.done (.ret (.ref T))) m (zLed z TI TO i1 i2 (rawInt T) oT' o1' o2' a b ++ ((T, tupO [.str ⟨#[u]⟩ v, y]) :: ν₁))) :
    EV c m (zLed z TI TO i1 i2 .none oT o1 o2 a b ++ ν₁) (Builtin.«zip.__next__» ⟨[.ref z], []⟩) P R := by
  show EV c m _ (field (.ref z) 2 >>= _) _ _
  refine ev_bind (ev_field (.head _) rfl ?_)
  show EV c m _ (field (.ref z) 3 >>= _) _ _
  refine ev_bind (ev_field (.head _) rfl ?_)
  show EV c m _ (seqItems? (.ref TI) >>= _) _ _
  refine ev_bind (ev_seqT (.tail _ (.head _)) tupO_mk ?_)
  show EV c m _ (ownedTupleIsFree (.ref z) >>= _) _ _
  refine ev_bind ?_
  unfold ownedTupleIsFree
  refine ev_bind (ev_field (.head _) rfl (ev_pure ?_))
  dsimp only
  rw [if_pos rfl]
  refine ev_bind (ev_rule ?_)
  refine ev_bind (ev_field (.head _) rfl ?_)
  show EV c m _ (setField (.ref z) 0 .ellipsis >>= _) _ _
  refine ev_bind (ev_setField (pre := []) (post := (TI, tupO [.ref i1, .ref i2]) :: (TO, oT) :: (i1, o1) :: (i2, o2) :: ν₁) (by simp) (fun _ h => nomatch h) ?_ ?_)
  · intro p hp
    rcases hp with _ | ⟨_, _ | ⟨_, _ | ⟨_, _ | ⟨_, hp⟩⟩⟩⟩
    · exact Z.a1
    · exact Z.a2
    · exact Z.a3
    · exact Z.a4
    · exact (hne p hp).1
  show EV c m (zLed z TI TO i1 i2 .ellipsis oT o1 o2 a b ++ ν₁) _ _ _
  refine ev_bind ?_
  simp only [List.zipIdx_cons, List.zipIdx_nil, List.forIn_cons, List.forIn_nil]
  refine ev_bind (ev_bind (ev_onRaise ?_))
  show EV c m _ (nextOf (.ref i1) >>= _) _ _
  refine ev_bind (ev_nextS (pre := [(z, zO .ellipsis TI TO), (TI, tupO [.ref i1, .ref i2]), (TO, oT)]) (post := (i2, o2) :: ν₁) h1 hx ?_ ?_ fun o1' v h1' => ev_pure ?_)
  · intro p hp
    rcases hp with _ | ⟨_, _ | ⟨_, _ | ⟨_, hp⟩⟩⟩
    · exact Z.a3.symm
    · exact Z.a6
    · exact Z.a8
    · cases hp
  · intro p hp
    rcases hp with _ | ⟨_, hp⟩
    · exact Z.a10.symm
    · exact (hne p hp).2.2.2.1
  show EV c m (zLed z TI TO i1 i2 .ellipsis oT o1' o2 a b ++ ν₁) _ _ _
  refine ev_bind (ev_seqT (.tail _ (.tail _ (.head _))) hT ?_)
  show EV c m _ (updateSeq TO (·.setIfInBounds 0 (.str ⟨#[u]⟩ v)) >>= _) _ _
  refine ev_bind (ev_updT (pre := [(z, zO .ellipsis TI TO), (TI, tupO [.ref i1, .ref i2])]) (post := (i1, o1') :: (i2, o2) :: ν₁) hT (by simp) ?_ ?_ fun oT1 hT1 => ?_)
  · intro p hp
    rcases hp with _ | ⟨_, _ | ⟨_, hp⟩⟩
    · exact Z.a2.symm
    · exact Z.a5
    · cases hp
  · intro p hp
    rcases hp with _ | ⟨_, _ | ⟨_, hp⟩⟩
    · exact Z.a8.symm
    · exact Z.a9.symm
    · exact (hne p hp).2.2.1
  refine ev_bind (ev_letGo (ev_pure ?_))
  refine ev_bind (ev_bind (ev_onRaise ?_))
  show EV c m _ (nextOf (.ref i2) >>= _) _ _
  refine ev_bind (ev_nextTu (pre := [(z, zO .ellipsis TI TO), (TI, tupO [.ref i1, .ref i2]), (TO, oT1), (i1, o1')]) (post := ν₁) h2 (List.mem_append_right _ hm) hot hy ?_ ?_ fun o2' h2' => ev_pure ?_)
  · intro p hp
    rcases hp with _ | ⟨_, _ | ⟨_, _ | ⟨_, _ | ⟨_, hp⟩⟩⟩⟩
    · exact Z.a4.symm
    · exact Z.a7
    · exact Z.a9
    · exact Z.a10
    · cases hp
  · intro p hp
    exact (hne p hp).2.2.2.2
  show EV c m (zLed z TI TO i1 i2 .ellipsis oT1 o1' o2' a b ++ ν₁) _ _ _
  refine ev_bind (ev_seqT (.tail _ (.tail _ (.head _))) hT1 ?_)
  show EV c m _ (updateSeq TO (·.setIfInBounds 1 y) >>= _) _ _
  refine ev_bind (ev_updT (pre := [(z, zO .ellipsis TI TO), (TI, tupO [.ref i1, .ref i2])]) (post := (i1, o1') :: (i2, o2') :: ν₁) hT1 (by simp) ?_ ?_ fun oT2 hT2 => ?_)
  · intro p hp
    rcases hp with _ | ⟨_, _ | ⟨_, hp⟩⟩
    · exact Z.a2.symm
    · exact Z.a5
    · cases hp
  · intro p hp
    rcases hp with _ | ⟨_, _ | ⟨_, hp⟩⟩
    · exact Z.a8.symm
    · exact Z.a9.symm
    · exact (hne p hp).2.2.1
  refine ev_bind (ev_letGo (ev_pure ?_))
  refine ev_pure ?_
  show EV c m (zLed z TI TO i1 i2 .ellipsis oT2 o1' o2' a b ++ ν₁) _ _ _
  refine ev_bind (ev_seqT (.tail _ (.tail _ (.head _))) hT2 ?_)
  refine ev_bind (ev_newTuple (fun T hT3 => ?_) (hsz := by simp [sizeLine]))
  show EV c m _ (ownedTupleHandOut (.ref z) (.ref T) >>= _) _ _
  refine ev_bind ?_
  unfold ownedTupleHandOut
  dsimp only
  have sep : ∀ p ∈ (TI, tupO [.ref i1, .ref i2]) :: (TO, oT2) :: (i1, o1') :: (i2, o2') :: ν₁, p.1 ≠ z := by
    intro p hp
    rcases hp with _ | ⟨_, _ | ⟨_, _ | ⟨_, _ | ⟨_, hp⟩⟩⟩⟩
    · exact Z.a1
    · exact Z.a2
    · exact Z.a3
    · exact Z.a4
    · exact (hne p hp).1
  have sepT : ∀ p ∈ [(T, tupO [.str ⟨#[u]⟩ v, y])], p.1 ≠ z := by
    intro p hp
    cases hp with
    | head => exact Nat.ne_of_gt (hT3 _ (.head _))
    | tail _ hp => cases hp
  refine ev_bind (ev_setField (pre := [(T, tupO [.str ⟨#[u]⟩ v, y])]) (by simp) sepT sep ?_)
  refine ev_setField (pre := [(T, tupO [.str ⟨#[u]⟩ v, y])]) (by simp) sepT sep ?_
  refine ev_post (ev_pure ⟨_, ?_, h T v oT2 o1' o2' (fun p hp => ?_) hT2 h1' h2'⟩)
  · intro p hp
    rcases hp with _ | ⟨_, _ | ⟨_, _ | ⟨_, _ | ⟨_, _ | ⟨_, _ | ⟨_, hp⟩⟩⟩⟩⟩⟩
    · exact .tail _ (.head _)
    · exact .tail _ (.tail _ (.head _))
    · exact .tail _ (.tail _ (.tail _ (.head _)))
    · exact .tail _ (.tail _ (.tail _ (.tail _ (.head _))))
    · exact .tail _ (.tail _ (.tail _ (.tail _ (.tail _ (.head _)))))
    · exact .head _
    · exact .tail _ (.tail _ (.tail _ (.tail _ (.tail _ (.tail _ hp)))))
  · rcases hp with _ | ⟨_, hp⟩
    · exact hT3 (z, zO .ellipsis TI TO) (.head _)
    · exact hT3 p (.tail _ hp)

/-- the str's iterator has ended: so has zip -/
theorem zip_end {s : Shared} {E : Value → Shared → Prop} {Q : Fin → Shared → Prop} {A : Around} {z TI TO i1 i2 : Addr} {o1 : Obj} {x : Str} {t : Tok} {k : Nat} (hh : A.handled = none) (Z : ZAp z TI TO i1 i2) (hz : s.heap.get? z = some (zO .none TI TO)) (hTI : s.heap.get? TI = some (tupO [.ref i1, .ref i2])) (he1 : s.heap.get? i1 = some o1) (h1 : SIt o1 x t k) (hx : x.cps[k]? = none)
    (hE : ∀ h' e, (∀ b o, b ≠ z → b ≠ i1 → s.heap.get? b = some o → h'.get? b = some o) → (∃ o, h'.get? e = some o ∧ o.cls = .type "StopIteration") → E (.ref e) { s with heap := h' }) :
    wpAny (model Pg c.w) A (Builtin.«zip.__next__» ⟨[.ref z], []⟩) Q E s := by
  show wpAny _ _ (field (.ref z) 2 >>= _) _ _ _
  refine wpAny_bind (wpAny_field hz rfl (x := .bool false) rfl ?_)
  show wpAny _ _ (field (.ref z) 3 >>= _) _ _ _
  refine wpAny_bind (wpAny_field hz rfl (x := .ref TI) rfl ?_)
  refine wpAny_bind (wpAny_seqItems hTI rfl ?_)
  show wpAny _ _ (ownedTupleIsFree (.ref z) >>= _) _ _ _
  refine wpAny_bind ?_
  unfold ownedTupleIsFree
  refine wpAny_bind (wpAny_field hz rfl (x := .none) rfl (wpAny_pure ?_))
  rw [if_pos rfl]
  refine wpAny_bind (wpAny_rule ?_)
  refine wpAny_bind (wpAny_field hz rfl (x := .ref TO) rfl ?_)
  refine wpAny_bind (wpAny_setField_rec hz (by simp) fun h₁ hz₁ hs₁ => ?_)
  refine wpAny_bind ?_
  simp only [List.zipIdx_cons, List.zipIdx_nil, List.forIn_cons, List.forIn_nil]
  refine wpAny_bind (wpAny_bind (wpAny_onRaise ?_))
  show wpAny _ _ (nextOf (.ref i1) >>= _) _ _ _
  refine wpAny_bind (wpAny_nextOf_ascii_end hh (x := x) (t := t) (i := k) ⟨o1, hs₁.extBut _ _ Z.a3 he1, h1.1, h1.2⟩ hx fun h₂ e hs₂ he => ?_)
  obtain ⟨oe, hoe, hce⟩ := he
  have hz₂ := hs₂ _ _ Z.a3.symm hz₁
  have hez : e ≠ z := fun q => by
    subst q
    rw [hz₂] at hoe
    cases hoe
    simp at hce
  refine wpAny_setField_rec hz₂ (by simp) fun h₃ _ hs₃ => hE h₃ e (fun b o b1 b2 y => hs₃.extBut _ _ b1 (hs₂ _ _ b2 (hs₁.extBut _ _ b1 y))) ⟨oe, hs₃.extBut _ _ hez hoe, hce⟩

def zOwn (z TI TO i1 i2 : Addr) (a : Addr) : Prop := a = z ∨ a = TI ∨ a = TO ∨ a = i1 ∨ a = i2
def zB (z TI TO i1 i2 tt : Addr) (x : Str) (t : Tok) (k : Nat) (b : Led) : Prop := ∃ oT o1 o2 p q, b = zLed z TI TO i1 i2 .none oT o1 o2 p q ∧ TupO oT [p, q] ∧ SIt o1 x t k ∧ TIt o2 tt k
def zItem (x : Str) (vs : List Value) (k : Nat) (v : Value) (δ : Led) : Prop := ∃ T u y w, x.cps[k]? = some u ∧ vs[k]? = some y ∧ v = .ref T ∧ δ = [(T, tupO [.str ⟨#[u]⟩ w, y])]
theorem yldZ {elts : List Expr} {kk : Nat} {pos : Pos} {z TI TO i1 i2 tt : Addr} {x : Str} {t : Tok} {ot : Obj} {vs : List Value} (Z : ZAp z TI TO i1 i2) (hot : TupO ot vs) (hn : x.cps.size = vs.length) :
    Yld c z (.Tuple elts kk pos) (zOwn z TI TO i1 i2) vs.length (zB z TI TO i1 i2 tt x t) (zItem x vs) (fun L => (tt, ot) ∈ L) := by
  refine ⟨?_, ?_⟩
  · rintro k b ν₁ m PO R ⟨oT, o1, o2, p, q, rfl, hT, h1, h2⟩ hc hs hend hnext
    have hne : ∀ p ∈ ν₁, p.1 ≠ z ∧ p.1 ≠ TI ∧ p.1 ≠ TO ∧ p.1 ≠ i1 ∧ p.1 ≠ i2 := fun p hp => ⟨fun e => hc p hp (.inl e), fun e => hc p hp (.inr (.inl e)), fun e => hc p hp (.inr (.inr (.inl e))), fun e => hc p hp (.inr (.inr (.inr (.inl e)))), fun e => hc p hp (.inr (.inr (.inr (.inr e))))⟩
    intro s Q E F N hQ hE
    have ez : s.heap.get? z = some (zO .none TI TO) := (N _ (.head _)).1
    have hT' : s.TypeIs (.ref z) "zip" := ⟨_, ez, rfl⟩
    unfold pyNext
    by_cases hk : k < vs.length
    · refine wpAny_bind (wpAny_attempt (wpAny_callSpecial?_slot (name := Str.ofString "__next__") hT' PySem.F.slot_zip_next (wpAny_call_entry PySem.F.slot_zip_next hT' PySem.F.entry_zip_next ?_ (PySem.F.args_zip_next_1 _))))
      show wpAny (model Pg c.in1.w) c.in1.A _ _ _ _
      refine wpAny_mono (ev_zipBody (c := c.in1) (R := NoX) (u := x.cps[k]'(by omega)) (y := vs[k]) Z hT h1 h2 hs hot (by simp) (by simp [hk]) hne (P := fun fin m' ν' => ∃ v, fin = .done (.ret v) ∧ PO (some v) m' ν') (fun T v oT' o1' o2' hab hT2 h1' h2' => ⟨_, rfl, ?_⟩) s _ ⟨fun _ _ => False, PassesOwn.never⟩ F N (fun fin m' ν' h' tk' hp F' N' => ?_) (fun _ _ _ hx => hx)) (fun _ _ x => x) (fun _ _ x => x.elim)
      · refine hnext hk _ [(T, _)] _ ⟨T, _, _, v, by simp, by simp [hk], rfl, rfl⟩ (fun p' hp' => ?_) (fun m' PU R' ν₂ hc2 hPU => ?_)
        · cases hp' with
          | head =>
            refine ⟨fun q hq => hab q (List.mem_append_right _ hq), ?_⟩
            rintro (e | e | e | e | e)
            · exact Nat.ne_of_gt (hab _ (.head _)) e
            · exact Nat.ne_of_gt (hab _ (.tail _ (.head _))) e
            · exact Nat.ne_of_gt (hab _ (.tail _ (.tail _ (.head _)))) e
            · exact Nat.ne_of_gt (hab _ (.tail _ (.tail _ (.tail _ (.head _))))) e
            · exact Nat.ne_of_gt (hab _ (.tail _ (.tail _ (.tail _ (.tail _ (.head _)))))) e
          | tail _ hp' => cases hp'
        · intro s Q E F N hQ hE
          refine wpAny_letOwnedTupleGo_zip (N _ (.head _)).1 (fun h' hz' hs' => ?_)
          have sep : ∀ p ∈ (TI, tupO [.ref i1, .ref i2]) :: (TO, oT') :: (i1, o1') :: (i2, o2') :: ν₂, p.1 ≠ z := by
            intro p hp
            rcases hp with _ | ⟨_, _ | ⟨_, _ | ⟨_, _ | ⟨_, hp⟩⟩⟩⟩
            · exact Z.a1
            · exact Z.a2
            · exact Z.a3
            · exact Z.a4
            · exact fun e => hc2 p hp (.inl e)
          obtain ⟨F', N'⟩ := news_put F N sep hz' hs'
          exact hQ _ _ _ h' s.toks (hPU (zLed z TI TO i1 i2 .none oT' o1' o2' _ _) ⟨_, _, _, _, _, rfl, hT2, h1', h2'⟩) F' N'
      · obtain ⟨v, rfl, hp⟩ := hp
        exact ⟨v, rfl, wpAny_pure (hQ _ _ _ _ _ hp F' N')⟩
    · refine wpAny_bind (wpAny_attempt (wpAny_callSpecial?_slot (name := Str.ofString "__next__") hT' PySem.F.slot_zip_next (wpAny_call_entry PySem.F.slot_zip_next hT' PySem.F.entry_zip_next ?_ (PySem.F.args_zip_next_1 _))))
      refine zip_end (c := c) (A := c.A.in1) c.hh Z ez (N _ (.tail _ (.head _))).1 (N _ (.tail _ (.tail _ (.tail _ (.head _))))).1 h1 (by simp; omega) (fun h' e hk' he => ?_)
      obtain ⟨o, ho, hc'⟩ := he
      refine wpAny_bind (wpAny_isInstance (T := "StopIteration") (b := true) ⟨o, ho, hc'⟩ isSubtype_stop (wpAny_pure ?_))
      have nz := N _ (.head _)
      have ni := N _ (.tail _ (.tail _ (.tail _ (.head _))))
      obtain ⟨oL, heL, hnL⟩ := ns_obj F.ns
      refine hQ _ _ _ h' s.toks (hend (Nat.le_of_not_lt hk)) ⟨hnL.ns (hk' _ _ (Ne.symm nz.2.1) (Ne.symm ni.2.1) heL), fun b o e => hk' b o ?_ ?_ (F.keep b o e), F.above⟩ (fun p hp => ?_)
      · exact fun q => by rw [q, nz.2.2] at e; cases e
      · exact fun q => by rw [q, ni.2.2] at e; cases e
      · have np := N p (List.mem_append_right _ hp)
        exact ⟨hk' _ _ (hne p hp).1 (hne p hp).2.2.2.1 np.1, np.2⟩
  · rintro k b ν m P R ⟨oT, o1, o2, p, q, rfl, hT, h1, h2⟩ hs h
    exact fun s Q E F N hQ hE => wpAny_pyIter_zip (N _ (hs _ (.head _))).1 (hQ _ _ _ s.heap s.toks h F N)
end
end Mine

end
section
open Builtin.SmallTypes
open Sem (wp)
namespace Mine
abbrev zH1 (h : Heap) (x : Str) (t : Tok) : Heap := h.push { cls := .type "str_ascii_iterator", data := .fields #[.str x t, .int 0 0] }
abbrev zH2 (h : Heap) (x : Str) (t : Tok) (l : Addr) : Heap := (zH1 h x t).push { cls := .type "tuple_iterator", data := .fields #[.ref l, .int 0 0] }
abbrev zH3 (h : Heap) (x : Str) (t : Tok) (l : Addr) : Heap := (zH2 h x t l).push { cls := .type "tuple", data := .seq #[.ref h.objs.size, .ref (zH1 h x t).objs.size] }
abbrev zH4 (h : Heap) (x : Str) (t : Tok) (l : Addr) : Heap := (zH3 h x t l).push { cls := .type "tuple", data := .seq #[.none, .none] }
abbrev zH5 (h : Heap) (x : Str) (t : Tok) (l : Addr) : Heap := (zH4 h x t l).push { cls := .type "zip", data := .fields #[.none, .bool false, .bool false, .ref (zH2 h x t l).objs.size, .ref (zH3 h x t l).objs.size] }
theorem meets_zipST (x : Str) (t : Tok) (l : Addr) (ys : Array Value) (hx : x.cps.all (· < 128) = true) :
    Meets (Builtin.«zip.__new__» ⟨[.type "zip", .str x t, .ref l], []⟩) (fun _ R s => s.heap.IsTuple l ys ∧
      R (.ok (.ret (.ref (zH4 s.heap x t l).objs.size))) { s with heap := zH5 s.heap x t l }) :=
  .of_wp fun prog w A R s h => by
    obtain ⟨hp, g, d, tk, os⟩ := s; obtain ⟨hl, h⟩ := h
    have hsub := sub_zip
    have hL : Heap.IsTuple (Shared.heap ⟨hp.push { cls := .type "str_ascii_iterator", data := .fields #[.str x t, .int 0 0] }, g, d, tk, os⟩) l ys := Heap.IsTuple.push hl _
    wp_walk using wpAny_pyIter_ascii hx, wpAny_pyIter_tuple hL
    exact ⟨_, rfl, h⟩
section
variable {α β : Type} {c : Cx} {m : Loc} {ν : Led} {R : RX} {env : Env}
variable {P : Value → Loc → Led → Prop} {PB : Bool → Loc → Led → Prop} {PF : Flow → Loc → Led → Prop} {PU : Unit → Loc → Led → Prop} {PO : Option Value → Loc → Led → Prop} {PL : List Value → Loc → Led → Prop}
theorem ev_zip {x : Str} {t : Tok} {l : Addr} {o : Obj} {vs : List Value} (hx : x.cps.all (· < 128) = true) (hm : (l, o) ∈ ν) (ho : TupO o vs)
    (h : ∀ z TI TO i1 i2 b, ZAp z TI TO i1 i2 → zB z TI TO i1 i2 l x t 0 b → (∀ a, zOwn z TI TO i1 i2 a → Above a ν) → P (.ref z) m (b ++ ν)) : EV c m ν (call (.type "zip") [.str x t, .ref l]) P R := by
  intro s Q E F N hQ hE
  refine callType_new PySem.F.called_zip (by decide) (PySem.F.typeCall_zip_2 _ _) (PySem.F.newCall_zip_2 _ _) (fun obj => PySem.F.args_object_init_3 obj _ _) PySem.F.entry_zip_new (meets_zipST x t l vs.toArray hx) ⟨ho.at (N.get hm), ?_⟩
  generalize hS : s.heap.objs.size = S
  have z1 : (zH1 s.heap x t).objs.size = S + 1 := by rw [Heap.size_push, hS]
  have z2 : (zH2 s.heap x t l).objs.size = S + 2 := by rw [Heap.size_push, z1]
  have z3 : (zH3 s.heap x t l).objs.size = S + 3 := by rw [Heap.size_push, z2]
  have z4 : (zH4 s.heap x t l).objs.size = S + 4 := by rw [Heap.size_push, z3]
  have F1 := F.push { cls := .type "str_ascii_iterator", data := .fields #[.str x t, .int 0 0] }
  have N1 := N.push F { cls := .type "str_ascii_iterator", data := .fields #[.str x t, .int 0 0] } rfl
  have F2 := F1.push { cls := .type "tuple_iterator", data := .fields #[.ref l, .int 0 0] }
  have N2 := N1.push F1 { cls := .type "tuple_iterator", data := .fields #[.ref l, .int 0 0] } rfl
  have F3 := F2.push { cls := .type "tuple", data := .seq #[.ref s.heap.objs.size, .ref (zH1 s.heap x t).objs.size] }
  have N3 := N2.push F2 { cls := .type "tuple", data := .seq #[.ref s.heap.objs.size, .ref (zH1 s.heap x t).objs.size] } rfl
  have F4 := F3.push { cls := .type "tuple", data := .seq #[.none, .none] }
  have N4 := N3.push F3 { cls := .type "tuple", data := .seq #[.none, .none] } rfl
  have F5 := F4.push { cls := .type "zip", data := .fields #[.none, .bool false, .bool false, .ref (zH2 s.heap x t l).objs.size, .ref (zH3 s.heap x t l).objs.size] }
  have N5 := N4.push F4 { cls := .type "zip", data := .fields #[.none, .bool false, .bool false, .ref (zH2 s.heap x t l).objs.size, .ref (zH3 s.heap x t l).objs.size] } rfl
  have up : ∀ a, zOwn (S + 4) (S + 2) (S + 3) S (S + 1) a → Above a ν := by
    intro a ha p hp
    have : @LT.lt Nat _ p.1 S := hS ▸ Heap.lt_size (N p hp).1
    rcases ha with rfl | rfl | rfl | rfl | rfl
    · exact Nat.lt_of_lt_of_le this (Nat.le_add_right _ _)
    · exact Nat.lt_of_lt_of_le this (Nat.le_add_right _ _)
    · exact Nat.lt_of_lt_of_le this (Nat.le_add_right _ _)
    · exact this
    · exact Nat.lt_of_lt_of_le this (Nat.le_add_right _ _)
  have ap : ZAp (S + 4) (S + 2) (S + 3) S (S + 1) := by
    constructor <;> (intro e; have e' : @Eq Nat _ _ := e; omega)
  have g := h (S + 4) (S + 2) (S + 3) S (S + 1) (zLed (S + 4) (S + 2) (S + 3) S (S + 1) .none (tupO [.none, .none]) { cls := .type "str_ascii_iterator", data := .fields #[.str x t, .int 0 0] } { cls := .type "tuple_iterator", data := .fields #[.ref l, .int 0 0] } .none .none) ap ⟨_, _, _, _, _, rfl, tupO_mk, ⟨rfl, rfl⟩, ⟨rfl, rfl⟩⟩ up
  refine ⟨⟨_, (N5 _ (.head _)).1, rfl⟩, ?_⟩
  show Q (.ref (zH4 s.heap x t l).objs.size) _
  rw [z4]
  refine hQ _ _ _ _ s.toks g F5 ?_
  have e3 : (zH3 s.heap x t l).objs.size = S + 3 := z3
  have n5 := N5 _ (.head _)
  have n4 := N5 _ (.tail _ (.head _))
  have n3 := N5 _ (.tail _ (.tail _ (.head _)))
  have n2 := N5 _ (.tail _ (.tail _ (.tail _ (.head _))))
  have n1 := N5 _ (.tail _ (.tail _ (.tail _ (.tail _ (.head _)))))
  change (zH5 s.heap x t l).get? (zH4 s.heap x t l).objs.size = some (recO "zip" #[.none, .bool false, .bool false, .ref (zH2 s.heap x t l).objs.size, .ref (zH3 s.heap x t l).objs.size]) ∧ (zH4 s.heap x t l).objs.size ≠ c.L ∧ c.h₀.get? (zH4 s.heap x t l).objs.size = none at n5
  change (zH5 s.heap x t l).get? (zH3 s.heap x t l).objs.size = some _ ∧ (zH3 s.heap x t l).objs.size ≠ c.L ∧ c.h₀.get? (zH3 s.heap x t l).objs.size = none at n4
  change (zH5 s.heap x t l).get? (zH2 s.heap x t l).objs.size = some (tupO [.ref s.heap.objs.size, .ref (zH1 s.heap x t).objs.size]) ∧ (zH2 s.heap x t l).objs.size ≠ c.L ∧ c.h₀.get? (zH2 s.heap x t l).objs.size = none at n3
  change (zH5 s.heap x t l).get? (zH1 s.heap x t).objs.size = some _ ∧ (zH1 s.heap x t).objs.size ≠ c.L ∧ c.h₀.get? (zH1 s.heap x t).objs.size = none at n2
  change (zH5 s.heap x t l).get? s.heap.objs.size = some _ ∧ s.heap.objs.size ≠ c.L ∧ c.h₀.get? s.heap.objs.size = none at n1
  rw [z4, z3, z2] at n5
  rw [z3] at n4
  rw [z2, z1, hS] at n3
  rw [z1] at n2
  rw [hS] at n1
  intro p hp
  rcases hp with _ | ⟨_, _ | ⟨_, _ | ⟨_, _ | ⟨_, _ | ⟨_, hp⟩⟩⟩⟩⟩
  · exact n5
  · exact n3
  · exact n4
  · exact n1
  · exact n2
  · exact N5 p (.tail _ (.tail _ (.tail _ (.tail _ (.tail _ hp)))))
end
end Mine

end
section
namespace Mine
section
variable {α β : Type} {c : Cx} {m : Loc} {ν : Led} {R : RX} {env : Env}
variable {P : Value → Loc → Led → Prop} {PB : Bool → Loc → Led → Prop} {PF : Flow → Loc → Led → Prop} {PU : Unit → Loc → Led → Prop} {PO : Option Value → Loc → Led → Prop} {PL : List Value → Loc → Led → Prop}
/- unpacking -/
theorem ev_unpackT {t : Addr} {o : Obj} {vs : List Value} {n : Nat} (hm : (t, o) ∈ ν) (ho : TupO o vs) (hn : n = vs.length) (h : PL vs m ν) : EV c m ν (unpackItems (.ref t) n none) PL R := by
  subst hn
  intro s Q E F N hQ hE
  have := unpackItems_tuple (prog := Pg) (w := c.w) (A := c.A) (E := E.f) (Q := Q) (items := vs.toArray) c.hh (ho.at' (N.get hm)) (fun h' he => hQ _ _ _ h' s.toks (by simpa using h) (F.extBut he (Nat.le_refl _)) (fun p hp => ⟨he _ _ (Nat.ne_of_lt (Heap.lt_size (N p hp).1)) (N p hp).1, (N p hp).2⟩))
  simpa using this
theorem ev_unpackL {t : Addr} {o : Obj} {vs : List Value} {n : Nat} (hm : (t, o) ∈ ν) (ho : LstO o vs) (hn : n = vs.length) (h : PL vs m ν) : EV c m ν (unpackItems (.ref t) n none) PL R := by
  subst hn
  intro s Q E F N hQ hE
  exact PySem.W.kun_items F N (ho.at (N.get hm)) c.hh (by simp) (fun h' F' N' => hQ _ _ _ h' s.toks (by simpa using h) F' N')
theorem ev_assignT {elts : List Expr} {k : Nat} {pos : Pos} {v : Value} {vs : List Value} (h : EV c m ν (unpackItems v vs.length none) (fun xs m₁ ν₁ => EV c m₁ ν₁ (assignInOrder ((assignEach elts env).map (·.2)) xs) PU R) R) (hn : (assignEach elts env).length = vs.length) (hstar : (assignEach elts env).findIdx? (·.1) = none) :
    EV c m ν (assign (.Tuple elts k pos) env v) PU R := by
  intro s Q E F N hQ hE
  rw [arm_assign_Tuple]
  refine wpAny_bind (wpAny_standAt ?_)
  unfold unpack
  rw [hn, hstar]
  exact wpAny_bind (wpAny_holding (h s _ E F N (fun xs m₁ ν₁ h₁ k₁ x F₁ N₁ => x _ Q E F₁ N₁ hQ hE) hE))
theorem ev_order0 {xs : List Value} (h : PU () m ν) : EV c m ν (assignInOrder [] xs) PU R := ev_pure h
theorem ev_order {t : Value → Sem Unit} {ts : List (Value → Sem Unit)} {x : Value} {xs : List Value} (h : EV c m ν (t x) (fun _ m₁ ν₁ => EV c m₁ ν₁ (assignInOrder ts xs) PU R) R) : EV c m ν (assignInOrder (t :: ts) (x :: xs)) PU R := by
  show EV c m ν (do holding xs (t x); assignInOrder ts xs) PU R
  exact ev_bind (ev_holding h)
theorem ev_bindName {x : Str} {v : Value} (h : EV c m ν (storeName env x v) PU R) : EV c m ν (bindName env x v) PU R := fun s Q E F N hQ hE => wpAny_bindName (h s Q E F N hQ hE)

/- slices -/
/-- text[:upper] -/
theorem ev_To {value upper : Expr} {p pos : Pos} (h : EV c m ν (eval value env) (fun v m₁ ν₁ => EV c m₁ ν₁ (eval upper env) (fun i m₂ ν₂ => ∃ x t j u, v = .str x t ∧ i = .int j u ∧ x.length ≤ 2 ^ 20 ∧ ∀ t', P (.str (Txt.slice x none (some j)) t') m₂ ν₂) R) R)
    (hs : ∀ (x : Str) (t : Tok) (S : Addr), subscripted (.Slice none (some upper) none p) false (.str x t) (.ref S) = operate [.ref S, .str x t] (getItem (.str x t) (.ref S)) := by intro _ _ _; with_unfolding_all rfl)
    (hg : ∀ (x : Str) (t : Tok) r, letTemporaryGo value (.str x t) r = pure () := by intro _ _ _; with_unfolding_all rfl) : EV c m ν (eval (.Subscript value (.Slice none (some upper) none p) pos) env) P R := by
  intro s Q E F N hQ hE
  refine Subscript_ (h s _ E F N (fun v m₁ ν₁ h₁ k₁ x F₁ N₁ => wpAny_Slice (wpAny_pure (x _ _ E F₁ N₁ (fun i m₂ ν₂ h₂ k₂ y F₂ N₂ => wpAny_pure ?_) hE))) hE)
  obtain ⟨x, t, j, u, rfl, rfl, h3, hP⟩ := y
  exact slice_strN_ns (s := { s with heap := h₂, toks := k₂ }) (uj := u) F₂ N₂ (fun h' t' k F' N' => hQ _ _ _ h' k (hP t') F' N') (hs _ _ _) (hg _ _) (Nat.le_trans h3 (by decide))

/- texts -/
theorem ev_eqS {x y : Str} {t u : Tok} (h : P (.bool (x == y)) m ν) : EV c m ν (compareOp .Eq (.str x t) (.str y u)) P R := fun s Q E F N hQ hE => PyProof.Rows.eq_str (hQ _ _ _ s.heap s.toks h F N)
theorem ev_neS {x y : Str} {t u : Tok} (h : P (.bool (x != y)) m ν) : EV c m ν (compareOp .NotEq (.str x t) (.str y u)) P R := fun s Q E F N hQ hE => PyProof.Rows.ne_str (hQ _ _ _ s.heap s.toks h F N)
theorem ev_inS {x y : Str} {t u : Tok} (h : P (.bool !(Builtin.Str.occurrences x y 0 x.length 1).isEmpty) m ν) : EV c m ν (compareOp .In (.str y u) (.str x t)) P R := fun s Q E F N hQ hE => PyProof.Rows.in_str (hQ _ _ _ s.heap s.toks h F N)
theorem ev_lenS {x : Str} {t : Tok} (hf : x.length < 2 ^ 40 := by walk_at "zlen") (h : ∀ k, P (.int x.length k) m ν) : EV c m ν (call (.builtin "len") [.str x t]) P R := fun s Q E F N hQ hE => PyProof.Rows.len_str (by omega) (hQ _ _ _ s.heap _ (h _) F N)
theorem ev_strI {a : Int} {t : Tok} (ha : a.natAbs.log2 < 1920) (h : ∀ k, P (.str (toString a) k) m ν) : EV c m ν (call (.type "str") [.int a t]) P R := fun s Q E F N hQ hE => PySem.P.str_of_int ha (hQ _ _ _ s.heap _ (h _) F N)
theorem ev_strS {x : Str} {t : Tok} (h : P (.str x t) m ν) : EV c m ν (call (.type "str") [.str x t]) P R := fun s Q E F N hQ hE => PySem.P.str_of_str (hQ _ _ _ s.heap s.toks h F N)
theorem ev_addS {x y : Str} {t u : Tok} (hsz : x.length + y.length ≤ 2 ^ 20) (h : ∀ k, P (.str (x ++ y) k) m ν) : EV c m ν (binaryOp .Add (.str x t) (.str y u)) P R := fun s Q E F N hQ hE => PyProof.Rows.add_str (fun t' tk => hQ _ _ _ s.heap _ (h _) F N) (Nat.le_trans hsz (by decide))
theorem ev_inTup {K : Frag} {a : Addr} {vs : List Value} {ys : List Str} {x : Str} {u : Tok} {o : Obj} (hk : (fr.heap_1 c.w.params).lookup a = some o) (ho : o.cls = .type "tuple") (hd : ∃ n, o.data = .seq vs.toArray n) (hi : StrsAre vs ys) (h : P (.bool (ys.any (· == x))) m ν) : EV c m ν (compareOp .In (.str x u) (.ref a)) P R :=
  fun s Q E F N hQ hE => in_tuple_strs (items := vs.toArray) ⟨o, c.X.keeps F.keep _ _ hk, ho, hd⟩ (by simpa using hi) (hQ _ _ _ s.heap s.toks h F N)
theorem ev_notInTupL {a : Addr} {vs : List Value} {ys : List Str} {x : Str} {u : Tok} {o : Obj} (hm : (a, o) ∈ ν) (ho : TupO o vs) (hi : StrsAre vs ys) (h : P (.bool (!(ys.any (· == x)))) m ν) : EV c m ν (compareOp .NotIn (.str x u) (.ref a)) P R :=
  fun s Q E F N hQ hE => notin_tuple_strs (items := vs.toArray) (ho.at' (N.get hm)) (by simpa using hi) (hQ _ _ _ s.heap s.toks h F N)

/-- SHAPES.get -/
noncomputable abbrev getK (w : World) : Addr → Option Obj := fun a => List.lookup a (fr.heap_1 w.params)
theorem ev_getD {D : List (Str × KTD.Dat)} {a : Addr} {pl : Sem Bool} {PM : Value × List Value → Loc → Led → Prop} (hl : KTD.TextTab c.h₀ a D) (h : PM (.builtin "dict.get", [.ref a]) m ν) : EV c m ν (getMethod (.ref a) "get" pl) PM R :=
  fun s Q E F N hQ hE => KTD.getMethod_text (h₀ := c.h₀) (D := D) ⟨hl, F.keep⟩ (hQ _ _ _ s.heap s.toks h F N)
theorem ev_get1D {D : List (Str × KTD.Dat)} {a : Addr} {k : Str} {t : Tok} (hl : KTD.TextTab c.h₀ a D) (h : KTD.Each c.h₀ k (fun v => P v m ν) (P .none m ν) D) : EV c m ν (call (.builtin "dict.get") [.ref a, .str k t]) P R := by
  intro s Q E F N hQ hE
  refine KTD.get1_text (h₀ := c.h₀) (D := D) ⟨hl, F.keep⟩ ?_
  have go : ∀ D : List (Str × KTD.Dat), KTD.Each c.h₀ k (fun v => P v m ν) (P .none m ν) D → KTD.Each c.h₀ k (fun v => Q v { s with toks := s.toks + 1 }) (Q .none { s with toks := s.toks + 1 }) D := by
    intro D
    induction D with
    | nil => exact fun h => hQ _ _ _ s.heap _ h F N
    | cons p D ih =>
      obtain ⟨x, d⟩ := p
      intro h
      have h' : if decide (k = x) = true then KTD.Opened c.h₀ (fun v => P v m ν) d else KTD.Each c.h₀ k (fun v => P v m ν) (P .none m ν) D := h
      show if decide (k = x) = true then KTD.Opened c.h₀ _ d else KTD.Each c.h₀ k _ _ D
      by_cases hx : decide (k = x) = true
      · rw [if_pos hx] at h' ⊢
        have im : ∀ v, P v m ν → Q v { s with toks := s.toks + 1 } := fun v hv => hQ _ _ _ s.heap _ hv F N
        cases d with
        | flat d => cases d <;> first | exact im _ h' | exact fun t => im _ (h' t) | exact fun v hv => im _ (h' v hv)
        | float b => exact fun t => im _ (h' t)
        | nums ns => exact fun a ha => im _ (h' a ha)
        | words ns => exact fun a ha => im _ (h' a ha)
        | tup ns => exact fun a vs ha hb => im _ (h' a vs ha hb)
        | tab ns => exact fun a ha => im _ (h' a ha)
      · rw [if_neg hx] at h' ⊢
        exact ih h'
  exact go D h
def shapesL : List (Str × Str) := [("const", "dx"), ("move", "ds"), ("global", "dx"), ("setglobal", "xs"), ("static", "dx"), ("capture", "dx"), ("call", "dsm"), ("splat", "dsmx"), ("kwcall", "dsxmm"), ("closure", "dxm"), ("box", "d"), ("unbox", "dsx"), ("setbox", "ss"), ("clear", "d"), ("goto", "g"), ("unless", "sg"), ("return", "s"), ("enter", "g"), ("leave", "x"), ("caught", "d"), ("rethrow", ""), ("defined", "sx"), ("method", "xsx"), ("invoke", "dxm"), ("guard", "xg")]
theorem shapes_in : KTD.TextTab c.h₀ 55 (shapesL.map fun p => (p.1, KTD.Dat.flat (.str p.2))) := by
  refine KTD.text_of_look (get := getK c.w) (fun a o e => c.X _ _ e) ?_
  kernel_rfl
theorem ev_shapes {k : Str} {t : Tok} (h1 : ∀ y t', shapesL.lookup k = some y → P (.str y t') m ν) (h2 : shapesL.lookup k = none → P .none m ν) : EV c m ν (call (.builtin "dict.get") [.ref 55, .str k t]) P R := by
  refine ev_get1D shapes_in ?_
  generalize shapesL = D at h1 h2
  induction D with
  | nil => exact h2 rfl
  | cons p D ih =>
    obtain ⟨x, y⟩ := p
    show if decide (k = x) = true then KTD.Opened c.h₀ _ _ else KTD.Each c.h₀ k _ _ _
    by_cases hx : k = x
    · rw [if_pos (decide_eq_true hx)]
      exact fun t' => h1 y t' (by simp [hx])
    · rw [if_neg (by simpa using hx)]
      have hb : (k == x) = false := by simpa using hx
      exact ih (fun y' t' e => h1 y' t' (by rw [List.lookup_cons, hb]; exact e)) (fun e => h2 (by rw [List.lookup_cons, hb]; exact e))
end
end Mine

end
section
namespace Mine
section
variable {c : Cx} {m : Loc} {ν : Led} {R : RX} {P : Value → Loc → Led → Prop}
/-- a def of the top with cells is called -/
theorem ev_callC {f : Addr} {args : List Value} {kw : List (Str × Value)} {n : Nat} {name qual : Str} {params : Arguments} {body : List Stmt} {scope : Scope} {dV kV doc pm cdv ct oc : Value} {an od : Option Addr} {osl : Array (Option Value)} {binds : List (Str × Value)} {Rb : RX} {m₀ : Loc} {cs : Addr → List (Str × Addr)} {cm : Str → Option Value}
    (ho : (fr.heap_1 c.w.params).lookup f = some ⟨oc, od, .func (fnOf name qual params body scope dV kV doc pm an cdv ct), osl⟩) (hcd : codeIn (fr.heap_1 c.w.params) cdv qual = true) (hr : Room c (n + 1))
    (hbind : ∀ s : Shared, BindsTo s (fnOf name qual params body scope dV kV doc pm an cdv ct) ⟨args, kw⟩ binds) (hkind : (binds.all fun y => scope.names.lookup y.1 == some .local || scope.names.lookup y.1 == some .cell) = true)
    (hnd : ((cellsFrom 0 scope.names []).map (·.1)).Nodup) (hm : ∀ L, bindL (envOfC qual scope L f cdv).kindOf binds (fun _ => none) = m₀) (hcm : ∀ L, bindC (envOfC qual scope L f cdv).kindOf binds (fun _ => none) = cm) (hcs : ∀ L, cellsFrom (L + 1) scope.names [] = cs L)
    (hck : (scope.isCoroutine, scope.isGenerator, scope.kind) = (false, false, .function))
    (h : ∀ (c' : Cx) cells, Room c' n → (c'.base = c.base ∧ c'.w = c.w) → CellsAre cm (cs c'.L) cells → (∀ p ∈ ν, @LT.lt Nat _ p.1 c'.L) → EV c' m₀ (cells ++ ν) (execs body (envOfC qual scope c'.L f cdv)) (fun fl _ ν' => P (retOf fl) m ν') Rb)
    (hR : ∀ e h', Rb e h' → False) :
    EV c m ν (call (.ref f) args kw) P R := by
  intro s Q E F N hQ hE
  obtain ⟨hco, hk'⟩ := Prod.mk.inj hck
  obtain ⟨hgen, hk⟩ := Prod.mk.inj hk'
  refine wpAny_call (code_defC c.B F c.X N c.T c.hA c.hf c.hk ho hcd (Nat.lt_of_le_of_lt (Nat.le_add_right _ _) hr.1) (hbind s) hkind hnd (fun g L' h₁ tk cells FG F' N' Y B' X' T' lt => ?_) hco hgen hk)
  rw [hm] at F'
  rw [hcm, hcs] at Y
  let c' : Cx := ⟨c.w, L', c.A.deeper (envOfC qual scope L' f cdv), c.A, c.base, g, c.env :: c.outer, envOfC qual scope L' f cdv, c.p, c.loose, c.mean, c.mg, c.mb, B', X', T', c.Xb, c.Tb, Around.frames_deeper c.hA, rfl, hk, hgen, hco, rfl, rfl, c.hi.keeps FG.keep, c.ht, c.hh, c.hgd⟩
  have r' : Room c' n := room_deeper hr
  have lift : ∀ (s' : Shared) (m' : Loc) (ν' : Led), Fr g L' s'.heap m' → News g L' s'.heap ν' → Fr c.h₀ c.L s'.heap m ∧ News c.h₀ c.L s'.heap ν' := by
    intro s' m' ν' F2 N2
    refine ⟨FG.keeps F2.keep, fun p hp => ⟨(N2 p hp).1, fun q => ?_, ?_⟩⟩
    · obtain ⟨oL, heL, -⟩ := ns_obj FG.ns
      have := (N2 p hp).2.2; rw [q, heL] at this; cases this
    · cases q : c.h₀.get? p.1 with
      | none => rfl
      | some o => have := (N2 p hp).2.2; rw [FG.keep _ _ q] at this; cases this
  exact wpAny_mono (h c' cells r' ⟨rfl, rfl⟩ Y lt { s with heap := h₁, toks := tk } _ ⟨fun _ _ => False, PassesOwn.never⟩ F' N' (fun fl m' ν' h' tk' hp F2 N2 => leaveK_ F2 N2 fun a b => hQ _ _ _ h' tk' hp a b) (fun e h' _ hx => hR e h' hx)) (fun _ _ x => x) (fun _ _ x => x.elim)
end

section
variable {c : Cx} {m : Loc} {ν : Led} {R : RX} {P : Value → Loc → Led → Prop}
/-- a tuple's item at a place told by a number from 0 on -/
theorem ev_itemTN {value slice : Expr} {l : Addr} {o : Obj} {vs : List Value} {k : Int} {u : Tok} {x : Value} (hm : (l, o) ∈ ν := by walk_at "zmem") (ho : TupO o vs := by walk_at "zo") (h0 : 0 ≤ k := by decide) (hhi : k < 2 ^ 63 := by decide) (hx : vs[k.toNat]? = some x := by exact rfl) (h : P x m ν)
    (hs : subscripted slice false (.ref l) (.int k u) = operate [.ref l, .int k u] (getItem (.ref l) (.int k u)) := by with_unfolding_all rfl) : EV c m ν (subscriptTail value slice (.ref l) (.int k u)) P R := by
  have lt : k.toNat < vs.length := (List.getElem?_eq_some_iff.mp hx).1
  refine ev_itemT hm ho (by omega) hhi (j := k.toNat) ?_ hx h hs
  unfold seqIndex?
  simp only [show ¬ k < 0 from by omega, if_false]
  rw [if_pos (by simp only [Bool.and_eq_true, decide_eq_true_eq]; omega)]
end
section
variable {c : Cx} {m : Loc} {ν : Led} {R : RX} {env : Env} {PU : Unit → Loc → Led → Prop} {PF : Flow → Loc → Led → Prop}
abbrev kSt (c : Cx) (env : Env) (a : Str) (x : Value) (PU : Unit → Loc → Led → Prop) (R : RX) : Unit → Loc → Led → Prop := fun _ m ν => EV c m ν (storeName env a x) PU R
theorem ev_assignT2 {a b : Str} {pa pb pos : Pos} {k : Nat} {T : Addr} {o : Obj} {x y : Value} (hm : (T, o) ∈ ν := by walk_at "zmem") (ho : TupO o [x, y] := by walk_at "zo") (h : EV c m ν (storeName env a x) (kSt c env b y PU R) R) : EV c m ν (assign (.Tuple [.Name a pa, .Name b pb] k pos) env (.ref T)) PU R :=
  ev_assignT (vs := [x, y]) (ev_unpackT hm ho rfl (ev_order (ev_assignName (ev_imp h fun _ _ _ g => ev_order (ev_assignName (ev_imp g fun _ _ _ g' => ev_order0 g')))))) rfl rfl
theorem ev_assignL3 {a b d : Str} {pa pb pd pos : Pos} {k : Nat} {T : Addr} {o : Obj} {x y z : Value} (hm : (T, o) ∈ ν := by walk_at "zmem") (ho : LstO o [x, y, z] := by walk_at "zo") (h : EV c m ν (storeName env a x) (kSt c env b y (kSt c env d z PU R) R) R) : EV c m ν (assign (.Tuple [.Name a pa, .Name b pb, .Name d pd] k pos) env (.ref T)) PU R :=
  ev_assignT (vs := [x, y, z]) (ev_unpackL hm ho rfl (ev_order (ev_assignName (ev_imp h fun _ _ _ g => ev_order (ev_assignName (ev_imp g fun _ _ _ g' => ev_order (ev_assignName (ev_imp g' fun _ _ _ g'' => ev_order0 g'')))))))) rfl rfl
abbrev kSw2 (c : Cx) (env : Env) (a b : Str) (PF : Flow → Loc → Led → Prop) (R : RX) : Value → Loc → Led → Prop := fun v m ν => ∃ T o x y, v = .ref T ∧ (T, o) ∈ ν ∧ TupO o [x, y] ∧ EV c m ν (storeName env b y) (kSt c env a x (kNext PF) R) R
theorem ev_AssignSwap2 {elts : List Expr} {k : Nat} {tpos pos : Pos} {value : Expr} {a b : Str} (h : EV c m ν (eval value env) (kSw2 c env a b PF R) R)
    (hs : swapsWithSole [.Tuple elts k tpos] value pos.line env = pure false := by with_unfolding_all rfl) (hw : swappedStores [.Tuple elts k tpos] value env = pure (some [a, b]) := by with_unfolding_all rfl) : EV c m ν (exec (.Assign [.Tuple elts k tpos] value pos) env) PF R :=
  ev_AssignSwap (names := [a, b]) (ev_imp h fun v m₁ ν₁ g => by
    obtain ⟨T, o, x, y, rfl, hm, ho, g⟩ := g
    exact ev_unpackT hm ho rfl (ev_order (ev_bindName (ev_imp g fun _ _ _ g' => ev_order (ev_bindName (ev_imp g' fun _ _ _ g'' => ev_order0 g'')))))) hs hw
end
theorem ev_itemTK {c : Cx} {m : Loc} {ν : Led} {R : RX} {P : Value → Loc → Led → Prop} {value slice : Expr} {l : Addr} {o : Obj} {vs : List Value} {k : Nat} {u : Tok} {x : Value} (hm : (l, o) ∈ ν := by walk_at "zmem") (ho : TupO o vs := by walk_at "zo") (hhi : k < 1048576 := by omega) (hx : vs[k]? = some x := by assumption) (h : P x m ν)
    (hs : subscripted slice false (.ref l) (.int k u) = operate [.ref l, .int k u] (getItem (.ref l) (.int k u)) := by with_unfolding_all rfl) : EV c m ν (subscriptTail value slice (.ref l) (.int (k : Nat) u)) P R :=
  ev_itemTN hm ho (Int.natCast_nonneg _) (by omega) hx h hs
theorem ite_isF {b : Bool} {p q : Prop} (hb : b = false) (h : q) : if b = true then p else q := by rw [hb]; exact ite_F h
theorem ite_isT {b : Bool} {p q : Prop} (hb : b = true) (h : p) : if b = true then p else q := by rw [hb]; exact ite_T h
theorem vn_str {x : Str} {t : Tok} : (Value.str x t == Value.none) = false := rfl
theorem vn_int {x : Int} {t : Tok} : (Value.int x t == Value.none) = false := rfl
theorem vn_none : (Value.none == Value.none) = true := rfl
/-- both ways of a test -/
theorem ite_B {b : Bool} {p q : Prop} (h : b = true → p) (h' : b = false → q) : if b = true then p else q := by
  cases b
  · exact ite_F (h' rfl)
  · exact ite_T (h rfl)
/- data -/
inductive At
  | int (n : Int)
  | str (x : Str)
  | bool (b : Bool)
def AtV : At → Value → Prop
  | .int n, v => ∃ t, v = .int n t
  | .str x, v => ∃ t, v = .str x t
  | .bool b, v => v = .bool b
inductive Pay
  | one (a : At)
  | tup (l : List At)
/-- a part of a row: a register set, one read, several read, a goal, other -/
inductive Part
  | d (n : Int)
  | s (n : Int)
  | m (l : List Int)
  | g (n : Int)
  | x (p : Pay)
def Part.pay : Part → Pay
  | .d n => .one (.int n)
  | .s n => .one (.int n)
  | .m l => .tup (l.map .int)
  | .g n => .one (.int n)
  | .x p => p
def Part.letter : Part → Nat
  | .d _ => 100
  | .s _ => 115
  | .m _ => 109
  | .g _ => 103
  | .x _ => 120
inductive AllV {α : Type} (S : α → Value → Prop) : List α → List Value → Prop
  | nil : AllV S [] []
  | cons {a : α} {v : Value} {as : List α} {vs : List Value} : S a v → AllV S as vs → AllV S (a :: as) (v :: vs)
theorem AllV.length {α : Type} {S : α → Value → Prop} : ∀ {as : List α} {vs : List Value}, AllV S as vs → vs.length = as.length
  | _, _, .nil => rfl
  | _, _, .cons _ r => by simp [r.length]
theorem AllV.mono {α : Type} {S S' : α → Value → Prop} (h : ∀ a v, S a v → S' a v) : ∀ {as : List α} {vs : List Value}, AllV S as vs → AllV S' as vs
  | _, _, .nil => .nil
  | _, _, .cons x r => .cons (h _ _ x) (r.mono h)
theorem AllV.at {α : Type} {S : α → Value → Prop} : ∀ {as : List α} {vs : List Value} {k : Nat} {v : Value}, AllV S as vs → vs[k]? = some v → ∃ a, as[k]? = some a ∧ S a v
  | _, _, k, _, .nil, e => by cases e
  | _, _, 0, _, .cons x r, e => by cases e; exact ⟨_, rfl, x⟩
  | _, _, k + 1, _, .cons x r, e => r.at e
theorem AllV.snoc {α : Type} {S : α → Value → Prop} {a : α} {v : Value} : ∀ {as : List α} {vs : List Value}, AllV S as vs → S a v → AllV S (as ++ [a]) (vs ++ [v])
  | _, _, .nil, h => .cons h .nil
  | _, _, .cons x r, h => .cons x (r.snoc h)
theorem AllV.app {α : Type} {S : α → Value → Prop} {bs : List α} {ws : List Value} : ∀ {as : List α} {vs : List Value}, AllV S as vs → AllV S bs ws → AllV S (as ++ bs) (vs ++ ws)
  | _, _, .nil, h => h
  | _, _, .cons x r, h => .cons x (r.app h)
theorem AllV.drop {α : Type} {S : α → Value → Prop} : ∀ (k : Nat) {as : List α} {vs : List Value}, AllV S as vs → AllV S (as.drop k) (vs.drop k)
  | 0, _, _, h => h
  | k + 1, _, _, .nil => .nil
  | k + 1, _, _, .cons x r => r.drop k
theorem AllV.get {α : Type} {S : α → Value → Prop} : ∀ {as : List α} {vs : List Value} {k : Nat} {a : α}, AllV S as vs → as[k]? = some a → ∃ v, vs[k]? = some v ∧ S a v
  | _, _, k, _, .nil, e => by cases e
  | _, _, 0, _, .cons x r, e => by cases e; exact ⟨_, rfl, x⟩
  | _, _, k + 1, _, .cons x r, e => r.get e
def PayV (ν : Led) : Pay → Value → Prop
  | .one a, v => AtV a v
  | .tup l, v => ∃ b o vs, v = .ref b ∧ (b, o) ∈ ν ∧ TupO o vs ∧ AllV AtV l vs
structure Row where
  name : Str
  parts : List Part
def PartV (ν : Led) (p : Part) (v : Value) : Prop := PayV ν p.pay v
def RowV (ν : Led) (r : Row) (v : Value) : Prop := ∃ b o t vs, v = .ref b ∧ (b, o) ∈ ν ∧ TupO o (.str r.name t :: vs) ∧ AllV (PartV ν) r.parts vs
abbrev RowsV (ν : Led) : List Row → List Value → Prop := AllV (RowV ν)
/-- the tuples stay -/
def IsT (o : Obj) : Prop := ∃ vs, TupO o vs
def KeepT (ν ν' : Led) : Prop := ∀ p ∈ ν, IsT p.2 → p ∈ ν'
theorem TupO.cls {o : Obj} {vs : List Value} (h : TupO o vs) : o.cls = .type "tuple" := by
  obtain ⟨n, rfl⟩ := h
  rfl
theorem PayV.mono {ν ν' : Led} (h : KeepT ν ν') {p : Pay} {v : Value} (x : PayV ν p v) : PayV ν' p v := by
  cases p with
  | one a => exact x
  | tup l => obtain ⟨b, o, vs, e, hm, ho, r⟩ := x; exact ⟨b, o, vs, e, h _ hm ⟨_, ho⟩, ho, r⟩
theorem PartV.mono {ν ν' : Led} (h : KeepT ν ν') {p : Part} {v : Value} (x : PartV ν p v) : PartV ν' p v := PayV.mono h x
theorem RowV.mono {ν ν' : Led} (h : KeepT ν ν') {r : Row} {v : Value} (x : RowV ν r v) : RowV ν' r v := by
  obtain ⟨b, o, t, vs, e, hm, ho, a⟩ := x
  exact ⟨b, o, t, vs, e, h _ hm ⟨_, ho⟩, ho, a.mono fun _ _ y => y.mono h⟩
theorem KeepT.refl {ν : Led} : KeepT ν ν := fun _ h _ => h
theorem KeepT.of {ν ν' : Led} (h : ∀ p ∈ ν, p ∈ ν') : KeepT ν ν' := fun p hp _ => h p hp
theorem KeepT.cons {ν ν' : Led} (h : KeepT ν ν') (q : Addr × Obj) : KeepT ν (q :: ν') := fun p hp e => .tail _ (h p hp e)
theorem KeepT.trans {ν ν' ν'' : Led} (h : KeepT ν ν') (h' : KeepT ν' ν'') : KeepT ν ν'' := fun p hp e => h' _ (h p hp e) e
theorem KeepT.drop {ν ν' : Led} {q : Addr × Obj} (h : KeepT ν ν') (hq : ¬ IsT q.2) : KeepT (q :: ν) ν' := fun p hp e => by
  rcases List.mem_cons.mp hp with rfl | hp
  · exact absurd e hq
  · exact h p hp e
theorem KeepT.app {ν ν' : Led} (h : KeepT ν ν') (δ : Led) : KeepT ν (δ ++ ν') := fun p hp e => List.mem_append_right _ (h p hp e)
theorem comp_done {own : Addr → Prop} {src : Led → Prop} {C D : Addr} {oC oD : Obj} {mC : Loc} {b ν' ν'' : Led} {m : Loc} {I : Led → Prop} (hs : ∀ p ∈ (C, oC) :: (D, oD) :: (b ++ ν''), p ∈ ν') (hN : NsObj oC mC) (hne : ∀ p ∈ ν'', ¬ own p.1 ∧ p.1 ≠ C ∧ p.1 ≠ D) (hsrc : src ν'') (hI : I ν'') : CompDone own src C D oD b m I m ν' :=
  ⟨rfl, oC, mC, ν'', hN, hs, hne, hsrc, hI⟩
/- ledgers: subsets, apartness -/
theorem sub_nil {L : Led} : ∀ p ∈ ([] : Led), p ∈ L := fun _ h => nomatch h
theorem sub_cons {x : Addr × Obj} {A L : Led} (h : x ∈ L) (h' : ∀ p ∈ A, p ∈ L) : ∀ p ∈ x :: A, p ∈ L := fun p hp => by
  rcases List.mem_cons.mp hp with rfl | hp
  · exact h
  · exact h' p hp
theorem sub_app {A B L : Led} (h : ∀ p ∈ A, p ∈ L) (h' : ∀ p ∈ B, p ∈ L) : ∀ p ∈ A ++ B, p ∈ L := fun p hp => (List.mem_append.mp hp).elim (h p) (h' p)
theorem sub_tail {x : Addr × Obj} {A L : Led} (h : ∀ p ∈ A, p ∈ L) : ∀ p ∈ A, p ∈ x :: L := fun p hp => .tail _ (h p hp)
theorem sub_inl {A B L : Led} (h : ∀ p ∈ A, p ∈ L) : ∀ p ∈ A, p ∈ L ++ B := fun p hp => List.mem_append_left _ (h p hp)
theorem sub_inr {A B L : Led} (h : ∀ p ∈ A, p ∈ L) : ∀ p ∈ A, p ∈ B ++ L := fun p hp => List.mem_append_right _ (h p hp)
theorem ne_nil {a : Addr} : ∀ p ∈ ([] : Led), p.1 ≠ a := fun _ h => nomatch h
theorem ne_cons {x : Addr × Obj} {A : Led} {a : Addr} (h : x.1 ≠ a) (h' : ∀ p ∈ A, p.1 ≠ a) : ∀ p ∈ x :: A, p.1 ≠ a := fun p hp => by
  rcases List.mem_cons.mp hp with rfl | hp
  · exact h
  · exact h' p hp
theorem ne_app {A B : Led} {a : Addr} (h : ∀ p ∈ A, p.1 ≠ a) (h' : ∀ p ∈ B, p.1 ≠ a) : ∀ p ∈ A ++ B, p.1 ≠ a := fun p hp => (List.mem_append.mp hp).elim (h p) (h' p)
theorem Above.ne {a : Addr} {A : Led} (h : Above a A) : ∀ p ∈ A, p.1 ≠ a := fun p hp => Nat.ne_of_lt (h p hp)
theorem Above.tail {a : Addr} {x : Addr × Obj} {A : Led} (h : Above a (x :: A)) : Above a A := fun p hp => h p (.tail _ hp)
theorem Above.head {a : Addr} {x : Addr × Obj} {A : Led} (h : Above a (x :: A)) : @LT.lt Nat _ x.1 a := h x (.head _)
theorem Above.right {a : Addr} {A B : Led} (h : Above a (A ++ B)) : Above a B := fun p hp => h p (List.mem_append_right _ hp)
theorem Above.left {a : Addr} {A B : Led} (h : Above a (A ++ B)) : Above a A := fun p hp => h p (List.mem_append_left _ hp)
theorem gtN {a b : Addr} (h : @LT.lt Nat _ a b) : b ≠ a := Nat.ne_of_gt h
theorem ltN' {a b : Addr} (h : @LT.lt Nat _ a b) : a ≠ b := Nat.ne_of_lt h
/-- the cells of a list of ints -/
abbrev IntV (n : Int) (v : Value) : Prop := ∃ t, v = .int n t
def usesP : Part → List Int
  | .s n => [n]
  | .m l => l
  | _ => []
def goalsP : Part → List Int
  | .g n => [n]
  | _ => []
def Row.uses (r : Row) : List Int := r.parts.flatMap usesP
def Row.goals (r : Row) : List Int := r.parts.flatMap goalsP
def Row.sets (r : Row) : Option Int := match r.parts with
  | .d n :: _ => some n
  | _ => none
theorem take_next {α β : Type} {l : List α} {k : Nat} {a : α} (f : α → List β) (h : l[k]? = some a) : (l.take (k + 1)).flatMap f = (l.take k).flatMap f ++ f a := by
  rw [List.take_add_one, h]
  simp
theorem zrow_item {ν : Led} {letters : Str} {parts : List Part} {vs : List Value} {k : Nat} {v : Value} {δ : Led} (hl : letters = ⟨(parts.map Part.letter).toArray⟩) (h : zItem letters vs k v δ) (ha : AllV (PartV ν) parts vs) :
    ∃ T p y w, parts[k]? = some p ∧ PartV ν p y ∧ v = .ref T ∧ δ = [(T, tupO [.str ⟨#[p.letter]⟩ w, y])] := by
  obtain ⟨T, u, y, w, hu, hy, rfl, rfl⟩ := h
  obtain ⟨p, hp, hpv⟩ := ha.at hy
  subst hl
  have : (parts.map Part.letter)[k]? = some u := by simpa using hu
  rw [List.getElem?_map, hp] at this
  cases this
  exact ⟨T, p, y, w, hp, hpv, rfl, rfl⟩
theorem ints_at {l : List Int} {vs : List Value} (h : AllV AtV (l.map .int) vs) : AllV IntV l vs := by
  induction l generalizing vs with
  | nil => cases h; exact .nil
  | cons n l ih =>
    cases h with
    | cons x r => exact .cons x (ih r)
def Row.letters (r : Row) : Str := ⟨(r.parts.map Part.letter).toArray⟩
/-- the row has its name's parts -/
def Shaped (r : Row) : Prop := shapesL.lookup r.name = some r.letters
end Mine

end
section
namespace Mine
section
variable {c : Cx} {m : Loc} {ν : Led} {R : RX} {env : Env} {P : Value → Loc → Led → Prop}
/-- a function's object -/
def FnO (o : Obj) : Prop := ∃ fd, o.data = .func fd
theorem FnO.at {h : Heap} {f : Addr} {o : Obj} (x : FnO o) (e : h.get? f = some o) : FnAt f h := by
  obtain ⟨fd, hd⟩ := x
  obtain ⟨oc, od, dat, sl⟩ := o
  cases hd
  exact ⟨oc, od, fd, sl, e⟩
/-- the int function F, as an object of the ledger -/
structure Callee (ν : Led) (f : Addr) (F : Int → Int) : Prop where
  fn : ∃ o, (f, o) ∈ ν ∧ FnO o
  call : ∀ (c : Cx) m ν' P R n u, Room c 1 → (∀ p ∈ ν, p ∈ ν') → (∀ t, P (.int (F n) t) m ν') → EV c m ν' (call (.ref f) [.int n u]) P R
theorem Callee.more {ν ν' : Led} {f : Addr} {F : Int → Int} (h : Callee ν f F) (hs : ∀ p ∈ ν, p ∈ ν') : Callee ν' f F :=
  ⟨let ⟨o, a, b⟩ := h.fn; ⟨o, hs _ a, b⟩, fun c m ν₂ P R n u r h1 h2 => h.call c m ν₂ P R n u r (fun p hp => h1 p (hs p hp)) h2⟩
abbrev kFn (c : Cx) (f : Addr) (o : Obj) (P : Value → Loc → Led → Prop) (R : RX) : List Value → Loc → Led → Prop := fun vs m ν => (f, o) ∈ ν ∧ EV c m ν (call (.ref f) vs) P R
theorem ev_cwFn {f : Addr} {o : Obj} {e : Expr} {rest : List Expr} {pos : Pos} (hf : (f, o) ∈ ν := by walk_at "zmem") (hd : FnO o := by assumption) (h : EV c m ν (spliced (backTo pos (starEach (e :: rest) env))) (kFn c f o P R) R)
    (he : starEach (e :: rest) env = (false, eval e env) :: starEach rest env := by with_unfolding_all rfl) (hplain : (backTo pos (starEach rest env)).any (·.1) = false := by with_unfolding_all rfl) : EV c m ν (callWith pos (.ref f) [] (backTo pos (starEach (e :: rest) env)) []) P R :=
  fun s Q E F N hQ hE => callWith_F (q := f) (first := []) (hd.at (N.get hf)) (h s _ E F N (fun vs m₁ ν₁ h₁ k₁ x F₁ N₁ => ⟨hd.at (N₁.get x.1), x.2 _ Q E F₁ N₁ hQ hE⟩) hE) he hplain

/- lambdas -/
theorem ev_LambdaNew {cc T : Addr} {ps : Array Value} {params : Arguments} {body : Expr} {scope : Scope} {pos : Pos} {clos : List (Str × Addr)} {ν₁ : Led} (C : CodeHd c.base cc T) (hcode : env.code = .ref cc) (hgl : env.globals = mainGlobals) (hν : ∀ p ∈ (T, tabObj ps) :: ν₁, p ∈ ν) (hne : ∀ p ∈ ν₁, p.1 ≠ T)
    (ht : TriplesOk ps.toList) (hnf : codeAmong pos ps.toList = none) (hdef : defaultsOf params env = ([], [])) (hcl : closureFor scope env = pure clos)
    (h : ∀ f c' oc vs t ctv pm, oc.data = .fields vs → vs[1]? = some (.str (env.qual ++ "<lambda>") t) → Above c' ((T, tabObj ps) :: ν₁) → @LT.lt Nat _ c' f →
      P (.ref f) m ((f, kla_obj "<lambda>" (env.qual ++ "<lambda>") params body scope clos pm c' ctv) :: (c', oc) :: (T, tabObj (ps ++ #[rawInt pos.line, rawInt pos.col, .ref c'])) :: ν₁)) :
    EV c m ν (eval (.Lambda params body scope pos) env) P R := by
  intro s Q E F N hQ hE
  refine kla_eval hdef ?_
  have N₁ : News c.h₀ c.L s.heap ((T, tabObj ps) :: ν₁) := fun p hp => N p (hν p hp)
  have hm := N₁ _ (.head _)
  have hgs := c.T.g.keeps F.keep
  obtain ⟨bm, ob, b1, b2, b3, b4, b5, b6⟩ := c.T.bmain
  have hgP : mainGlobals ≠ T := fun q => by
    obtain ⟨o, es, ep, e, hd, _⟩ := hgs
    rw [q, hm.1] at e; cases e; cases hd
  have hbP : bm ≠ T := fun q => by
    have e := F.keep _ _ b3
    rw [q, hm.1] at e; cases e; cases b4
  have hbG : bm ≠ mainGlobals := fun q => by
    obtain ⟨o, es, ep, e, hd, _⟩ := c.T.g
    rw [q, e] at b3; cases b3; rw [hd] at b6; cases b6
  refine kla_makeFunction (mg := c.mg) hcl hgl hgs hcode (C.keeps fun b o e => F.keep b o (c.B.stays b o e)) hm.1 ht hnf hgP ⟨bm, ob, b1, b2, hbG, hbP, F.keep _ _ b3, b4, b5, b6⟩ fun c' ctv h' tk hx hge hlt hrec htb => ?_
  obtain ⟨c₂, oc, vs, t, e2, hoc, hd, hv⟩ := hrec
  cases e2
  obtain ⟨F', N'⟩ := news_ext F (fun p hp => N₁ p (.tail _ hp)) hm.2.1 hm.2.2 hne hx
  have hLc : @LT.lt Nat _ c.L c' := Nat.lt_of_lt_of_le F.ns.lt hge
  have fresh : c.h₀.get? c' = none := Heap.get?_none_of_le (Nat.le_trans F.above (Nat.le_of_lt hLc))
  have N2 : News c.h₀ c.L h' ((c', oc) :: (T, tabObj (ps ++ #[rawInt pos.line, rawInt pos.col, .ref c'])) :: ν₁) := by
    intro p hp
    rcases List.mem_cons.mp hp with rfl | hp
    · exact ⟨hoc, Nat.ne_of_gt hLc, fresh⟩
    · rcases List.mem_cons.mp hp with rfl | hp
      · exact ⟨htb, hm.2⟩
      · exact N' p hp
  exact hQ _ _ _ _ tk (h h'.objs.size c' oc vs t ctv _ hd hv (fun q hq => Nat.lt_of_lt_of_le (Heap.lt_size (N₁ q hq).1) hge) hlt) (F'.push _) (N2.push F' _ rfl)
theorem ev_LambdaHit {cc T c' : Addr} {ps : Array Value} {params : Arguments} {body : Expr} {scope : Scope} {pos : Pos} {clos : List (Str × Addr)} (C : CodeHd c.base cc T) (hcode : env.code = .ref cc) (hgl : env.globals = mainGlobals) (hmem : (T, tabObj ps) ∈ ν)
    (ht : TriplesOk ps.toList) (hnf : codeAmong pos ps.toList = some (.ref c')) (hdef : defaultsOf params env = ([], [])) (hcl : closureFor scope env = pure clos)
    (h : ∀ f ctv pm, Above f ν → P (.ref f) m ((f, kla_obj "<lambda>" (env.qual ++ "<lambda>") params body scope clos pm c' ctv) :: ν)) :
    EV c m ν (eval (.Lambda params body scope pos) env) P R := by
  intro s Q E F N hQ hE
  refine kla_eval hdef ?_
  have hm := N _ hmem
  have hgs := c.T.g.keeps F.keep
  obtain ⟨bm, ob, b1, b2, b3, b4, b5, b6⟩ := c.T.bmain
  have hbP : bm ≠ T := fun q => by
    have e := F.keep _ _ b3
    rw [q, hm.1] at e; cases e; cases b4
  have hbG : bm ≠ mainGlobals := fun q => by
    obtain ⟨o, es, ep, e, hd, _⟩ := c.T.g
    rw [q, e] at b3; cases b3; rw [hd] at b6; cases b6
  refine kla_makeFunctionHit (mg := c.mg) hcl hgl hgs hcode (C.keeps fun b o e => F.keep b o (c.B.stays b o e)) hm.1 ht hnf ⟨bm, ob, b1, b2, hbG, hbP, F.keep _ _ b3, b4, b5, b6⟩ fun ctv h' tk hk hsz => ?_
  have N' : News c.h₀ c.L h' ν := fun p hp => ⟨hk _ _ (N p hp).1, (N p hp).2⟩
  exact hQ _ _ _ _ tk (h h'.objs.size ctv _ (fun p hp => Heap.lt_size (N' p hp).1)) ((F.keeps hk).push _) (N'.push (F.keeps hk) _ rfl)
/-- a lambda of one int, without locals beside it, is called -/
theorem ev_callLam {f c' : Addr} {args : List Value} {n : Nat} {name qual : Str} {params : Arguments} {body : Expr} {scope : Scope} {cl : List (Str × Addr)} {pm ctv : Value} {oc : Obj} {vs : Array Value} {t : Tok} {binds : List (Str × Value)}
    (ho : (f, kla_obj name qual params body scope cl pm c' ctv) ∈ ν) (hoc : (c', oc) ∈ ν) (hd : oc.data = .fields vs) (hv : vs[1]? = some (.str qual t)) (hr : Room c (n + 1))
    (hbind : bindArgs (kla_fn name qual params body scope cl pm (.ref c') ctv) ⟨args, []⟩ = pure binds) (hloc : ∀ y ∈ binds, scope.names.lookup y.1 = some .local)
    (hck : (scope.isCoroutine, scope.isGenerator, scope.kind) = (false, false, .function)) (hcell : ∀ x ∈ scope.names, x.2 ≠ .cell)
    (h : ∀ c₂ : Cx, Room c₂ n → (c₂.base = c.base ∧ c₂.w = c.w) → EV c₂ (bnd noLoc binds) ν (eval body (envX qual scope c₂.L f (.ref c') cl)) (fun v _ ν' => P v m ν') NoX) :
    EV c m ν (call (.ref f) args) P R := by
  intro s Q E F N hQ hE
  obtain ⟨hco, hk'⟩ := Prod.mk.inj hck
  obtain ⟨hgen, hk⟩ := Prod.mk.inj hk'
  refine wpAny_call (kla_code c.B F c.X N c.T c.hA c.hf c.hk ho (codeRec_news N hoc hd hv) (Nat.lt_of_le_of_lt (Nat.le_add_right _ _) hr.1) hbind hloc (fun g L' h₁ FG F' N' B' X' T' => ?_) hco hgen hk hcell)
  let c₂ : Cx := ⟨c.w, L', c.A.deeper (envX qual scope L' f (.ref c') cl), c.A, c.base, g, c.env :: c.outer, envX qual scope L' f (.ref c') cl, c.p, c.loose, c.mean, c.mg, c.mb, B', X', T', c.Xb, c.Tb, Around.frames_deeper c.hA, rfl, hk, hgen, hco, rfl, rfl, c.hi.keeps FG.keep, c.ht, c.hh, c.hgd⟩
  exact wpAny_mono (h c₂ (room_deeper hr) ⟨rfl, rfl⟩ _ _ ⟨fun _ _ => False, PassesOwn.never⟩ (bnd_eq binds ▸ F') N' (fun v m' ν' h' tk' hp F2 N2 => leaveK_ F2 N2 fun a b => hQ _ _ _ h' tk' hp a b) (fun _ _ _ hx => hx)) (fun _ _ x => x) (fun _ _ x => x.elim)
end
end Mine

end
section
namespace Mine
section
variable {c : Cx} {m : Loc} {ν : Led} {R : RX} {env : Env} {P : Value → Loc → Led → Prop} {PU : Unit → Loc → Led → Prop} {PM : Value × List Value → Loc → Led → Prop}
def Cx.under (c : Cx) (a : Args) : Cx := { c with A := c.A.under (.builtin "type.__call__" a), hA := c.hA, hh := c.hh, hgd := c.hgd }
theorem Room.under {c : Cx} {n : Nat} {C : Addr} {l : List Value} (h : Room c (n + 1)) : Room (c.under ⟨.ref C :: l, []⟩) n := by
  have h1 := h.1
  have h2 := h.2
  have w : (Code.builtin "type.__call__" ⟨.ref C :: l, []⟩).weight = 1 := by kernel_rfl
  have u : (Code.builtin "type.__call__" ⟨.ref C :: l, []⟩).cUnits = 1 := by kernel_rfl
  refine ⟨?_, ?_⟩
  · show c.A.depth + (Code.builtin "type.__call__" ⟨.ref C :: l, []⟩).weight + n < recursionLimit
    omega
  · show c.A.units + (Code.builtin "type.__call__" ⟨.ref C :: l, []⟩).cUnits + 8 * n < cLine
    omega
/-- an object of a class with an __init__ of the text -/
theorem ev_make {C f : Addr} {args : List Value} {n : Nat} {name qual : Str} {params : Arguments} {body : List Stmt} {scope : Scope} {dV kV doc pm cdv ct oc : Value} {an od : Option Addr} {osl : Array (Option Value)} {binds : Addr → List (Str × Value)}
    (hm : makesIn (fr.heap_1 c.w.params) C = true) (hi : findIn (fr.heap_1 c.w.params) (.ref C) "__init__" = some (some (.ref f))) (hf : isFn (fr.heap_1 c.w.params) (.ref f) = true)
    (ho : (fr.heap_1 c.w.params).lookup f = some ⟨oc, od, .func (fnOf name qual params body scope dV kV doc pm an cdv ct), osl⟩) (hcd : codeIn (fr.heap_1 c.w.params) cdv qual = true) (hr : Room c (n + 2))
    (hbind : ∀ x (s : Shared), c.h₀.StaysIn s.heap → BindsTo s (fnOf name qual params body scope dV kV doc pm an cdv ct) ⟨.ref x :: args, []⟩ (binds x)) (hloc : ∀ x, ∀ y ∈ binds x, scope.names.lookup y.1 = some .local)
    (hck : (scope.isCoroutine, scope.isGenerator, scope.kind) = (false, false, .function)) (hcell : ∀ x ∈ scope.names, x.2 ≠ .cell)
    (h : ∀ x dx (c' : Cx), Above dx ν → @LT.lt Nat _ dx x → Room c' n → (c'.base = c.base ∧ c'.w = c.w) → EV c' (bnd noLoc (binds x)) ((x, instObj C dx) :: (dx, dictOf [] 0) :: ν) (execs body (envOf qual scope c'.L f cdv)) (fun fl _ ν' => retOf fl = .none ∧ P (.ref x) m ν') NoX) :
    EV c m ν (call (.ref C) args) P R := by
  intro s Q E F N hQ hE
  refine call_cls F c.X N hm hi hf (fun x dx h' F' N' l1 l2 => ?_)
  exact cev_call (c := c.under ⟨.ref C :: args, []⟩) (s := { s with heap := h' }) (P := fun v m' ν' => v = .none ∧ P (.ref x) m' ν') (R := NoX) (Rb := fun _ => NoX) F' N' (fun v ν' h' tk' hp F' N' => ⟨hp.1, hQ _ _ _ _ _ hp.2 F' N'⟩) (fun _ _ _ hx => hx.elim) ho hcd (Room.under hr) (hbind x) (hloc x) hck hcell
    (fun c' r' hb _ => h x dx c' (fun p hp => l1 p hp) l2 r' hb) (.inl fun _ _ _ x => x)
theorem ev_setAttr {x dx C : Addr} {es : List DictEntry} {n : Nat} {name : Str} {v : Value} {ν₁ : Led} (hx : (x, instObj C dx) ∈ ν₁ := by exact List.Mem.head _) (hν : ∀ p ∈ (dx, dictOf es n) :: ν₁, p ∈ ν) (hne : ∀ p ∈ ν₁, p.1 ≠ dx := by assumption)
    (hs : findIn (fr.heap_1 c.w.params) (.ref C) "__setattr__" = some (some (.builtin "object.__setattr__")) := by k_is) (hp : plainOver (fr.heap_1 c.w.params) C = true := by k_is) (ht : takerIn (fr.heap_1 c.w.params) C name = some none := by k_is) (hh : hasDictIn (fr.heap_1 c.w.params) C = true := by k_is) (hl : (getL name es).isSome = true := by exact rfl) (hz : es.length ≤ 900 := by exact Nat.le_of_ble_eq_true rfl)
    (h : ∀ t, PU () m ((dx, dictOf (putL name (PyData.keyHash c.w.params name) (.str name t) v es) (putN name es n)) :: ν₁)) : EV c m ν (setAttr (.ref x) name v) PU R := by
  intro s Q E F N hQ hE
  have N₁ : News c.h₀ c.L s.heap ((dx, dictOf es n) :: ν₁) := fun p hp => N p (hν p hp)
  have len : ∀ (l : List DictEntry) (hs : Int) (k : Value), (putL name hs k v l).length ≤ l.length + 1 := by
    intro l hs k
    induction l with
    | nil => exact Nat.le_refl _
    | cons e l ih =>
      unfold putL
      split
      · exact Nat.le_succ _
      · exact Nat.succ_le_succ ih
  refine set_dict F c.X N₁ ⟨(N₁ _ (.tail _ hx)).1, rfl, rfl, (N₁ _ (.head _)).1⟩ rfl hs hp ht hh hl rfl (Upd.head hne) (Nat.le_trans (len _ _ _) (by omega)) (fun h' F' N' => hQ _ _ _ h' _ (h (s.toks + 1)) F' N')
theorem ev_getAttr {x dx C : Addr} {es : List DictEntry} {n : Nat} {name : Str} {v : Value} {attr : Option Value} (hx : (x, instObj C dx) ∈ ν := by walk_at "zmem") (hdx : (dx, dictOf es n) ∈ ν := by walk_at "zmem")
    (hg : plainGet (fr.heap_1 c.w.params) C name = true := by k_is) (hh : hasDictIn (fr.heap_1 c.w.params) C = true := by k_is) (ha : findIn (fr.heap_1 c.w.params) (.ref C) name = some attr := by k_is) (hn : noGet (fr.heap_1 c.w.params) attr = true := by k_is) (hl : getL name es = some (some v) := by assumption) (hv : handedIn v = true := by exact rfl)
    (h : P v m ν) : EV c m ν (getAttr (.ref x) name true) P R :=
  fun s Q E F N hQ hE => get_own F c.X ⟨N.get hx, rfl, rfl, N.get hdx⟩ hg hh ha hn hl hv (hQ _ _ _ s.heap _ h F N)
end
end Mine

end
section
namespace Mine
section
variable {c : Cx} {m : Loc} {ν : Led} {R : RX} {env : Env} {P : Value → Loc → Led → Prop} {PU : Unit → Loc → Led → Prop} {PM : Value × List Value → Loc → Led → Prop} {PF : Flow → Loc → Led → Prop}
/- plain data, read through the ledger -/
theorem via_tup {h₀ : Heap} {b : Addr} {o : Obj} {vs : List Value} {ds : List PyData} (hm : (b, o) ∈ ν) (ho : TupO o vs) (r : ReadsViaAll h₀ ν vs ds) : ReadsVia h₀ ν (.ref b) (.tuple ds) := fun h hk hn => by
  obtain ⟨n, rfl⟩ := ho
  obtain ⟨as, q⟩ := r h hk hn
  exact ⟨as, reads_tuple_at (hn _ hm) rfl rfl (by simpa using q)⟩
theorem via_lst {h₀ : Heap} {b : Addr} {o : Obj} {vs : List Value} {ds : List PyData} (hm : (b, o) ∈ ν) (ho : LstO o vs) (r : ReadsViaAll h₀ ν vs ds) : ReadsVia h₀ ν (.ref b) (.list ds) := fun h hk hn => by
  obtain ⟨n, rfl⟩ := ho
  obtain ⟨as, q⟩ := r h hk hn
  exact ⟨_, reads_list_at (hn _ hm) rfl rfl (by simpa using q)⟩
theorem via_all {α : Type} {S : α → Value → Prop} {h₀ : Heap} {f : α → PyData} (hf : ∀ a v, S a v → ReadsVia h₀ ν v (f a)) : ∀ {as : List α} {vs : List Value}, AllV S as vs → ReadsViaAll h₀ ν vs (as.map f)
  | _, _, .nil => .nil
  | _, _, .cons x r => .cons (hf _ _ x) (via_all hf r)
def At.data : At → PyData
  | .int n => .int n
  | .str x => .str x
  | .bool b => .bool b
def Pay.data : Pay → PyData
  | .one a => a.data
  | .tup l => .tuple (l.map At.data)
def Row.data (r : Row) : PyData := .tuple (.str r.name :: r.parts.map fun p => p.pay.data)
theorem via_at {h₀ : Heap} (a : At) (v : Value) (h : AtV a v) : ReadsVia h₀ ν v a.data := by
  cases a with
  | int n => obtain ⟨t, rfl⟩ := h; exact .int n t
  | str x => obtain ⟨t, rfl⟩ := h; exact .str x t
  | bool b => cases h; exact .bool b
theorem via_pay {h₀ : Heap} (p : Pay) (v : Value) (h : PayV ν p v) : ReadsVia h₀ ν v p.data := by
  cases p with
  | one a => exact via_at a v h
  | tup l =>
    obtain ⟨b, o, vs, rfl, hm, ho, r⟩ := h
    exact via_tup hm ho (via_all via_at r)
theorem via_row {h₀ : Heap} (r : Row) (v : Value) (h : RowV ν r v) : ReadsVia h₀ ν v r.data := by
  obtain ⟨b, o, t, vs, rfl, hm, ho, a⟩ := h
  exact via_tup hm ho (.cons (.str _ _) (via_all (fun p v x => via_pay p.pay v x) a))
theorem ev_eqD {a b : Value} {da db : PyData} (ra : ReadsVia c.h₀ ν a da) (rb : ReadsVia c.h₀ ν b db) (ha : SeqAt.shaped da = true) (hb : SeqAt.shaped db = true) (hr : Room c 8) (h : P (.bool (PyData.eqv da db)) m ν) : EV c m ν (compareOp .Eq a b) P R := by
  intro s Q E F N hQ hE
  obtain ⟨as, r1⟩ := ra.at F N
  obtain ⟨bs, r2⟩ := rb.at F N
  exact eq_dataH r1 r2 ha hb (by have := hr.2; omega) (hQ _ _ _ s.heap s.toks h F N)
theorem ev_neD {a b : Value} {da db : PyData} (ra : ReadsVia c.h₀ ν a da) (rb : ReadsVia c.h₀ ν b db) (ha : SeqAt.shaped da = true) (hb : SeqAt.shaped db = true) (hr : Room c 8) (h : P (.bool (!PyData.eqv da db)) m ν) : EV c m ν (compareOp .NotEq a b) P R := by
  intro s Q E F N hQ hE
  obtain ⟨as, r1⟩ := ra.at F N
  obtain ⟨bs, r2⟩ := rb.at F N
  exact ne_dataH r1 r2 ha hb (by have := hr.2; omega) (hQ _ _ _ s.heap s.toks h F N)
theorem intsAre {l : List Int} {vs : List Value} (h : AllV IntV l vs) : IntsAre vs l := by
  induction h with
  | nil => exact .nil
  | cons x _ ih => obtain ⟨t, rfl⟩ := x; exact .cons _ _ ih
theorem ev_neI {a b : Addr} {oa ob : Obj} {vs ws : List Value} {l l' : List Int} (ha : (a, oa) ∈ ν) (hoa : LstO oa vs) (ia : AllV IntV l vs) (hb : (b, ob) ∈ ν) (hob : LstO ob ws) (ib : AllV IntV l' ws) (hr : Room c 8) (h : P (.bool (!decide (l = l'))) m ν) : EV c m ν (compareOp .NotEq (.ref a) (.ref b)) P R :=
  fun s Q E F N hQ hE => ke_ne_ints (hoa.at (N.get ha)) (hob.at (N.get hb)) (intsAre ia) (intsAre ib) (by have := hr.2; omega) (hQ _ _ _ s.heap s.toks h F N)
/-- a tuple and the empty tuple -/
theorem ev_eqT0 {a b : Addr} {oa ob : Obj} {vs : List Value} (ha : (a, oa) ∈ ν) (hoa : TupO oa vs) (hb : (b, ob) ∈ ν) (hob : TupO ob []) (hr : Room c 8) (h : P (.bool (vs.length == 0)) m ν) : EV c m ν (compareOp .Eq (.ref a) (.ref b)) P R :=
  fun s Q E F N hQ hE => SeqAt.eq_tupleAt (e := fun _ => true) (hoa.at (N.get ha)) (hob.at (N.get hb)) (by have := hr.2; omega) (fun j h1 h2 => absurd h2 (Nat.not_lt_zero _)) (by simpa using hQ _ _ _ s.heap s.toks h F N)
theorem ev_ExprAny {e : Expr} {pos : Pos} (h : EV c m ν (eval e env) (fun _ => PF .next) R) (hi : interactive env = false := by with_unfolding_all rfl) (hs : swapsWith e none pos.line env = pure false := by with_unfolding_all rfl) : EV c m ν (exec (.Expr e pos) env) PF R :=
  fun s Q E F N hQ hE => wpAny_Expr_any (h s _ E F N (fun v m₁ ν₁ h₁ k₁ x F₁ N₁ => hQ _ _ _ _ _ x F₁ N₁) hE) hi hs

/-- both ways of a conditional expression end alike -/
theorem kIf_join {a b : Expr} {x : Bool} (Mid : Value → Loc → Led → Prop) (h : kIf c env a b Mid R x m ν) (h' : ∀ v m' ν', Mid v m' ν' → P v m' ν') : kIf c env a b P R x m ν := by
  cases x with
  | true => exact ite_T (ev_imp (show EV c m ν (eval a env) Mid R from (if_pos rfl : (if true = true then EV c m ν (eval a env) Mid R else EV c m ν (eval b env) Mid R) = _) ▸ h) h')
  | false => exact ite_F (ev_imp (show EV c m ν (eval b env) Mid R from (if_neg Bool.false_ne_true : (if false = true then EV c m ν (eval a env) Mid R else EV c m ν (eval b env) Mid R) = _) ▸ h) h')
theorem ev_BoolAnd3 {a b d : Expr} {pos : Pos} (h : EV c m ν (eval a env) (fun v m₁ ν₁ => EV c m₁ ν₁ (truthy v) (fun t m₂ ν₂ => if t = true then EV c m₂ ν₂ (eval b env) (fun v' m₃ ν₃ => EV c m₃ ν₃ (truthy v') (fun t' m₄ ν₄ => if t' = true then EV c m₄ ν₄ (eval d env) P R else P v' m₄ ν₄) R) R else P v m₂ ν₂) R) R) : EV c m ν (eval (.BoolOp .And [a, b, d] pos) env) P R :=
  fun s Q E F N hQ hE => BoolOp_and (h s _ E F N (fun v m₁ ν₁ h₁ k₁ x F₁ N₁ => x _ _ E F₁ N₁ (fun t m₂ ν₂ h₂ k₂ y F₂ N₂ => by
    cases t
    · exact hQ _ _ _ _ _ y F₂ N₂
    · exact BoolOp_and (y _ _ E F₂ N₂ (fun v' m₃ ν₃ h₃ k₃ z F₃ N₃ => z _ _ E F₃ N₃ (fun t' m₄ ν₄ h₄ k₄ u F₄ N₄ => by
        cases t'
        · exact hQ _ _ _ _ _ u F₄ N₄
        · exact BoolOp_one (u _ Q E F₄ N₄ hQ hE)) hE) hE)) hE) hE)
/-- a waiting row and its depth -/
def PairV (ν : Led) (p : Int × Int) (v : Value) : Prop := ∃ b o t u, v = .ref b ∧ (b, o) ∈ ν ∧ TupO o [.int p.1 t, .int p.2 u]
theorem PairV.mono {ν ν' : Led} (h : KeepT ν ν') {p : Int × Int} {v : Value} (x : PairV ν p v) : PairV ν' p v := by
  obtain ⟨b, o, t, u, e, hm, ho⟩ := x
  exact ⟨b, o, t, u, e, h _ hm ⟨_, ho⟩, ho⟩
theorem pairs_lay (l : List (Int × Int)) : PyData.canLayAll0 (l.map fun p => PyData.tuple [.int p.1, .int p.2]) = true ∧ PyData.depthAll (l.map fun p => PyData.tuple [.int p.1, .int p.2]) ≤ 1 := by
  induction l with
  | nil => exact ⟨rfl, Nat.zero_le _⟩
  | cons p l ih => exact ⟨by simp [PyData.canLayAll0, PyData.canLay0, ih.1], by simp [PyData.depthAll, PyData.depth, ih.2]⟩
theorem ev_neW {a b : Addr} {oa ob : Obj} {vs : List Value} {l : List (Int × Int)} (ha : (a, oa) ∈ ν) (hoa : LstO oa vs) (ia : AllV (PairV ν) l vs) (hb : (b, ob) ∈ ν) (hob : LstO ob []) (hr : Room c 8) (h : P (.bool (!l.isEmpty)) m ν) : EV c m ν (compareOp .NotEq (.ref a) (.ref b)) P R := by
  have lay := pairs_lay l
  refine ev_neD (da := .list (l.map fun p => PyData.tuple [.int p.1, .int p.2])) (db := .list []) (via_lst ha hoa (via_all (fun p v x => ?_) ia)) (via_lst hb hob .nil) ?_ rfl hr ?_
  · obtain ⟨b, o, t, u, rfl, hm, ho⟩ := x
    exact via_tup hm ho (.cons (.int _ _) (.cons (.int _ _) .nil))
  · unfold SeqAt.shaped
    simp only [PyData.canLay0, PyData.depth, lay.1, Bool.true_and]
    exact decide_eq_true (by have := lay.2; omega)
  · cases l with
    | nil => exact h
    | cons p l => exact h
/- texts -/
theorem ev_strD {v : Value} {d : PyData} (r : ReadsVia c.h₀ ν v d) (hs : d.showable = true) (hnd : d.hasDict = false) (hd : isDisplay d = true) (hr : Room c 10) (hdep : d.depth ≤ 60) (hsz : d.shown.length ≤ 2 ^ 20) (h : ∀ t, P (.str d.shown t) m ν) : EV c m ν (call (.type "str") [v]) P R :=
  fun s Q E F N hQ hE => str_via r F N hs hnd hd c.hgd (by have := hr.2; omega) (fun h' u tk F' N' => hQ _ _ _ h' tk (h u) F' N') (Nat.le_trans hsz (by decide))
theorem ev_join {x : Str} {t : Tok} {l : Addr} {o : Obj} {vs : List Value} {ys : List Str} (hm : (l, o) ∈ ν) (ho : LstO o vs) (hi : StrsAre vs ys) (hok : (ys.map (·.length)).sum + ys.length * x.length ≤ 16777216) (h : ∀ t', P (.str (Txt.join x ys) t') m ν) : EV c m ν (call (.builtin "str.join") [.str x t, .ref l]) P R :=
  fun s Q E F N hQ hE => join_list (ho.at (N.get hm)) (by simpa using hi) hok (fun t' k => hQ _ _ _ s.heap _ (h t') F N)
theorem ev_getJoin {x : Str} {t : Tok} {pl : Sem Bool} (h : PM (.builtin "str.join", [.str x t]) m ν) : EV c m ν (getMethod (.str x t) "join" pl) PM R := fun s Q E F N hQ hE => PySem.GM.join (hQ _ _ _ s.heap s.toks h F N)
def DicO (c : Cx) (o : Obj) (kvs : List (Int × Value)) : Prop := o.IsDictOf (intKind Pg c.w) kvs
theorem ev_newDict {pos : Pos} (h : ∀ d o, Above d ν → (d == sysModules) = false → DicO c o [] → P (.ref d) m ((d, o) :: ν)) : EV c m ν (eval (.Dict [] [] pos) env) P R :=
  fun s Q E F N hQ hE => newDict_K F N c.T.nolimit (fun d h' o F' N' ab lo _ _ hi _ => hQ _ _ _ h' s.toks (h d o ab lo hi) F' N')
theorem DicO.at {h : Heap} {a : Addr} {o : Obj} {kvs : List (Int × Value)} (x : DicO c o kvs) (e : h.get? a = some o) : h.DictOf (intKind Pg c.w) a kvs := Heap.dictOf_iff.mpr ⟨o, e, x⟩
theorem ev_inD {d : Addr} {o : Obj} {kvs : List (Int × Value)} {k : Int} {t : Tok} (hm : (d, o) ∈ ν) (ho : DicO c o kvs) (lo : (d == sysModules) = false) (h : P (.bool (valueAt kvs k).isSome) m ν) : EV c m ν (compareOp .In (.int k t) (.ref d)) P R :=
  fun s Q E F N hQ hE => wpAny_in_of (knd := intKind Pg c.w) (k := k) (intKind_is _ _ _ _) lo (ho.at (N.get hm)).mapOf (hQ _ _ _ s.heap _ h F N)
theorem ev_itemD {value slice : Expr} {d : Addr} {o : Obj} {kvs : List (Int × Value)} {k : Int} {u : Tok} {v : Value} (hm : (d, o) ∈ ν) (ho : DicO c o kvs) (hv : valueAt kvs k = some v) (h : P v m ν)
    (hs : subscripted slice false (.ref d) (.int k u) = operate [.ref d, .int k u] (getItem (.ref d) (.int k u))) : EV c m ν (subscriptTail value slice (.ref d) (.int k u)) P R :=
  fun s Q E F N hQ hE => tail_any (ho.at (N.get hm)).mapOf.typeIs slot_dict_getitem.lookup (wpAny_getItem_of (knd := intKind Pg c.w) (intKind_is _ _ _ _) (ho.at (N.get hm)).mapOf hv (hQ _ _ _ s.heap _ h F N)) hs
theorem ev_setD {d : Addr} {o : Obj} {kvs : List (Int × Value)} {k : Int} {u : Tok} {v : Value} {ν₁ : Led} (ho : DicO c o kvs) (hν : ∀ p ∈ (d, o) :: ν₁, p ∈ ν) (hne : ∀ p ∈ ν₁, p.1 ≠ d) (hsz : kvs.length ≤ 1000) (h : ∀ o', DicO c o' (stored kvs k v) → PU () m ((d, o') :: ν₁)) : EV c m ν (setItem (.ref d) (.int k u) v) PU R :=
  ev_mut (fun o' => DicO c o' (stored kvs k v)) hν hne (fun s Q E e hQ => wpAny_setItem_pairs (knd := intKind Pg c.w) (intKind_is _ _ _ _) (ho.at e) (fun h' hd hs => by
    obtain ⟨o', e', x⟩ := Heap.dictOf_iff.mp hd
    exact hQ h' _ o' e' x hs) (Nat.le_trans hsz (by decide))) h
end
end Mine

end
section
namespace Mine
section
variable {α β : Type} {c : Cx} {m : Loc} {ν : Led} {R : RX} {env : Env}
variable {P : Value → Loc → Led → Prop} {PB : Bool → Loc → Led → Prop} {PF : Flow → Loc → Led → Prop} {PU : Unit → Loc → Led → Prop} {PO : Option Value → Loc → Led → Prop}
end
end Mine

end
section
namespace Mine
section
variable {c : Cx} {m : Loc} {ν : Led} {R : RX} {env : Env} {P : Value → Loc → Led → Prop} {PM : Value × List Value → Loc → Led → Prop}
theorem ev_chr {i : Int} {t : Tok} (h0 : 0 ≤ i) (h1 : i ≤ 1114111) (h : ∀ k, P (.str ⟨#[i.toNat]⟩ k) m ν) : EV c m ν (call (.builtin "chr") [.int i t]) P R := fun s Q E F N hQ hE => PyProof.Rows.chr_of_range h0 h1 (hQ _ _ _ s.heap _ (h _) F N)
end
theorem ghost_noSeer {tabs : List (Addr × Addr)} {h₁ : Heap} (hT : TabsAt tabs h₁) (x : h₁.NoSeer) : (ghostOf h₁ tabs).NoSeer where
  statics := let ⟨mc, a, b⟩ := x.statics; ⟨mc, ghost_ns hT a, b⟩
  mods := let ⟨mc, a, b⟩ := x.mods; ⟨mc, ghost_ns hT a, b⟩
  imp := let ⟨mc, a, b⟩ := x.imp; ⟨mc, ghost_ns hT a, b⟩
  main := let ⟨mg, bm, ob, a, b, c, d, e⟩ := x.main; ⟨mg, bm, ob, ghost_ns hT a, b, ghost_get hT c (fun q => by rw [q] at d; cases d), d, e⟩
theorem ints_of {vs : List Value} {l : List Int} (h : IntsAre vs l) : AllV IntV l vs := by
  induction h with
  | nil => exact .nil
  | cons n t _ ih => exact .cons ⟨t, rfl⟩ ih
/- lines of a text -/
end Mine

end
section
namespace Mine
section
variable {c : Cx} {m : Loc} {ν : Led} {R : RX} {env : Env} {P : Value → Loc → Led → Prop}
/-- value[lower:], value any expression that gives a tuple -/
theorem ev_FromA {value lower : Expr} {p pos : Pos} (h : EV c m ν (eval value env) (fun v m₁ ν₁ => EV c m₁ ν₁ (eval lower env) (fun i m₂ ν₂ => ∃ t o vs a u, v = .ref t ∧ i = .int ((a : Nat) : Int) u ∧ (t, o) ∈ ν₂ ∧ TupO o vs ∧ 1 ≤ a ∧ a ≤ vs.length ∧ vs.length ≤ 2 ^ 20 ∧ ∀ D, Above D ν₂ → P (.ref D) m₂ ((D, tupO (vs.drop a)) :: ν₂)) R) R)
    (hs : ∀ t S : Addr, subscripted (.Slice (some lower) none none p) false (.ref t) (.ref S) = operate [.ref S, .ref t] (getItem (.ref t) (.ref S)) := by intro _ _; with_unfolding_all rfl) : EV c m ν (eval (.Subscript value (.Slice (some lower) none none p) pos) env) P R := by
  intro s Q E F N hQ hE
  refine Subscript_ (h s _ E F N (fun v m₁ ν₁ h₁ k₁ x F₁ N₁ => wpAny_Slice (x _ _ E F₁ N₁ (fun i m₂ ν₂ h₂ k₂ y F₂ N₂ => wpAny_pure (wpAny_pure ?_)) hE)) hE)
  obtain ⟨t, o, vs, a, u, rfl, rfl, hm, ho, h1, h2, h3, hP⟩ := y
  have ht : IsTup (h₂.push { cls := .type "slice", data := .fields #[.int ((a : Nat) : Int) u, .none, .none] }) t vs.toArray := (ho.at' (N₂.get hm)).keeps fun _ _ e => Heap.get?_push_of_some _ e
  have N1 := News.push (F₂.push { cls := .type "slice", data := .fields #[.int ((a : Nat) : Int) u, .none, .none] }) (N₂.grown fun _ _ e => Heap.get?_push_of_some _ e) { cls := .type "tuple", data := .seq (vs.toArray.toList.drop a).toArray }
  refine tail_any (s := { s with heap := h₂.push { cls := .type "slice", data := .fields #[.int ((a : Nat) : Int) u, .none, .none] }, toks := k₂ }) ht.typeIs slot_tuple_getitem.lookup (getItem_tuple_from ht (Heap.IsSliceOf.new ..) h1 (by simpa using h2) ?_ (by simp only [List.size_toArray]; exact Nat.le_trans h3 (by decide))) (hs _ _)
  rw [Heap.size_push] at N1
  show Q (.ref (h₂.push _).objs.size) _
  rw [Heap.size_push]
  exact hQ _ _ _ _ k₂ (hP (h₂.objs.size + 1) (fun p hp => Nat.lt_succ_of_lt (Heap.lt_size (N₂ p hp).1))) ((F₂.push _).push _) (by simpa using N1)
end
end Mine

end
section
open Builtin Builtin.ObjectAttr
namespace Mine
/- the text's own exception -/
abbrev faultM : List Value := [.ref 39, .type "Exception", .type "BaseException", .type "object"]
abbrev fltC : Obj := excClassObj "MachineFault" "MachineFault" 52 51 [.ref 39] faultM true [] [] false none none (some (.ref 43)) none (some (.str "MachineFault" 227)) (some (.str "MachineFault" 235)) (some (.bool true)) "Exception.__new__"
theorem flt_cls (w : World) : (fr.heap_1 w.params).lookup 52 = some fltC := by kernel_rfl
section
variable {prog : Program} {w : World} {A : Around} {E : Value → Shared → Prop} {h : Heap} {g : Array GenState} {d : Drawn} {t : Nat} {os : OsState}
variable {nm q : Str} {N : Addr} {bs : List Value} {hdct : Bool} {sn : List Str} {sub : List Value} {ab : Bool} {col : Option Bool} {dd : Option Addr} {k0 k1 k2 k3 k5 : Option Value}
abbrev excO (t : Addr) : Obj := { cls := .ref 52, data := .fields #[.ref t, .none, .none, .none, .bool false, .none] }
theorem flt_new {rest : List Value} {R : Result → Shared → Prop} (hC : h.get? 52 = some (excClassObj nm q 52 N bs faultM hdct sn sub ab col dd k0 k1 k2 k3 k5 "Exception.__new__"))
    (hq : R (.ok (.ret (.ref (h.objs.size + 1)))) ⟨(h.push (tupO rest)).push (excO h.objs.size), g, d, t, os⟩) (hrest : rest.length ≤ sizeLine := by size_fits) :
    codeAny (model prog w) A (.builtin "Exception.__new__" ⟨.ref 52 :: rest, []⟩) R ⟨h, g, d, t, os⟩ := by
  have F := PySem.F.excBase_Exception
  have hends := F.ends
  have hcB : (Value.ref 52 :: faultM).contains (.type "Exception") = true := by decide
  have hcA : (Value.ref 52 :: faultM).contains (.type "AttributeError") = false := by decide
  have hcN : (Value.ref 52 :: faultM).contains (.type "NameError") = false := by decide
  refine codeAny_builtinAt F.entry ?_
  unfold Builtin.«BaseException.__new__»
  refine PySem.wpAt_bind ?_
  show PySem.wpAt _ _ _ (stack >>= _) _ _ _
  refine PySem.wpAt_bind (PySem.wpAt_stack fun p below => PySem.wpAt_of_wpAny ?_)
  wp_walk
  refine PySem.wpAt_of_wpAny ?_
  rw [F.owner]
  repeat (first | with_reducible refine wpAny_madeHere_exc F.canon hC ?_ | with_reducible refine wpAny_loadPart_at hC ?_ | (with_reducible refine wpAny_isSubtype_exc hC ?_; first | rw [hcB] | rw [hcA] | rw [hcN]) | wp_step)
  show R _ _
  rw [Heap.size_push]
  exact hq
theorem flt_check {M : Model} {rest : List Value} {Q : Unit → Shared → Prop} (hC : h.get? 52 = some (excClassObj nm q 52 N bs faultM hdct sn sub ab col dd k0 k1 k2 k3 k5 "Exception.__new__"))
    (hq : Q () ⟨h, g, d, t, os⟩) : wpAny M A (checkBuiltinCall "Exception.__new__" ⟨.ref 52 :: rest, []⟩) Q E ⟨h, g, d, t, os⟩ := by
  have F := PySem.F.excBase_Exception
  have hcont : (Value.ref 52 :: faultM).contains (.type "Exception") = true := by decide
  have hstar := F.noStar
  simp only [checkBuiltinCall, F.newKind, F.newSplit, F.newRow]
  repeat (first | refine wpAny_loadPart_at hC ?_ | (refine wpAny_isSubtype_exc hC ?_; rw [hcont]) | refine wpAny_staticBase_exc hC ?_ | refine wpAny_madeBy_exc hC ?_ | simp only [bne_self_eq_false, Bool.false_eq_true, if_false] | wp_step)
  exact hq
end
section
variable {prog : Program} {w : World} {A : Around} {E : Value → Shared → Prop} {s : Shared} {h₀ : Heap} {L : Addr} {m : Str → Option Value} {ν : Led}
theorem flt_make {rest : List Value} {R : Result → Shared → Prop} (F : Fr h₀ L s.heap m) (N : News h₀ L s.heap ν) (X : (fr.heap_1 w.params).In s.heap) (hrest : rest.length ≤ sizeLine)
    (h : ∀ e tt h', Fr h₀ L h' m → News h₀ L h' ((e, excO tt) :: (tt, tupO rest) :: ν) → Above tt ν → @LT.lt Nat _ tt e →
      codeAny (model prog w) (A.under (.builtin "type.__call__" ⟨.ref 52 :: rest, []⟩)) (.call (.ref 36) ⟨.ref e :: rest, []⟩) (InitBack e R) { s with heap := h' }) :
    codeAny (model prog w) A (.call (.ref 52) ⟨rest, []⟩) R s := by
  have hl := flt_cls w
  have hC := X _ _ hl
  obtain ⟨hh, g, d, t, os⟩ := s
  dsimp only at F N X h hC
  have f1 := tc_lookup
  have f2 := tc_bind (.ref 52)
  have hT : (⟨hh, g, d, t, os⟩ : Shared).TypeIs (.ref 52) "type" := ⟨_, hC, rfl⟩
  refine codeAny_of_tree ?_
  show wpAny _ _ (callAny (.ref 52) _) _ _ _
  repeat (any_goals (first | assumption | with_reducible refine wpAny_loadPart_at hC ?_ | wp_step))
  refine ⟨rfl, ?_⟩
  refine codeAny_call_builtin_at (Code.quiet_builtin _ (by decide +kernel)) entry_typeCall (wpAny_check_type_call_sub hC ?_)
  repeat (first | with_reducible refine wpAny_loadPart_at hC ?_ | with_reducible refine wpAny_madeBy_exc hC ?_ | wp_step)
  refine codeAny_call_builtin_code (Code.quiet_builtin _ (by decide +kernel)) (flt_check hC ?_)
  refine flt_new hC ?_ hrest
  show wpAny _ _ _ _ _ _
  have F1 := F.push (tupO rest)
  have N1 := N.push F (tupO rest) rfl
  have F2 := F1.push (excO hh.objs.size)
  have N2 := N1.push F1 (excO hh.objs.size) rfl
  have X2 : (fr.heap_1 w.params).In ((hh.push (tupO rest)).push (excO hh.objs.size)) := fun a o e => Heap.get?_push_of_some _ (Heap.get?_push_of_some _ (X a o e))
  rw [Heap.size_push] at N2
  have hC₁ := X2 _ _ hl
  have hget := (N2 _ (.head _)).1
  have t1 : Looks (model prog w) ((hh.push (tupO rest)).push (excO hh.objs.size)) (typeOf (.ref (hh.objs.size + 1))) (.ref 52) := (Looks.ld hget).andThen .now
  have s1 : Looks (model prog w) ((hh.push (tupO rest)).push (excO hh.objs.size)) (isSubtype (.ref 52) (.ref 52)) true := looks_mroIn X2 (by k_is)
  have i1 : Looks (model prog w) ((hh.push (tupO rest)).push (excO hh.objs.size)) (typeLookup (.ref 52) "__init__") (some (.ref 36)) := looks_findIn X2 (by k_is)
  have b1 : Looks (model prog w) ((hh.push (tupO rest)).push (excO hh.objs.size)) (bindSpecial (.ref 36) (.ref (hh.objs.size + 1))) (.ref 36, [.ref (hh.objs.size + 1)]) := bind_fn X2 _ (by k_is)
  show wpAny _ _ _ _ _ ⟨(hh.push (tupO rest)).push (excO hh.objs.size), g, d, t, os⟩
  have s2 : Looks (model prog w) ((hh.push (tupO rest)).push (excO hh.objs.size)) (isInstance (.ref (hh.objs.size + 1)) (.ref 52)) true := t1.andThen (f := fun t => isSubtype t (.ref 52)) s1
  refine wpAny_bind (s2.at ?_)
  refine wpAny_bind (wpAny_holding ?_)
  unfold callSpecial? specialOf
  refine wpAny_bind (wpAny_bind (t1.at (i1.at ?_)))
  refine wpAny_holding (wpAny_bind (b1.at (wpAny_bind (wpAny_call ?_))))
  refine codeAny_mono (h _ _ _ F2 N2 (fun p hp => Heap.lt_size (N p hp).1) (Nat.lt_succ_self _)) fun r s' z => ?_
  rcases r with e | (v | _ | _ | _) <;> first | exact z | exact z.elim | skip
  obtain ⟨rfl, z⟩ := z
  exact wpAny_pure (wpAny_pure z)
end
section
variable {prog : Program} {w : World} {A : Around} {E : Value → Shared → Prop} {s : Shared} {x : Addr} {ox : Obj} {od : Option Obj} {name : Str} {v : Value} {tk : Tok} {R : Result → Shared → Prop}
abbrev fltCD : ClassData := { name := "MachineFault", bases := [.ref 39], mro := .ref 52 :: faultM, ns := 51, qualname := "MachineFault" }
theorem flt_cd (P : Params) : clsIn (fr.heap_1 P) 52 = some fltCD := by kernel_rfl
theorem flt_refuse (self : Value) : refuseLoop self "__setattr__" (.ref 52 :: faultM) = pure () := by
  rw [refuseLoop_ref, refuseLoop_ref]
  exact PySem.F.store_Exception.passes self
theorem flt_osa (X : (fr.heap_1 w.params).In s.heap) (I : InstAt s.heap x ox 52 od) (ht : takerIn (fr.heap_1 w.params) 52 name = some none)
    (h : ∀ b, wpAny (model prog w) A.in1 (storeInOwnDict (.ref x) (.ref 52) (.str name tk) name v b) (fun fin s' => match fin with | .done f => R (.ok f) s' | .again c' => c'.quiet = true ∧ codeAny (model prog w) A c' R s') (fun e s' => R (.error e) s') s) :
    codeAny (model prog w) A (.call (.builtin "object.__setattr__") ⟨[.ref x, .str name tk, v], []⟩) R s := by
  have SF := PySem.F.store_object
  have hc := flt_cd w.params
  have sub : Looks (model prog w) s.heap (isInstance (.ref x) (.type "object")) true := I.type.andThen (looks_mroIn X (by k_is))
  refine codeAny_call_builtin SF.slot.plain SF.entry (@check_slot (model prog w) _ _ s "object.__setattr__" "object" "__setattr__" (.ref x) [.str name tk, v] [] _ SF.kind SF.split sub (SF.args (.ref x) (.str name tk) v) ?_)
  obtain ⟨attr, ha, hr⟩ := Option.bind_eq_some_iff.mp ht
  have hm : Looks (model prog w) s.heap (mroOf (.ref 52)) (.ref 52 :: faultM) := (looks_clsIn X hc).andThen .now
  have L3 : Looks (model prog w) s.heap (storeTaker? attr) none := by
    cases attr with
    | none => exact .now
    | some a =>
      obtain ⟨b, hb, e⟩ := Option.map_eq_some_iff.mp hr
      refine (looks_takesIn X hb).andThen ?_
      cases b with
      | true => cases e
      | false => exact .now
  rw [osa_eq, refuse_eq]
  refine wpAny_bind (wpAny_bind (I.type.here (wpAny_bind (hm.here ?_))))
  rw [flt_refuse]
  refine wpAny_pure (wpAny_bind (I.type.here (wpAny_bind ((looks_findIn X ha).here (wpAny_bind (L3.here ?_))))))
  exact h _
theorem put_len (name : Str) (hs : Int) (k v : Value) : ∀ l : List DictEntry, (putL name hs k v l).length ≤ l.length + 1
  | [] => Nat.le_refl _
  | e :: l => by
    unfold putL
    split
    · exact Nat.le_succ _
    · exact Nat.succ_le_succ (put_len name hs k v l)
theorem flt_store {d : Addr} {es : List DictEntry} {n : Nat} {Q : Fin → Shared → Prop} (D : s.heap.get? d = some (dictOf es n)) (hl : (getL name es).isSome = true) (hz : es.length ≤ 900)
    (hq : Q (.done (.ret .none)) { s with heap := s.heap.update d (Obj.putName name (PyData.keyHash w.params name) (.str name s.toks) v), toks := s.toks + 1 }) : wpAny (model prog w) A (storeInDict d (.str name tk) name v) Q E s := by
  unfold storeInDict newKeyGuard
  refine wpAny_bind (wpAny_pure (wpAny_bind ?_))
  unfold nsSet
  refine wpAny_bind (wpAny_bind (wpAny_askSetting (wpAny_pure (wpAny_bind (wpAny_mkText (wpAny_bind (wpAny_loadPart D ?_)))))))
  have ln := put_len name (PyData.keyHash w.params name) (.str name s.toks) v es
  have D' := Heap.get?_update_self (Obj.putName name (PyData.keyHash w.params name) (.str name s.toks) v) D (by rw [putName_dict]; rfl)
  rw [putName_dict] at D'
  dsimp only
  have c : (!es.toArray.any (·.key.isStr name) && es.toArray.any (·.refKey)) = false := by
    rw [← Array.any_toList, ← Array.any_toList]
    dsimp only
    unfold getL at hl
    split at hl
    · rename_i en he
      rw [List.any_eq_true.mpr ⟨en, List.mem_of_find?_eq_some he, List.find?_some he⟩]; rfl
    · split at hl
      · cases hl
      · rename_i z; rw [Bool.not_eq_true] at z; rw [z, Bool.and_false]
  rw [aRefKeyMayBeTheName_at, c]
  refine wpAny_updatePart D ?_
  refine wpAny_bind (wpAny_lookBehind D' (pastItsLine_dict (by rw [List.size_toArray, sizeLine_eq]; omega)) ?_)
  exact wpAny_pure hq
end
abbrev excD (t d : Addr) : Obj := { cls := .ref 52, dict := some d, data := .fields #[.ref t, .none, .none, .none, .bool false, .none] }
section
variable {c : Cx} {m : Loc} {ν : Led} {R : RX} {PU : Unit → Loc → Led → Prop} {P : Value → Loc → Led → Prop} {PM : Value × List Value → Loc → Led → Prop}
theorem ev_fltSet1 {x t d : Addr} {es : List DictEntry} {n : Nat} {name : Str} {v : Value} {ν₁ : Led} (hx : (x, excD t d) ∈ ν₁) (hν : ∀ p ∈ (d, dictOf es n) :: ν₁, p ∈ ν) (hne : ∀ p ∈ ν₁, p.1 ≠ d)
    (ht : takerIn (fr.heap_1 c.w.params) 52 name = some none) (hs : findIn (fr.heap_1 c.w.params) (.ref 52) "__setattr__" = some (some (.builtin "object.__setattr__"))) (hl : (getL name es).isSome = true) (hz : es.length ≤ 900)
    (h : ∀ tk, PU () m ((d, dictOf (putL name (PyData.keyHash c.w.params name) (.str name tk) v es) (putN name es n)) :: ν₁)) : EV c m ν (setAttr (.ref x) name v) PU R := by
  intro s Q E F N hQ hE
  have N₁ : News c.h₀ c.L s.heap ((d, dictOf es n) :: ν₁) := fun p hp => N p (hν p hp)
  have X := c.X.keeps F.keep
  have I : InstAt s.heap x (excD t d) 52 (some (dictOf es n)) := ⟨(N₁ _ (.tail _ hx)).1, rfl, rfl, (N₁ _ (.head _)).1⟩
  refine set_plain X I hs (flt_osa (s := { s with toks := s.toks + 1 }) X I ht fun b => ?_)
  refine wpAny_bind (wpAny_pure (wpAny_bind (wpAny_bind (wpAny_loadPart I.at_ (wpAny_bind (looks_clsIn X (flt_cd c.w.params) _ _ _ _ (fun _ _ e => e) ?_))))))
  refine wpAny_pure (a := some d) (flt_store (N₁ _ (.head _)).1 hl hz ?_)
  have e' := Heap.get?_update_self (Obj.putName name (PyData.keyHash c.w.params name) (.str name (s.toks + 1)) v) (N₁ _ (.head _)).1 (by rw [putName_dict]; rfl)
  rw [putName_dict] at e'
  obtain ⟨F', N'⟩ := news_put F N₁ hne e' (Heap.SameBut.update ..)
  exact hQ () m _ _ _ (h (s.toks + 1)) F' N'
theorem ev_fltSet0 {x t : Addr} {name : Str} {v : Value} {ν₁ : Led} (hν : ∀ p ∈ (x, excO t) :: ν₁, p ∈ ν) (hne : ∀ p ∈ ν₁, p.1 ≠ x)
    (ht : takerIn (fr.heap_1 c.w.params) 52 name = some none) (hs : findIn (fr.heap_1 c.w.params) (.ref 52) "__setattr__" = some (some (.builtin "object.__setattr__")))
    (h : ∀ tk d, Above d ((x, excO t) :: ν₁) → PU () m ((d, dictOf (putL name (PyData.keyHash c.w.params name) (.str name tk) v []) (putN name [] 0)) :: (x, excD t d) :: ν₁)) : EV c m ν (setAttr (.ref x) name v) PU R := by
  intro s Q E F N hQ hE
  have N₁ : News c.h₀ c.L s.heap ((x, excO t) :: ν₁) := fun p hp => N p (hν p hp)
  have X := c.X.keeps F.keep
  have ab : Above s.heap.objs.size ((x, excO t) :: ν₁) := fun p hp => Heap.lt_size (N₁ p hp).1
  have I : InstAt s.heap x (excO t) 52 none := ⟨(N₁ _ (.head _)).1, rfl, rfl, trivial⟩
  refine set_plain X I hs (flt_osa (s := { s with toks := s.toks + 1 }) X I ht fun b => ?_)
  refine wpAny_bind (wpAny_pure (wpAny_bind (wpAny_bind (wpAny_loadPart I.at_ (wpAny_bind (looks_clsIn X (flt_cd c.w.params) _ _ _ _ (fun _ _ e => e) ?_))))))
  show wpAny _ _ (alloc emptyDict >>= fun d => update x (fun o => { o with dict := some d }) >>= fun _ => pure (some d)) _ _ _
  have F1 := F.push emptyDict
  have N1 := N₁.push F emptyDict rfl
  have e1 : (s.heap.push emptyDict).get? x = some (excO t) := (N1 _ (.tail _ (.head _))).1
  have e2 := Heap.get?_update_self (fun o => { o with dict := some s.heap.objs.size }) e1 rfl
  obtain ⟨F2, N2⟩ := news_put (ν₁ := (s.heap.objs.size, emptyDict) :: ν₁) F1 (fun p hp => N1 p (by
    rcases hp with _ | ⟨_, _ | ⟨_, hp⟩⟩
    · exact .tail _ (.head _)
    · exact .head _
    · exact .tail _ (.tail _ hp))) (ne_cons (Ne.symm (ltN' (ab _ (.head _)))) hne) e2 (Heap.SameBut.update ..)
  refine wpAny_bind (wpAny_alloc (wpAny_bind (wpAny_update e1 (wpAny_pure ?_))))
  refine flt_store (es := []) (n := 0) (N2 _ (.tail _ (.head _))).1 rfl (by decide) ?_
  have e' := Heap.get?_update_self (Obj.putName name (PyData.keyHash c.w.params name) (.str name (s.toks + 1)) v) (N2 _ (.tail _ (.head _))).1 (by rw [show emptyDict = dictOf [] 0 from rfl, putName_dict]; rfl)
  rw [show emptyDict = dictOf [] 0 from rfl, putName_dict] at e'
  obtain ⟨F3, N3⟩ := news_put (ν₁ := (x, excD t s.heap.objs.size) :: ν₁) F2 (fun p hp => N2 p (by
    rcases hp with _ | ⟨_, _ | ⟨_, hp⟩⟩
    · exact .tail _ (.head _)
    · exact .head _
    · exact .tail _ (.tail _ hp))) (ne_cons (ltN' (ab (x, excO t) (.head _))) (fun p hp => ltN' (ab p (.tail _ hp)))) e' (Heap.SameBut.update ..)
  exact hQ () m _ _ _ (h (s.toks + 1) _ ab) F3 N3
theorem ev_getExcInit {pl : Sem Bool} (h : PM (.builtin "Exception.__init__", []) m ν) : EV c m ν (getMethod (.type "Exception") "__init__" pl) PM R := by
  intro s Q E F N hQ hE
  refine method_type F c.X ?_ ?_ ?_ rfl (hQ _ _ _ _ _ h F N)
  · kernel_rfl
  · kernel_rfl
  · k_is
theorem flt_checkInit {M : Model} {A : Around} {E : Value → Shared → Prop} {s : Shared} {w : World} {e : Addr} {oe : Obj} {rest : List Value} {Q : Unit → Shared → Prop} (X : (fr.heap_1 w.params).In s.heap) (he : s.heap.get? e = some oe) (hcls : oe.cls = .ref 52) (hq : Q () s) :
    wpAny M A (checkBuiltinCall "Exception.__init__" ⟨.ref e :: rest, []⟩) Q E s := by
  have FX := PySem.F.excBase_Exception
  have hshort := FX.noStar
  have hC := X _ _ (flt_cls w)
  have hcB : (Value.ref 52 :: faultM).contains (.type "Exception") = true := by decide
  obtain ⟨h, g, d, t, os⟩ := s
  simp only [checkBuiltinCall, FX.initKind, FX.initSplit, FX.initRow]
  repeat (first | (with_reducible refine wpAny_loadPart_at he ?_; rw [hcls]) | with_reducible refine wpAny_loadPart_at hC ?_ | (with_reducible refine wpAny_isSubtype_exc hC ?_; rw [hcB]) | wp_step)
  refine wpAny_onRaise ?_
  rw [show ∀ (a b : String) (n : Nat), Bind.check ⟨.positional, "*", "Exception", .self, [⟨"args", .varPos, false⟩]⟩ a b n (List.map (fun x => x.fst) ({ pos := Value.ref e :: rest } : Args).kw) = pure () from
    fun a b n => check_star_args _ _ _ _ _ _]
  exact wpAny_pure hq
theorem ev_excInit {x t : Addr} {v : Value} {ν₁ : Led} (hν : ∀ p ∈ (x, excO t) :: ν₁, p ∈ ν) (hne : ∀ p ∈ ν₁, p.1 ≠ x) (h : ∀ t2, Above t2 ((x, excO t) :: ν₁) → P .none m ((t2, tupO [v]) :: (x, excO t2) :: ν₁)) : EV c m ν (call (.builtin "Exception.__init__") [.ref x, v]) P R := by
  intro s Q E F N hQ hE
  have FX := PySem.F.excBase_Exception
  have N₁ : News c.h₀ c.L s.heap ((x, excO t) :: ν₁) := fun p hp => N p (hν p hp)
  have he := (N₁ _ (.head _)).1
  have ab : Above s.heap.objs.size ((x, excO t) :: ν₁) := fun p hp => Heap.lt_size (N₁ p hp).1
  refine wpAny_call (codeAny_call_builtin FX.init.plain FX.initEntry (flt_checkInit (c.X.keeps F.keep) he rfl ?_))
  unfold Builtin.«BaseException.__init__»
  dsimp only
  rw [if_neg (by simp)]
  unfold newTuple Builtin.BaseException.bexcPut
  have F1 := F.push (tupO [v])
  have N1 := N₁.push F (tupO [v]) rfl
  have he₁ := (N1 _ (.tail _ (.head _))).1
  refine wpAny_bind (wpAny_newObj_type (wpAny_bind (wpAny_bind (wpAny_field he₁ rfl (x := .ref t) rfl (wpAny_bind (wpAny_setField he₁ rfl (by simp) ?_))))) (show [v].toArray.size ≤ sizeLine by simp [sizeLine]))
  refine wpAny_letGo (wpAny_pure ?_)
  have e2 := Heap.get?_update_self (Obj.mapFields (·.setIfInBounds 0 (.ref s.heap.objs.size))) he₁ rfl
  obtain ⟨F2, N2⟩ := news_put (ν₁ := (s.heap.objs.size, tupO [v]) :: ν₁) F1 (fun p hp => N1 p (by
    rcases hp with _ | ⟨_, _ | ⟨_, hp⟩⟩
    · exact .tail _ (.head _)
    · exact .head _
    · exact .tail _ (.tail _ hp))) (ne_cons (Ne.symm (ltN' (ab _ (.head _)))) hne) e2 (Heap.SameBut.update ..)
  exact hQ _ m _ _ s.toks (h s.heap.objs.size ab) F2 (fun p hp => N2 p (by
    rcases hp with _ | ⟨_, _ | ⟨_, hp⟩⟩
    · exact .tail _ (.head _)
    · exact .head _
    · exact .tail _ (.tail _ hp)))
/-- the text's own exception is made: its __init__ is walked -/
theorem ev_makeFlt {args : List Value} {n : Nat} {name qual : Str} {params : Arguments} {body : List Stmt} {scope : Scope} {dV kV doc pm cdv ct oc : Value} {an od : Option Addr} {osl : Array (Option Value)} {binds : Addr → List (Str × Value)}
    (ho : (fr.heap_1 c.w.params).lookup 36 = some ⟨oc, od, .func (fnOf name qual params body scope dV kV doc pm an cdv ct), osl⟩) (hcd : codeIn (fr.heap_1 c.w.params) cdv qual = true) (hr : Room c (n + 2)) (hz : args.length ≤ sizeLine)
    (hbind : ∀ x (s : Shared), c.h₀.StaysIn s.heap → BindsTo s (fnOf name qual params body scope dV kV doc pm an cdv ct) ⟨.ref x :: args, []⟩ (binds x)) (hloc : ∀ x, ∀ y ∈ binds x, scope.names.lookup y.1 = some .local)
    (hck : (scope.isCoroutine, scope.isGenerator, scope.kind) = (false, false, .function)) (hcell : ∀ x ∈ scope.names, x.2 ≠ .cell)
    (h : ∀ x t (c' : Cx), Above t ν → @LT.lt Nat _ t x → Room c' n → (c'.base = c.base ∧ c'.w = c.w) → EV c' (bnd noLoc (binds x)) ((x, excO t) :: (t, tupO args) :: ν) (execs body (envOf qual scope c'.L 36 cdv)) (fun fl _ ν' => retOf fl = .none ∧ P (.ref x) m ν') NoX) :
    EV c m ν (call (.ref 52) args) P R := by
  intro s Q E F N hQ hE
  refine wpAny_call (flt_make F N (c.X.keeps F.keep) hz fun x t h' F' N' l1 l2 => ?_)
  exact cev_call (c := c.under ⟨.ref 52 :: args, []⟩) (s := { s with heap := h' }) (P := fun v m' ν' => v = .none ∧ P (.ref x) m' ν') (R := NoX) (Rb := fun _ => NoX) F' N' (fun v ν' h' tk' hp F' N' => ⟨hp.1, hQ _ _ _ _ _ hp.2 F' N'⟩) (fun _ _ _ hx => hx.elim) ho hcd (Room.under hr) (hbind x) (hloc x) hck hcell
    (fun c' r' hb _ => h x t c' l1 l2 r' hb) (.inl fun _ _ _ x => x)
theorem cx_frames {c : Cx} {m : Loc} {ν : Led} {s : Shared} (F : Fr c.h₀ c.L s.heap m) (N : News c.h₀ c.L s.heap ν) : s.heap.FunFrames c.base (c.env :: c.outer) := by
  obtain ⟨-, BG, -, -⟩ := groundX (R := fun _ _ => True) c.B F N c.hA c.hf c.hk
  exact BG.frames.of_keeps fun b o e _ => ⟨o, of_hideAll _ e, rfl⟩
theorem fly_new {c : Cx} {m : Loc} {ν νR : Led} {s : Shared} {e t : Addr} {oe : Obj} {vs : Array Value} (F : Fr c.h₀ c.L s.heap m) (N : News c.h₀ c.L s.heap ν) (hm : (e, oe) ∈ ν) (hs : ∀ p ∈ νR, p ∈ ν ∧ p.1 ≠ e) (h1 : oe.cls = FaultC) (h2 : oe.data = .fields vs) (h3 : vs[1]? = some .none) (h4 : vs[0]? = some (.ref t)) : Rz c νR (.ref e) s.heap := by
  have fr := cx_frames F N
  have hin : ∀ env ∈ (c.env :: c.outer), ∀ b, env.frame = some b → b ∈ e :: (c.env :: c.outer).filterMap (·.frame) := fun env he b hb => .tail _ (List.mem_filterMap.mpr ⟨env, he, hb⟩)
  have no : ∀ a o, (a, o) ∈ ν → a ∉ (c.env :: c.outer).filterMap (·.frame) := by
    intro a o hq hmem
    obtain ⟨env, he, hf⟩ := List.mem_filterMap.mp hmem
    rcases List.mem_cons.mp he with rfl | he
    · rw [c.hf] at hf
      exact (N _ hq).2.1 (Option.some.inj hf).symm
    · obtain ⟨o', ho, _⟩ := (c.B.frames.mem (List.mem_filterMap.mpr ⟨env, he, hf⟩)).2
      rw [(N _ hq).2.2] at ho; cases ho
  refine ⟨⟨e, hideAll s.heap (e :: (c.env :: c.outer).filterMap (·.frame)), .ref t, rfl, fun b o q => ?_, fun b o q nm => ?_, fun q hq => ⟨?_, (N q (hs q hq).1).2⟩, fun b o q => of_hideAll _ q, hideAll_none _ (.head _), funFrames_hide fr hin, .inl ⟨trivial, oe, vs, (N _ hm).1, h1, h2, h3, h4⟩⟩, s.heap, m, F, Heap.UpToSlots.refl _⟩
  · refine hideAll_get _ (F.keep b o (c.B.stays b o q)) fun hmem => ?_
    rcases List.mem_cons.mp hmem with rfl | hmem
    · have := (N _ hm).2.2
      rw [c.B.stays _ _ q] at this; cases this
    · rw [(fr.mem hmem).1] at q; cases q
  · refine hideAll_get _ (F.keep b o q) fun hmem => ?_
    rcases List.mem_cons.mp hmem with rfl | hmem
    · rw [(N _ hm).2.2] at q; cases q
    · obtain ⟨env, he, hf⟩ := List.mem_filterMap.mp hmem
      rcases List.mem_cons.mp he with rfl | he
      · rw [c.hf] at hf
        obtain rfl := Option.some.inj hf
        rw [fr_self F] at q; cases q
      · exact nm (List.mem_filterMap.mpr ⟨env, he, hf⟩)
  · refine hideAll_get _ (N q (hs q hq).1).1 fun hmem => ?_
    rcases List.mem_cons.mp hmem with e1 | hmem
    · exact (hs q hq).2 e1
    · exact no q.1 q.2 (hs q hq).1 hmem
theorem ev_Raise {x : Expr} {pos : Pos} {PF : Flow → Loc → Led → Prop} {env : Env} {νR : Led} (h : EV c m ν (eval x env) (fun v m' ν' => ∃ e t d, v = .ref e ∧ (e, excD t d) ∈ ν' ∧ (∀ p ∈ νR, p ∈ ν' ∧ p.1 ≠ e)) R)
    (hR : ∀ e h', Rz c νR e h' → R e h') : EV c m ν (exec (.Raise (some x) none pos) env) PF R := by
  intro s Q E F N hQ hE
  rw [arm_exec_Raise]
  refine wpAny_bind (wpAny_standAt ?_)
  unfold raiseStmt
  refine wpAny_bind (wpAny_bind (h s _ E F N (fun v m' ν' h' k' x F' N' => wpAny_bind (wpAny_standAt (wpAny_pure ?_))) hE))
  obtain ⟨e, t, d, rfl, hm, hs⟩ := x
  have he := (N' _ hm).1
  have X := c.X.keeps F'.keep
  have t1 : Looks (model Pg c.w) h' (typeOf (.ref e)) (.ref 52) := (Looks.ld he).andThen .now
  have s1 : Looks (model Pg c.w) h' (isInstance (.ref e) (.type "BaseException")) true := t1.andThen (f := fun t => isSubtype t (.type "BaseException")) (looks_mroIn X (by k_is))
  have ty : Looks (model Pg c.w) h' (isType (.ref e)) false := (Looks.ld he).andThen .now
  refine wpAny_bind (wpAny_pure ?_)
  refine wpAny_bind (wpAny_holding ?_)
  unfold excFromValue isExcClass
  refine wpAny_bind (wpAny_bind (ty.at (wpAny_pure ?_)))
  refine wpAny_bind (s1.at (wpAny_pure ?_))
  refine wpAny_bind (ty.at ?_)
  show wpAny _ _ (raisedInstance (.ref e) >>= fun e => setFlight e none >>= fun _ => raiseNew e) _ _ _
  have t2 : Looks (model Pg c.w) h' (typeOf (.ref 52)) (.type "type") := looks_typeIn X (by k_is)
  unfold raisedInstance
  refine wpAny_bind (wpAny_bind (t1.at (wpAny_bind (t2.at (wpAny_pure ?_)))))
  unfold setFlight
  refine wpAny_bind (wpAny_bind (wpAny_field he rfl (x := .none) rfl (wpAny_pure ?_)))
  exact wpAny_raiseNew_none c.hh (hE (.ref e) h' k' (hR _ _ (fly_new (s := { s with heap := h', toks := k' }) F' N' hm hs rfl rfl rfl rfl)))
end
/- a function that catches: the frames outside may have got frame objects -/
structure FrU (c : Cx) (h : Heap) (m : Loc) : Prop where
  ns : h.Ns c.L m
  keep : ∀ b o, c.h₀.get? b = some o → b ∉ c.outer.filterMap (·.frame) → h.get? b = some o
  slots : ∀ b o, c.h₀.get? b = some o → b ∈ c.outer.filterMap (·.frame) → ∃ sl, h.get? b = some { o with slots := sl }
  above : c.h₀.objs.size ≤ c.L
theorem FrU.of {c : Cx} {h : Heap} {m : Loc} (F : Fr c.h₀ c.L h m) : FrU c h m := ⟨F.ns, fun b o e _ => F.keep b o e, fun b o e _ => ⟨o.slots, F.keep b o e⟩, F.above⟩
theorem FrU.fr {c : Cx} {h : Heap} {m : Loc} (F : FrU c h m) (ho : c.outer = []) : Fr c.h₀ c.L h m := ⟨F.ns, fun b o e => F.keep b o e (by rw [ho]; exact fun q => nomatch q), F.above⟩
def EVu {α : Type} (c : Cx) (m : Loc) (ν : Led) (t : Sem α) (P : α → Loc → Led → Prop) : Prop :=
  ∀ (s : Shared) (Q : α → Shared → Prop) (E : Value → Shared → Prop), Fr c.h₀ c.L s.heap m → News c.h₀ c.L s.heap ν →
    (∀ v m' ν' h' tk', P v m' ν' → FrU c h' m' → News c.h₀ c.L h' ν' → Q v { s with heap := h', toks := tk' }) → wpAny (model Pg c.w) c.A t Q E s
abbrev noEx (c : Cx) : Ex c := ⟨fun _ _ => False, PassesOwn.never⟩
theorem EV.any {α : Type} {c : Cx} {m : Loc} {ν : Led} {t : Sem α} {P : α → Loc → Led → Prop} (h : EV c m ν t P NoX) (s : Shared) (Q : α → Shared → Prop) (E : Value → Shared → Prop) (F : Fr c.h₀ c.L s.heap m) (N : News c.h₀ c.L s.heap ν)
    (hQ : ∀ v m' ν' h' tk', P v m' ν' → Fr c.h₀ c.L h' m' → News c.h₀ c.L h' ν' → Q v { s with heap := h', toks := tk' }) : wpAny (model Pg c.w) c.A t Q E s :=
  wpAny_mono (h s Q (noEx c) F N hQ fun _ _ _ x => x) (fun _ _ x => x) fun _ _ x => x.elim
section
variable {α β : Type} {c : Cx} {m : Loc} {ν : Led} {env : Env} {PF : Flow → Loc → Led → Prop} {P : Value → Loc → Led → Prop}
theorem evu_cons {st : Stmt} {rest : List Stmt} (h : EV c m ν (exec st env) (fun f m' ν' => f = .next ∧ EVu c m' ν' (execs rest env) PF) NoX) : EVu c m ν (execs (st :: rest) env) PF :=
  fun s Q E F N hQ => wpAny_execs_cons (h.any s _ E F N (fun f m₁ ν₁ h₁ k₁ x F₁ N₁ => by
    obtain ⟨rfl, x⟩ := x
    exact x _ Q E F₁ N₁ hQ))
/-- the last statement that is reached -/
theorem evu_last {st : Stmt} {rest : List Stmt} (h : EVu c m ν (exec st env) (fun f m' ν' => f ≠ .next ∧ PF f m' ν')) : EVu c m ν (execs (st :: rest) env) PF :=
  fun s Q E F N hQ => wpAny_execs_cons (h s _ E F N (fun f m₁ ν₁ h₁ k₁ x F₁ N₁ => by
    obtain ⟨hn, x⟩ := x
    cases f <;> first | exact hQ _ _ _ _ _ x F₁ N₁ | exact absurd rfl hn))
theorem evu_If {t : Expr} {a b : List Stmt} {pos : Pos} (h : EV c m ν (isTrue t env (eval t env)) (fun x m' ν' => if x then EVu c m' ν' (execs a env) PF else EVu c m' ν' (execs b env) PF) NoX) : EVu c m ν (exec (.If t a b pos) env) PF :=
  fun s Q E F N hQ => wpAny_If (h.any s _ E F N (fun x m₁ ν₁ h₁ k₁ y F₁ N₁ => by cases x <;> exact y _ Q E F₁ N₁ hQ))
theorem evu_Return {e : Expr} {pos : Pos} (h : EVu c m ν (eval e env) (fun v => PF (.ret v))) : EVu c m ν (exec (.Return (some e) pos) env) PF :=
  fun s Q E F N hQ => wpAny_Return_some (h s _ E F N (fun v m₁ ν₁ h₁ k₁ x F₁ N₁ => hQ _ _ _ _ _ x F₁ N₁))
theorem evu_Call {func : Expr} {args : List Expr} {pos : Pos} (h : EV c m ν (eval func env) (fun f m' ν' => EVu c m' ν' (callWith pos f [] (backTo pos (starEach args env)) []) P) NoX) (he : eval (.Call func args [] pos) env = (do callWith pos (← eval func env) [] (backTo pos (starEach args env)) (backToKw pos (keywordEach [] env)))) : EVu c m ν (eval (.Call func args [] pos) env) P :=
  fun s Q E F N hQ => Call_ (h.any s _ E F N (fun v m₁ ν₁ h₁ k₁ x F₁ N₁ => x _ Q E F₁ N₁ hQ)) he
theorem evu_cwF {f : Addr} {e : Expr} {rest : List Expr} {pos : Pos} (hk : keepIn (fr.heap_1 c.w.params) (.ref f) = true) (h : EV c m ν (spliced (backTo pos (starEach (e :: rest) env))) (fun vs m' ν' => EVu c m' ν' (call (.ref f) vs) P) NoX)
    (he : starEach (e :: rest) env = (false, eval e env) :: starEach rest env) (hplain : (backTo pos (starEach rest env)).any (·.1) = false) : EVu c m ν (callWith pos (.ref f) [] (backTo pos (starEach (e :: rest) env)) []) P :=
  fun s Q E F N hQ => callWith_K c.X hk (h.any s _ E F N (fun v m₁ ν₁ h₁ k₁ x F₁ N₁ => ⟨c.X.keeps F₁.keep, x _ Q E F₁ N₁ hQ⟩)) he hplain
theorem evu_call {f : Addr} {args : List Value} {kw : List (Str × Value)} {n : Nat} {name qual : Str} {params : Arguments} {body : List Stmt} {scope : Scope} {dV kV doc pm cdv ct oc : Value} {an od : Option Addr} {osl : Array (Option Value)} {binds : List (Str × Value)}
    (ho : (fr.heap_1 c.w.params).lookup f = some ⟨oc, od, .func (fnOf name qual params body scope dV kV doc pm an cdv ct), osl⟩) (hcd : codeIn (fr.heap_1 c.w.params) cdv qual = true) (hr : Room c (n + 1))
    (hbind : ∀ s : Shared, BindsTo s (fnOf name qual params body scope dV kV doc pm an cdv ct) ⟨args, kw⟩ binds) (hloc : ∀ y ∈ binds, scope.names.lookup y.1 = some .local)
    (hck : (scope.isCoroutine, scope.isGenerator, scope.kind) = (false, false, .function)) (hcell : ∀ x ∈ scope.names, x.2 ≠ .cell)
    (h : ∀ c' : Cx, Room c' n → (c'.base = c.base ∧ c'.w = c.w) → c'.env = envOf qual scope c'.L f cdv → EVu c' (bnd noLoc binds) ν (execs body (envOf qual scope c'.L f cdv)) (fun fl _ ν' => (∀ p ∈ ν', p ∈ ν) ∧ P (retOf fl) m ν')) :
    EVu c m ν (call (.ref f) args kw) P := by
  intro s Q E F N hQ
  obtain ⟨hco, hk'⟩ := Prod.mk.inj hck
  obtain ⟨hgen, hk⟩ := Prod.mk.inj hk'
  obtain ⟨FG, BG, st, -⟩ := groundX (R := fun _ _ => True) c.B F N c.hA c.hf c.hk
  refine wpAny_call (codeAny_call_def (fd := fnOf name qual params body scope dV kV doc pm an cdv ct) (body := body) (binds := binds) (Nat.lt_of_le_of_lt (Nat.le_add_right _ _) hr.1) ((c.X.keeps F.keep) _ _ ho) rfl (c.T.nolimit.keeps F.keep) (codeRec_of (c.X.keeps F.keep) hcd) rfl (hbind s) hcell hloc (fun h₁ hns hk₁ => ?_) hco hgen hk)
  let c' : Cx := ⟨c.w, s.heap.objs.size, c.A.deeper (envOf qual scope s.heap.objs.size f cdv), c.A, c.base, hideAll s.heap (ν.map (fun x : Addr × Obj => x.1)), c.env :: c.outer, envOf qual scope s.heap.objs.size f cdv,
    c.p, c.loose, c.mean, c.mg, c.mb, BG, c.X.keeps st, c.T.keeps st, c.Xb, c.Tb, Around.frames_deeper c.hA, rfl, hk, hgen, hco, rfl, rfl, c.hi.keeps st, c.ht, c.hh, c.hgd⟩
  have r' : Room c' n := room_deeper hr
  refine h c' r' ⟨rfl, rfl⟩ rfl _ _ _ ⟨bnd_eq binds ▸ hns, fun b o e => hk₁ b o (of_hideAll _ e), Nat.le_of_eq (hideAll_size _ _)⟩ (fun p hp => ⟨hk₁ _ _ (N p hp).1, Nat.ne_of_lt (Heap.lt_size (N p hp).1), hideAll_none _ (List.mem_map_of_mem hp)⟩) (fun fl m' ν' h' tk' hp F' N' => ?_)
  obtain ⟨hsub, hp⟩ := hp
  obtain ⟨oL, heL, hoL⟩ := ns_obj FG.ns
  have hLf : c.L ∈ c'.outer.filterMap (·.frame) := List.mem_filterMap.mpr ⟨c.env, .head _, c.hf⟩
  obtain ⟨slL, hsL⟩ := F'.slots c.L oL heL hLf
  have notL : ∀ b o, c.h₀.get? b = some o → b ≠ c.L := fun b o e q => by
    rw [q, fr_self F] at e; cases e
  have inF : ∀ b o, c.h₀.get? b = some o → b ∈ c'.outer.filterMap (·.frame) → b ∈ c.outer.filterMap (·.frame) := fun b o e hm => by
    obtain ⟨env', he, hf⟩ := List.mem_filterMap.mp hm
    rcases List.mem_cons.mp he with rfl | he
    · rw [c.hf] at hf
      exact absurd (Option.some.inj hf).symm (notL b o e)
    · exact List.mem_filterMap.mpr ⟨env', he, hf⟩
  have FU : FrU c h' m := by
    refine ⟨?_, fun b o e nm => F'.keep b o (st b o e) fun hm => nm (inF b o e hm), fun b o e hm => ?_, F.above⟩
    · obtain ⟨es, ep, hd, r⟩ := hoL
      exact ⟨_, es, ep, hsL, hd, r⟩
    · obtain ⟨env', he, hf⟩ := List.mem_filterMap.mp hm
      exact F'.slots b o (st b o e) (List.mem_filterMap.mpr ⟨env', .tail _ he, hf⟩)
  have NU : News c.h₀ c.L h' ν' := fun p hq => ⟨(N' p hq).1, (N p (hsub p hq)).2⟩
  cases fl <;> exact hQ _ _ _ _ _ hp FU NU
theorem ev_callU {α : Type} {R : RX} {t : Sem α} {P : α → Loc → Led → Prop} (ho : c.outer = []) (h : EVu c m ν t P) : EV c m ν t P R :=
  fun s Q E F N hQ hE => h s Q E.f F N fun v m' ν' h' tk' p F' N' => hQ v m' ν' h' tk' p (F'.fr ho) N'
theorem EV.to {α : Type} {c : Cx} {m : Loc} {ν : Led} {t : Sem α} {P : α → Loc → Led → Prop} {R : RX} {f : Value → Shared → Prop} {s : Shared} {Q : α → Shared → Prop} (h : EV c m ν t P R) (F : Fr c.h₀ c.L s.heap m) (N : News c.h₀ c.L s.heap ν) (ok : PassesOwn (model Pg c.w) c.A c.env f)
    (hQ : ∀ v m' ν' h' tk', P v m' ν' → Fr c.h₀ c.L h' m' → News c.h₀ c.L h' ν' → Q v { s with heap := h', toks := tk' }) (hE : ∀ e h' tk', R e h' → f e { s with heap := h', toks := tk' }) : wpAny (model Pg c.w) c.A t Q f s := h s Q ⟨f, ok⟩ F N hQ hE
theorem evu_Try (C : Prop) {body : List Stmt} {np hpos pos rp : Pos} {e : Expr} {v : Value} (henv : c.env = env) (h : EV c m ν (execs body env) (fun f m' ν' => f ≠ .next ∧ PF f m' ν') (fun e h' => C ∧ Rt c ν e h'))
    (hx : env.kindOf "MachineFault" = some .globalImplicit) (hv : ∀ {A : Around} {E : Value → Shared → Prop} {s : Shared} {Q : Value → Shared → Prop}, Q v s → wpAny (model Pg c.w) A (eval e env) Q E s) (hret : C → ∀ m', PF (.ret v) m' ν) :
    EVu c m ν (exec (.Try body [.ExceptHandler (some (.Name "MachineFault" np)) none [.Return (some e) rp] hpos] [] [] pos) env) PF := by
  subst henv
  intro s Q E F N hQ
  refine wpAny_Try_except ?_
  refine h.to F N PassesOwn.looking (fun f m' ν' h' tk' x F' N' => ?_) (fun ev h' tk' x => ?_)
  · obtain ⟨hn, x⟩ := x
    cases f <;> first | exact hQ _ _ _ _ _ x (.of F') N' | exact absurd rfl hn
  · obtain ⟨hC, ⟨a, B, a0, rfl, hb, h0, hl, k1, k2, k3, k4⟩, g, m₁, F₁, U₁⟩ := x
    have ht := k4.resolve_left fun q => q.1
    refine wpAny_looks_onW c.hA c.hf (⟨k1, k2, k3, ht⟩ : Heap.FlyingW B (c.env :: c.outer) a FaultC a0 h') fun h₄ hheld₄ hsm₄ => ?_
    refine wpAny_landsW hheld₄ fun h₅ hheld hsm₅ => ?_
    have up : c.h₀.UpToSlots h₅ := (Heap.UpToSlots.of_keeps F₁.keep).trans (U₁.trans (hsm₄.trans hsm₅))
    have eg : nsIn (fr.heap_1 c.w.params) mainGlobals "MachineFault" = some (some (.ref 52)) := by k_is
    refine wpAny_handleBy_cons (codeAny_handlers_test (Name_function_global c.hk hx (loadGlobal_global (c.hg ▸ up.ns c.T.g) (mg_of c.X c.T.g eg) ?_) (by decide))) (by intro q; cases q)
    obtain ⟨ob, hob, hobc⟩ := hheld.there
    have hK : h₅.get? 52 = some fltC := hheld.1 _ _ (hb _ _ (c.Xb _ _ (flt_cls c.w)))
    refine wpAny_excMatches_sub_self hK hob hobc (by decide) (codeAny_handlers_suite ?_)
    refine lands_againW hheld fun h₆ hfl₆ hsm₆ => ?_
    refine wpAny_execs_cons (wpAny_Return_some (hv ?_))
    have up6 : c.h₀.UpToSlots h₆ := up.trans hsm₆
    refine hQ (.ret v) m₁ ν h₆ tk' (hret hC m₁) ⟨(U₁.trans (hsm₄.trans (hsm₅.trans hsm₆))).ns F₁.ns, fun b o q nm => hfl₆.1 _ _ (h0 b o q nm), fun b o q hm => up6 b o q ?_, F₁.above⟩ (fun p hp => ⟨hfl₆.1 _ _ (hl p hp).1, (hl p hp).2⟩)
    obtain ⟨o', ho', hnf⟩ := (c.B.frames.mem hm).2
    rw [q] at ho'
    obtain rfl := Option.some.inj ho'
    exact hnf
end
end Mine

end
section
namespace Mine
def DicS (c : Cx) (o : Obj) (kvs : List (Str × Value)) : Prop := o.IsDictOf (strKind Pg c.w) kvs
theorem DicS.at {c : Cx} {h : Heap} {a : Addr} {o : Obj} {kvs : List (Str × Value)} (x : DicS c o kvs) (e : h.get? a = some o) : h.DictOf (strKind Pg c.w) a kvs := Heap.dictOf_iff.mpr ⟨o, e, x⟩
section
variable {c : Cx} {m : Loc} {ν : Led} {R : RX} {env : Env} {P : Value → Loc → Led → Prop} {PU : Unit → Loc → Led → Prop} {PM : Value × List Value → Loc → Led → Prop}
theorem ev_itemS {value slice : Expr} {d : Addr} {o : Obj} {kvs : List (Str × Value)} {k : Str} {u : Tok} {v : Value} (hm : (d, o) ∈ ν := by walk_at "zmem") (ho : DicS c o kvs := by assumption) (hv : valueAt kvs k = some v := by first | exact rfl | decide) (h : P v m ν)
    (hs : subscripted slice false (.ref d) (.str k u) = operate [.ref d, .str k u] (getItem (.ref d) (.str k u)) := by with_unfolding_all rfl) : EV c m ν (subscriptTail value slice (.ref d) (.str k u)) P R :=
  fun s Q E F N hQ hE => tail_any (ho.at (N.get hm)).mapOf.typeIs slot_dict_getitem.lookup (wpAny_getItem_of (knd := strKind Pg c.w) (strKind_is _ _ _ _) (ho.at (N.get hm)).mapOf hv (hQ _ _ _ s.heap _ h F N)) hs
theorem ev_setS {d : Addr} {o : Obj} {kvs : List (Str × Value)} {k : Str} {u : Tok} {v : Value} {ν₁ : Led} (ho : DicS c o kvs) (hν : ∀ p ∈ (d, o) :: ν₁, p ∈ ν) (hne : ∀ p ∈ ν₁, p.1 ≠ d) (hsz : kvs.length ≤ 1000) (h : ∀ o', DicS c o' (stored kvs k v) → PU () m ((d, o') :: ν₁)) : EV c m ν (setItem (.ref d) (.str k u) v) PU R :=
  ev_mut (fun o' => DicS c o' (stored kvs k v)) hν hne (fun s Q E e hQ => wpAny_setItem_pairs (knd := strKind Pg c.w) (strKind_is _ _ _ _) (ho.at e) (fun h' hd hs => by
    obtain ⟨o', e', x⟩ := Heap.dictOf_iff.mp hd
    exact hQ h' _ o' e' x hs) (Nat.le_trans hsz (by decide))) h
theorem ev_getSm {d : Addr} {o : Obj} {kvs : List (Str × Value)} {pl : Sem Bool} (hm : (d, o) ∈ ν := by walk_at "zmem") (ho : DicS c o kvs := by assumption) (h : PM (.builtin "dict.get", [.ref d]) m ν) : EV c m ν (getMethod (.ref d) "get" pl) PM R :=
  fun s Q E F N hQ hE => kdg_method N hm ho (hQ _ _ _ s.heap s.toks h F N)
theorem ev_getS1 {d : Addr} {o : Obj} {kvs : List (Str × Value)} {k : Str} {t : Tok} (hm : (d, o) ∈ ν := by walk_at "zmem") (ho : DicS c o kvs := by assumption) (lo : (d == sysModules) = false := by assumption) (h : P ((valueAt kvs k).getD .none) m ν) : EV c m ν (call (.builtin "dict.get") [.ref d, .str k t]) P R :=
  fun s Q E F N hQ hE => kdg_get1 N hm ho lo (strKind_is _ _ k t) _ rfl (hQ _ _ _ s.heap _ h F N)
theorem empty_dicS (c : Cx) : DicS c emptyDict [] := by
  obtain ⟨o, ho, hd⟩ := Heap.dictOf_iff.mp (Heap.DictOf.new (knd := strKind Pg c.w) c.base)
  rw [Heap.get?_push_size _ rfl] at ho
  obtain rfl := Option.some.inj ho
  exact hd
/-- {x: a, y: b} -/
theorem ev_Dict2 {x1 x2 : Str} {n1 n2 : Nat} {p1 p2 pos : Pos} {e1 e2 : Expr} (hx : x1 ≠ x2) (h : ∀ d, Above d ν → EV c m ((d, emptyDict) :: ν) (eval e1 env) (fun a m1 ν1 => EV c m1 ν1 (eval e2 env) (fun b m2 ν2 => ∃ ν3, (∀ p ∈ (d, emptyDict) :: ν3, p ∈ ν2) ∧ (∀ p ∈ ν3, p.1 ≠ d) ∧ ∀ o', DicS c o' [(x1, a), (x2, b)] → P (.ref d) m2 ((d, o') :: ν3)) R) R) :
    EV c m ν (eval (.Dict [some (.Constant (.str x1) n1 p1), some (.Constant (.str x2) n2 p2)] [e1, e2] pos) env) P R := by
  intro s Q E F N hQ hE
  refine wpAny_Dict_pairs (knd := strKind Pg c.w) (pairs := [(eval (.Constant (.str x1) n1 p1) env, do let x ← eval e1 env; standAt pos; pure x), (eval (.Constant (.str x2) n2 p2) env, do let x ← eval e2 env; standAt pos; pure x)]) rfl (by simp) (by simp) ?_
  have F1 := F.push emptyDict
  have N1 := N.push F emptyDict rfl
  refine evalPairs_cons (Constant_str (wpAny_bind ?_))
  refine (h s.heap.objs.size (fun p hp => Heap.lt_size (N p hp).1)) { s with heap := s.heap.push emptyDict, toks := s.toks + 1 } _ E F1 N1 (fun a m1 ν1 h1 k1 g1 F2 N2 => wpAny_bind (wpAny_standAt (wpAny_pure ?_))) hE
  refine evalPairs_cons (Constant_str (wpAny_bind ?_))
  refine g1 { s with heap := h1, toks := k1 + 1 } _ E F2 N2 (fun b m2 ν2 h2 k2 g2 F3 N3 => wpAny_bind (wpAny_standAt (wpAny_pure ?_))) hE
  obtain ⟨ν3, hs, hne, hP⟩ := g2
  have N4 : News c.h₀ c.L h2 ((s.heap.objs.size, emptyDict) :: ν3) := fun p hp => N3 p (hs p hp)
  refine evalPairs_nil ⟨[(x1, a), (x2, b)], ⟨strKind_is _ _ _ _, rfl, strKind_is _ _ _ _, rfl, trivial⟩, (empty_dicS c).at (N4 _ (.head _)).1, fun h' hd hs' => ?_⟩
  rw [merged_nil_of_nodup _ (by simp [hx])] at hd
  obtain ⟨o', e', x⟩ := Heap.dictOf_iff.mp hd
  obtain ⟨F5, N5⟩ := news_put F3 N4 hne e' hs'
  exact hQ _ _ _ h' _ (hP o' x) F5 N5
end
/- a display of many written pairs -/
inductive ConstP (env : Env) : List (Sem Value × Sem Value) → List (Str × Int) → Prop
  | nil : ConstP env [] []
  | cons {x : Str} {n : Int} {k1 k2 : Nat} {p1 p2 pos : Pos} {ps : List (Sem Value × Sem Value)} {L : List (Str × Int)} : ConstP env ps L → ConstP env ((eval (.Constant (.str x) k1 p1) env, do let x ← eval (.Constant (.int n) k2 p2) env; standAt pos; pure x) :: ps) ((x, n) :: L)
inductive KVs : List (Str × Int) → List (Str × Value) → Prop
  | nil : KVs [] []
  | cons {x : Str} {n : Int} {t : Tok} {L : List (Str × Int)} {kvs : List (Str × Value)} : KVs L kvs → KVs ((x, n) :: L) ((x, .int n t) :: kvs)
theorem KVs.app {L L' : List (Str × Int)} {a b : List (Str × Value)} (h : KVs L a) (h' : KVs L' b) : KVs (L ++ L') (a ++ b) := by
  induction h with
  | nil => exact h'
  | cons _ ih => exact .cons ih
theorem KVs.keys {L : List (Str × Int)} {a : List (Str × Value)} (h : KVs L a) : a.map (·.1) = L.map (·.1) := by
  induction h with
  | nil => rfl
  | cons _ ih => simp [ih]
theorem KVs.len {L : List (Str × Int)} {a : List (Str × Value)} (h : KVs L a) : a.length = L.length := by
  induction h with
  | nil => rfl
  | cons _ ih => simp [ih]
theorem KVs.look {L : List (Str × Int)} {a : List (Str × Value)} (h : KVs L a) (k : Str) : (L.lookup k = none ∧ valueAt a k = none) ∨ ∃ n t, L.lookup k = some n ∧ valueAt a k = some (.int n t) := by
  induction h with
  | nil => exact .inl ⟨rfl, rfl⟩
  | cons h ih =>
    rename_i x n t L kvs
    by_cases e : k = x
    · subst e
      exact .inr ⟨n, t, by simp [List.lookup], by simp [valueAt]⟩
    · have e1 : (k == x) = false := by simpa using e
      have e2 : ¬ x = k := fun q => e q.symm
      have : valueAt ((x, Value.int n t) :: kvs) k = valueAt kvs k := by simp [valueAt, e2]
      rw [this, List.lookup_cons, e1]
      exact ih
section
variable {c : Cx} {env : Env} {A : Around} {E : Value → Shared → Prop}
theorem long_store {d : Addr} : ∀ (ps : List (Sem Value × Sem Value)) (L : List (Str × Int)) (acc : List (Str × Value)) (s : Shared) (Q : PUnit → Shared → Prop), ConstP env ps L → s.heap.DictOf (strKind Pg c.w) d acc → acc.length + L.length ≤ 1000 →
    (∀ h' tk kvs, KVs L kvs → h'.DictOf (strKind Pg c.w) d (merged acc kvs) → Heap.SameBut d s.heap h' → Q PUnit.unit { s with heap := h', toks := tk }) →
    wpAny (model Pg c.w) A (forIn ps PUnit.unit fun (x : Sem Value × Sem Value) (_ : PUnit) => (do let kv ← x.1; let vv ← holding [kv] x.2; holding [kv, vv] (dictSet d kv vv); pure (ForInStep.yield PUnit.unit) : Sem (ForInStep PUnit))) Q E s
  | _, _, acc, s, Q, .nil, hm, _, hQ => by
    rw [List.forIn_nil]
    exact wpAny_pure (hQ s.heap s.toks [] .nil hm (Heap.SameBut.refl _ _))
  | _, _, acc, s, Q, .cons (x := x) (n := n) (k1 := k1) (k2 := k2) (p1 := p1) (p2 := p2) (pos := pos) hc, hm, hsz, hQ => by
    rw [List.length_cons] at hsz
    rw [List.forIn_cons]
    refine wpAny_bind (wpAny_bind (Constant_str (k := k1) (pos := p1) (env := env) ?_))
    refine wpAny_bind (wpAny_holding (wpAny_bind (wpAny_Constant_int (k := k2) (pos := p2) (env := env) ?_)))
    refine wpAny_bind (wpAny_standAt (wpAny_pure ?_))
    refine wpAny_bind (wpAny_holding ?_)
    refine wpAny_dictSet_pairs (hsz := by rw [sizeLine_eq]; omega) (strKind_is _ _ _ _) hm fun h₁ hm₁ hs₁ => wpAny_pure ?_
    refine long_store _ _ (stored acc _ _) _ Q hc hm₁ (by have := stored_length_le acc x (.int n (s.toks + 1)); dsimp only; omega) fun h' tk kvs hk hm' hs' => ?_
    exact hQ h' tk _ (.cons hk) (by simpa [merged] using hm') (hs₁.trans hs')
theorem long_sub {ps : List (Sem Value × Sem Value)} {L : List (Str × Int)} {s : Shared} {Q : Addr → Shared → Prop} (hc : ConstP env ps L) (hl : ¬ ps.length ≤ 15) (hz : L.length ≤ 1000)
    (hQ : ∀ h' tk kvs, KVs L kvs → h'.DictOf (strKind Pg c.w) s.heap.objs.size (merged [] kvs) → Heap.SameBut s.heap.objs.size (s.heap.push emptyDict) h' → Q s.heap.objs.size { s with heap := h', toks := tk }) : wpAny (model Pg c.w) A (subDict ps) Q E s := by
  unfold subDict
  refine wpAny_bind (wpAny_alloc (wpAny_bind (wpAny_holding ?_)))
  rw [if_neg hl]
  refine wpAny_bind (wpAny_rule ?_)
  refine wpAny_bind (long_store (c := c) (env := env) ps L [] _ _ hc ((empty_dicS c).at (Heap.get?_push_size _ rfl)) (by simpa using hz) fun h' tk kvs hk hm hs => ?_)
  exact wpAny_pure (wpAny_pure (hQ h' tk kvs hk hm hs))
theorem short_eval : ∀ (ps : List (Sem Value × Sem Value)) (L : List (Str × Int)) (s : Shared) (Q : List (Value × Value) → Shared → Prop), ConstP env ps L → (∀ tk vs kvs, KVs L kvs → Carries (strKind Pg c.w) vs kvs → Q vs { s with toks := tk }) → wpAny (model Pg c.w) A (evalPairs ps) Q E s
  | _, _, s, Q, .nil, hQ => evalPairs_nil (hQ s.toks [] [] .nil trivial)
  | _, _, s, Q, .cons (x := x) (n := n) (k1 := k1) (k2 := k2) (p1 := p1) (p2 := p2) (pos := pos) hc, hQ => by
    refine evalPairs_cons (Constant_str (k := k1) (pos := p1) (env := env) ?_)
    refine wpAny_bind (wpAny_Constant_int (k := k2) (pos := p2) (env := env) (wpAny_bind (wpAny_standAt (wpAny_pure ?_))))
    exact short_eval _ _ _ _ hc fun tk vs kvs hk hcr => hQ tk _ _ (.cons hk) ⟨strKind_is _ _ _ _, rfl, hcr⟩
theorem short_sub {ps : List (Sem Value × Sem Value)} {L : List (Str × Int)} {s : Shared} {Q : Addr → Shared → Prop} (hc : ConstP env ps L) (hl : ps.length ≤ 15)
    (hQ : ∀ h' tk kvs, KVs L kvs → h'.DictOf (strKind Pg c.w) s.heap.objs.size (merged [] kvs) → Heap.SameBut s.heap.objs.size (s.heap.push emptyDict) h' → Q s.heap.objs.size { s with heap := h', toks := tk }) : wpAny (model Pg c.w) A (subDict ps) Q E s :=
  wpAny_subDict (knd := strKind Pg c.w) hl (short_eval (c := c) ps L _ _ hc fun tk vs kvs hk hcr => ⟨kvs, hcr, (empty_dicS c).at (Heap.get?_push_size _ rfl), fun h' hm hs => hQ h' _ kvs hk hm hs⟩)
theorem put_pairs {s : Shared} {d : Addr} {kvs : List (Str × Value)} {k : Str} {key v : Value} {Q : Unit → Shared → Prop} (hkey : (strKind Pg c.w).is k key = true) (hm : s.heap.DictOf (strKind Pg c.w) d kvs)
    (hQ : ∀ h', h'.DictOf (strKind Pg c.w) d (stored kvs k v) → Heap.SameBut d s.heap h' → Q () { s with heap := h' }) (hn : valueAt kvs k = none) (hsz : kvs.length ≤ 1000) : wpAny (model Pg c.w) A (dictPut d ((strKind Pg c.w).hash k) key v) Q E s := by
  obtain ⟨o, es, ep, ho, hc, hd, hk, hp, hnd⟩ := hm
  have hes : es.size ≤ sizeLine := by
    have e1 := hp.length
    have e2 : es.toList.length = es.size := by simp
    rw [sizeLine_eq]; omega
  unfold dictPut
  refine wpAny_bind (wpAny_dictFind_of hkey ho hd hk ?_)
  have hidx : (es.findIdx? fun e => (strKind Pg c.w).is k e.key) = kvs.findIdx? fun kv => decide (kv.1 = k) := by
    rw [← hp.findIdx k]; obtain ⟨l⟩ := es; simp
  have hno : kvs.findIdx? (fun kv => decide (kv.1 = k)) = none := by
    rw [List.findIdx?_eq_none_iff]
    intro p hp'
    unfold valueAt at hn
    rw [Option.map_eq_none_iff, List.find?_eq_none] at hn
    simpa using hn p hp'
  rw [hidx, hno]
  have hany : ¬ (kvs.any fun kv => decide (kv.1 = k)) = true := by
    rw [List.any_eq_true]; rintro ⟨kv, hkv, he⟩
    rw [List.findIdx?_eq_none_iff] at hno
    rw [hno kv hkv] at he; cases he
  refine wpAny_updateDictKeys (hz := hes) ho hd (hQ _ ⟨_, _, ep + 1, Heap.get?_update_self _ ho (Obj.isFreed_of_dict (Obj.data_mapDictKeys hd _)), hc.mapDictKeys _, Obj.data_mapDictKeys hd _, hk.push hkey _, ?_, ?_⟩ (Heap.SameBut.update ..))
  · rw [stored, if_neg hany]
    have := hp.append hkey ((strKind Pg c.w).hash k) v
    obtain ⟨l⟩ := es
    simpa using this
  · rw [stored, if_neg hany, List.map_append, List.nodup_append]
    refine ⟨hnd, by simp, ?_⟩
    intro a ha b hb
    simp only [List.map_cons, List.map_nil, List.mem_singleton] at hb
    subst hb
    obtain ⟨kv, hkv, rfl⟩ := List.mem_map.mp ha
    rw [List.findIdx?_eq_none_iff] at hno
    simpa using hno kv hkv
theorem merge_pairs {s : Shared} {d o : Addr} {kvs more : List (Str × Value)} {Q : Unit → Shared → Prop} (hdo : d ≠ o) (hoS : (o == sysModules) = false) (hd : s.heap.DictOf (strKind Pg c.w) d kvs) (ho : s.heap.DictOf (strKind Pg c.w) o more) (hne : kvs ≠ [])
    (hnd : ((kvs ++ more).map (·.1)).Nodup) (hz : kvs.length + more.length ≤ 1000)
    (hQ : ∀ h', h'.DictOf (strKind Pg c.w) d (kvs ++ more) → Heap.SameBut d s.heap h' → Q () { s with heap := h' }) : wpAny (model Pg c.w) A (mergeMapping d (.ref o) false) Q E s := by
  obtain ⟨od, esd, epd, hod, hcd, hdd, hkd, hpd, hnd'⟩ := id hd
  obtain ⟨oo, eso, epo, hoo, hco, hdo', hko, hpo, hno⟩ := id ho
  have hlen : more.length = eso.size := by rw [← hpo.length]; simp
  have t1 : Looks (model Pg c.w) s.heap (typeOf (.ref o)) (.type "dict") := hco.1 ▸ (Looks.ld hoo).andThen .now
  have s1 : Looks (model Pg c.w) s.heap (isInstance (.ref o) (.type "dict")) true := t1.andThen (f := fun t => isSubtype t (.type "dict")) (Looks.of_pure isSubtype_dict_dict)
  have i1 : Looks (model Pg c.w) s.heap (specialOf (.ref o) "__iter__") (some (.builtin "dict.__iter__")) := t1.andThen (Looks.of_pure (by rw [typeLookup_type, builtinLookup_eq_fast]; kernel_rfl))
  unfold mergeMapping
  refine wpAny_bind (s1.here ?_)
  rw [if_pos rfl]
  refine wpAny_bind (i1.here ?_)
  rw [show ((some (Value.builtin "dict.__iter__") == some (Value.builtin "dict.__iter__")) = true) from by decide]
  refine wpAny_bind (wpAny_pure ?_)
  dsimp only
  rw [if_neg (by rw [hoS]; exact Bool.false_ne_true)]
  refine wpAny_bind (wpAny_dictEntries hod hdd ?_)
  have hemp : ¬ esd.isEmpty = true := fun q => by
    have h0 : esd = #[] := Array.isEmpty_iff.mp q
    have := hpd.length
    rw [h0] at this
    exact hne (List.length_eq_zero_iff.mp (by simpa using this.symm))
  rw [if_neg hemp]
  refine wpAny_bind (wpAny_dictEntries hoo hdo' ?_)
  refine wpAny_bind (wpAny_dictEpoch hoo hdo' ?_)
  refine wpAny_bind ?_
  refine wpAny_forIn_list _
      (fun rest _ s' => ∃ h' i, s' = { s with heap := h' } ∧ rest = List.range' i (eso.size - i) ∧ i ≤ eso.size ∧ h'.DictOf (strKind Pg c.w) d (kvs ++ more.take i) ∧ h'.get? o = some oo ∧ Heap.SameBut d s.heap h')
      _ ?_ ?_ _ _ ⟨s.heap, 0, rfl, by rw [List.range_eq_range', Nat.sub_zero], Nat.zero_le _, by simpa using hd, hoo, Heap.SameBut.refl _ _⟩
  · rintro x rest b s' ⟨h', i, rfl, hr, hi, hd', hoo', hs'⟩
    have hlt : i < eso.size := by
      rcases Nat.lt_or_ge i eso.size with h | h
      · exact h
      · rw [Nat.sub_eq_zero_of_le h] at hr; simp at hr
    obtain ⟨rfl, hrest⟩ : x = i ∧ rest = List.range' (i + 1) (eso.size - (i + 1)) := by
      have e : eso.size - i = (eso.size - (i + 1)) + 1 := by omega
      rw [e, List.range'_succ] at hr
      injection hr with h1 h2
      exact ⟨h1, h2⟩
    refine wpAny_bind (wpAny_dictEntries hoo' hdo' ?_)
    rw [Array.getElem?_eq_getElem hlt]
    obtain ⟨kv, hkv⟩ : ∃ kv, more[x]? = some kv := ⟨more[x]'(by rw [hlen]; exact hlt), List.getElem?_eq_getElem _⟩
    obtain ⟨k, v⟩ := kv
    obtain ⟨hkey, hval⟩ := hpo.get? (e := eso[x]) (by simp [hlt]) hkv
    obtain ⟨k', hkey', hhash⟩ := hko eso[x] (Array.getElem_mem hlt)
    obtain rfl : k' = k := (strKind Pg c.w).inj _ _ _ hkey' hkey
    show wpAny _ _ (holding [eso[x].key, eso[x].val] (dictPut d eso[x].hash eso[x].key eso[x].val) >>= _) _ _ _
    rw [hhash, hval]
    have fresh : valueAt (kvs ++ more.take x) k' = none := by
      unfold valueAt
      rw [Option.map_eq_none_iff, List.find?_eq_none]
      intro p hp e
      have hpk : p.1 = k' := by simpa using e
      have hnd2 := hnd
      rw [← List.take_append_drop x more, ← List.append_assoc, List.map_append, List.nodup_append] at hnd2
      refine hnd2.2.2 p.1 (List.mem_map_of_mem hp) k' ?_ hpk
      refine List.mem_map.mpr ⟨(k', v), ?_, rfl⟩
      exact List.mem_iff_getElem?.mpr ⟨0, by rw [List.getElem?_drop]; simpa using hkv⟩
    refine wpAny_bind (wpAny_holding (put_pairs hkey hd' (fun h'' hd'' hs'' => ?_) fresh (by have := List.length_take_le x more; simp only [List.length_append]; omega)))
    have hoo'' : h''.get? o = some oo := (hs''.2 o (Ne.symm hdo)).trans hoo'
    refine wpAny_bind (wpAny_dictEpoch hoo'' hdo' ?_)
    rw [if_neg (by simp)]
    refine wpAny_pure ⟨h'', x + 1, rfl, hrest, hlt, ?_, hoo'', hs'.trans hs''⟩
    rw [List.take_add_one, hkv, ← List.append_assoc]
    rw [stored, if_neg] at hd''
    · exact hd''
    · rw [List.any_eq_true]
      rintro ⟨p, hp, e⟩
      unfold valueAt at fresh
      rw [Option.map_eq_none_iff, List.find?_eq_none] at fresh
      exact fresh p hp e
  · rintro b s' ⟨h', i, rfl, hr, hi, hd', hoo', hs'⟩
    have hin : i = eso.size := by
      rcases Nat.lt_or_ge i eso.size with h | h
      · have e : eso.size - i = (eso.size - (i + 1)) + 1 := by omega
        rw [e, List.range'_succ] at hr; exact nomatch hr
      · exact Nat.le_antisymm hi h
    rw [hin, ← hlen, List.take_length] at hd'
    exact wpAny_pure (hQ h' hd' hs')
end
abbrev Pr := Sem Value × Sem Value
theorem gather17 (f : (Option (Sem Value) × Sem Value) → (Option Addr × List Pr) → Sem (ForInStep (Option Addr × List Pr))) (hf : ∀ (p : Pr) (run : List Pr) (main : Option Addr), run.length + 1 < 17 → f (some p.1, p.2) (main, run) = pure (.yield (main, run ++ [p]))) :
    ∀ (A : List Pr) (rest : List (Option (Sem Value) × Sem Value)) (run : List Pr) (main : Option Addr), run.length + A.length < 17 → forIn (A.map (fun p => (some p.1, p.2)) ++ rest) (main, run) f = forIn rest (main, run ++ A) f
  | [], rest, run, main, _ => by simp
  | p :: A, rest, run, main, h => by
    rw [List.map_cons, List.cons_append, List.forIn_cons, hf p run main (by simp at h; omega), pure_bind]
    have := gather17 f hf A rest (run ++ [p]) main (by simp at h ⊢; omega)
    simpa using this
theorem disp_two {M : Model} {Ar : Around} {Q : Value → Shared → Prop} {E : Value → Shared → Prop} {s : Shared} (A : List Pr) (z : Pr) (B : List Pr) (hA : A.length = 16) (hB : B.length < 17) (hB0 : B ≠ [])
    (h : wpAny M Ar (subDict (A ++ [z])) (fun d s₁ => wpAny M Ar (subDict B) (fun sub s₂ => wpAny M Ar (mergeMapping d (.ref sub) false) (fun _ s₃ => Q (.ref d) s₃) (fun _ _ => False) s₂) E s₁) E s) :
    wpAny M Ar (dictDisplay ((A ++ [z] ++ B).map fun p => (some p.1, p.2))) Q E s := by
  have e : (A ++ [z] ++ B).map (fun p : Pr => (some p.1, p.2)) = A.map (fun p => (some p.1, p.2)) ++ ((some z.1, z.2) :: B.map fun p => (some p.1, p.2)) := by simp
  rw [e]
  unfold dictDisplay
  dsimp only
  rw [gather17 _ (fun p run main h => by
    have hne : ((run ++ [(p.1, p.2)]).length == 17) = false := by simp; omega
    simp only [hne, Bool.false_eq_true, if_false]) A _ [] none (by simp [hA]), List.forIn_cons]
  have h17 : (([] ++ A ++ [(z.1, z.2)]).length == 17) = true := by simp [hA]
  have hne : ([] ++ A ++ [(z.1, z.2)]).isEmpty = false := by simp
  refine wpAny_bind (wpAny_bind ?_)
  dsimp only
  rw [if_pos h17, if_neg (by rw [hne]; exact Bool.false_ne_true)]
  refine wpAny_bind (wpAny_bind ?_)
  rw [List.nil_append]
  refine wpAny_mono h (fun d s₁ h₁ => wpAny_pure (wpAny_pure ?_)) fun _ _ x => x
  dsimp only
  rw [show B.map (fun p : Pr => ((some p.1 : Option (Sem Value)), p.2)) = B.map (fun p => (some p.1, p.2)) ++ [] by simp]
  rw [gather17 _ (fun p run main h => by
    have hne : ((run ++ [(p.1, p.2)]).length == 17) = false := by simp; omega
    simp only [hne, Bool.false_eq_true, if_false]) B [] [] (some d) (by simpa using hB), List.forIn_nil]
  refine wpAny_pure ?_
  dsimp only
  have hb : ([] ++ B).isEmpty = false := by cases B with | nil => exact absurd rfl hB0 | cons _ _ => rfl
  rw [if_neg (by rw [hb]; exact Bool.false_ne_true), List.nil_append]
  refine wpAny_bind (wpAny_bind (wpAny_holding (wpAny_mono h₁ (fun sub s₂ h₂ => ?_) fun _ _ x => x)))
  refine wpAny_bind (wpAny_onRaise (wpAny_holding (wpAny_mono h₂ (fun _ s₃ h₃ => wpAny_pure (wpAny_pure h₃)) fun _ _ x => x.elim)))
section
variable {c : Cx} {m : Loc} {ν : Led} {R : RX} {env : Env} {P : Value → Loc → Led → Prop}
/-- a display of 25 written pairs -/
theorem ev_Dict25 {keys : List (Option Expr)} {values : List Expr} {pos : Pos} {A B : List Pr} {z : Pr} {LA LB : List (Str × Int)} (hsh : (evalEachOpt keys env).zip ((evalEach values env).map fun v => do let x ← v; standAt pos; pure x) = (A ++ [z] ++ B).map fun p => (some p.1, p.2))
    (hA : A.length = 16) (hB : B.length ≤ 15) (hB0 : B ≠ []) (cA : ConstP env (A ++ [z]) LA) (cB : ConstP env B LB) (hz : LA.length + LB.length ≤ 1000) (hnd : ((LA ++ LB).map (·.1)).Nodup)
    (h : ∀ d o kvs, Above d ν → (d == sysModules) = false → DicS c o kvs → KVs (LA ++ LB) kvs → P (.ref d) m ((d, o) :: ν)) : EV c m ν (eval (.Dict keys values pos) env) P R := by
  intro s Q E F N hQ hE
  rw [arm_eval_Dict, hsh]
  have hlow := F.notModules (modules_low c.T.nolimit)
  have ab : Above s.heap.objs.size ν := fun p hp => Heap.lt_size (N p hp).1
  have hndA : (LA.map (·.1)).Nodup := by rw [List.map_append, List.nodup_append] at hnd; exact hnd.1
  have hndB : (LB.map (·.1)).Nodup := by rw [List.map_append, List.nodup_append] at hnd; exact hnd.2.1
  refine wpAny_bind (wpAny_standAt (disp_two A z B hA (Nat.lt_of_le_of_lt hB (by decide)) hB0 ?_))
  refine long_sub (c := c) (env := env) cA (by simp [hA]) (by omega) fun h1 k1 kv1 hk1 hd1 hs1 => ?_
  rw [merged_nil_of_nodup _ (by rw [hk1.keys]; exact hndA)] at hd1
  obtain ⟨o1, e1, x1⟩ := Heap.dictOf_iff.mp hd1
  obtain ⟨F1, N1⟩ := news_put (F.push emptyDict) (N.push F emptyDict rfl) ab.ne e1 hs1
  refine short_sub (c := c) (env := env) cB hB fun h2 k2 kv2 hk2 hd2 hs2 => ?_
  rw [merged_nil_of_nodup _ (by rw [hk2.keys]; exact hndB)] at hd2
  obtain ⟨o2, e2, x2⟩ := Heap.dictOf_iff.mp hd2
  have hab2 : Above h1.objs.size ((s.heap.objs.size, o1) :: ν) := fun p hp => Heap.lt_size (N1 p hp).1
  have hlow2 := F1.notModules (modules_low c.T.nolimit)
  obtain ⟨F2, N2⟩ := news_put (F1.push emptyDict) (N1.push F1 emptyDict rfl) hab2.ne e2 hs2
  have hl1 := hk1.len
  have hl2 := hk2.len
  refine merge_pairs (c := c) (kvs := kv1) (more := kv2) (ltN' (hab2 _ (.head _))) hlow2 (DicS.at (c := c) x1 (N2 _ (.tail _ (.head _))).1) (DicS.at (c := c) x2 (N2 _ (.head _)).1) (fun q => ?_) (by rw [(hk1.app hk2).keys]; exact hnd) (by omega) fun h3 hd3 hs3 => ?_
  · subst q
    cases hk1
    cases hh : A ++ [z] with
    | nil => simp at hh
    | cons _ _ => rw [hh] at cA; cases cA
  obtain ⟨o3, e3, x3⟩ := Heap.dictOf_iff.mp hd3
  obtain ⟨F3, N3⟩ := news_put (ν₁ := (h1.objs.size, o2) :: ν) F2 (fun p hp => N2 p (by
    rcases hp with _ | ⟨_, _ | ⟨_, hp⟩⟩
    · exact .tail _ (.head _)
    · exact .head _
    · exact .tail _ (.tail _ hp))) (ne_cons (gtN (hab2 _ (.head _))) ab.ne) e3 hs3
  exact hQ _ m _ h3 k2 (h _ o3 _ ab hlow x3 (hk1.app hk2)) F3 (fun p hp => N3 p (by
    rcases hp with _ | ⟨_, hp⟩
    · exact .head _
    · exact .tail _ (.tail _ hp)))
end
end Mine

end
section
open PyProof
namespace Mine
section
variable {prog : Program} {w : World} {A : Around} {E : Value → Shared → Prop} {s : Shared}
theorem places_to (k : Nat) : Builtin.Slice.slicePlaces 0 (k : Int) 1 = k := by
  unfold Builtin.Slice.slicePlaces
  have h1 : (1 : Int) > 0 := by omega
  simp only [h1, if_true, Int.ediv_one]
  split <;> omega
theorem sliceApplied_to {sl : Addr} {n k : Nat} {j : Int} {u : Tok} {Q : Int × Int × Nat → Shared → Prop} (hs : s.heap.IsSliceOf sl .none (.int j u) .none) (hk : Builtin.Slice.sliceAdjust none (some j) 1 (n : Int) = (0, (k : Int))) (h : Q ((0 : Int), 1, k) s) :
    wpAny (model prog w) A (Builtin.Slice.sliceApplied (.ref sl) (pure (n : Int))) Q E s := by
  obtain ⟨os, hos, hcs, hds⟩ := id hs
  unfold Builtin.Slice.sliceApplied Builtin.Slice.sliceFields
  refine wpAny_bind (wpAny_bind (wpAny_field hos hds (x := .none) rfl (wpAny_bind (wpAny_field hos hds (x := .int j u) rfl (wpAny_bind (wpAny_field hos hds (x := .none) rfl (wpAny_pure ?_)))))))
  refine wpAny_bind (slicePart_none ?_)
  show wpAny _ _ (if ((1 : Int) == 0) = true then _ else _) _ _ s
  rw [if_neg (by decide)]
  refine wpAny_bind (slicePart_none (wpAny_bind (slicePart_int (wpAny_bind (wpAny_pure ?_)))))
  show wpAny _ _ (match Builtin.Slice.sliceAdjust none (some j) 1 (n : Int) with | (lo, hi) => pure (lo, (1 : Int), Builtin.Slice.slicePlaces lo hi 1)) _ _ s
  rw [hk]
  show wpAny _ _ (pure ((0 : Int), (1 : Int), Builtin.Slice.slicePlaces 0 (k : Int) 1)) _ _ s
  rw [places_to k]
  exact wpAny_pure h
theorem pick_to (xs : Array Value) (k : Nat) : ((List.range k).filterMap fun (i : Nat) => xs[((0 : Int) + (i : Int) * 1).toNat]?).toArray = (xs.toList.take k).toArray := by
  have e : (fun (i : Nat) => xs[((0 : Int) + (i : Int) * 1).toNat]?) = fun i => xs[0 + i]? := by
    funext i
    have : ((0 : Int) + (i : Int) * 1).toNat = 0 + i := by omega
    rw [this]
  rw [e]
  have := pick_run xs 0 k
  rw [List.filterMap_map] at this
  have e2 : ((fun x => xs[x]?) ∘ fun x => 0 + x) = fun i => xs[0 + i]? := rfl
  rw [e2] at this
  rw [this, List.drop_zero]
theorem getItem_tuple_to {t sl : Addr} {items : Array Value} {k : Nat} {j : Int} {u : Tok} {Q : Value → Shared → Prop} (ht : IsTup s.heap t items) (hs : s.heap.IsSliceOf sl .none (.int j u) .none) (hk : Builtin.Slice.sliceAdjust none (some j) 1 (items.size : Int) = (0, (k : Int)))
    (hsz : items.size ≤ sizeLine)
    (h : k ≠ items.size → Q (.ref s.heap.objs.size) { s with heap := s.heap.push { cls := .type "tuple", data := .seq (items.toList.take k).toArray } })
    (h' : k = items.size → Q (.ref t) s) : wpAny (model prog w) A (getItem (.ref t) (.ref sl)) Q E s := by
  have hdrop : sizeOk (.seq (items.toList.take k).toArray) := by
    show (items.toList.take k).toArray.size ≤ sizeLine
    rw [List.size_toArray, List.length_take, Array.length_toList]
    omega
  obtain ⟨os, hos, hcs, hds⟩ := id hs
  have hTs : s.TypeIs (.ref sl) "slice" := ⟨os, hos, hcs⟩
  unfold getItem
  try with_reducible refine wpAny_holding ?_
  first | refine wpAny_bind (wpAny_pure ?_) | skip
  refine wpAny_bind (wpAny_sequenceKey ht.typeIs (by decide) ?_)
  refine wpAny_bind (wpAny_callSpecial?_slot (name := Str.ofString "__getitem__") ht.typeIs slot_tuple_getitem
    (wpAny_call_entry slot_tuple_getitem ht.typeIs entry_tuple_getitem ?_ (args_tuple_getitem _ _)))
  show wpAny _ _ (Builtin.Tuple.tupleItemsOf (.ref t) >>= _) _ _ s
  refine wpAny_bind (tupleItemsOf_ ht ?_)
  refine wpAny_bind (wpAny_typeOf hTs ?_)
  rw [if_pos (by decide)]
  refine wpAny_bind (sliceApplied_to hs hk ?_)
  show wpAny _ _ (if ((0 : Int) == 0 && (1 : Int) == 1 && k == items.size) = true then _ else _) _ _ s
  by_cases hc : k = items.size
  · rw [if_pos (by simp [hc])]
    refine wpAny_bind ?_
    unfold Builtin.Tuple.tupleIsExact
    refine wpAny_bind (wpAny_typeOf ht.typeIs (wpAny_pure ?_))
    rw [if_pos (by decide)]
    exact wpAny_bind (wpAny_rule (wpAny_pure ⟨_, rfl, wpAny_pure (h' hc)⟩))
  · rw [if_neg (by simp [hc]), pick_to items k]
    first
    | exact wpAny_bind (m := Builtin.Tuple.tupleExact _) (wpAny_newObj_type (wpAny_pure ⟨_, rfl, wpAny_pure (h hc)⟩) hdrop)
    | exact wpAny_bind (m := Builtin.Tuple.tupleExact _) (wpAny_newObj_type (wpAny_bind (wpAny_pure (wpAny_pure ⟨_, rfl, wpAny_pure (h hc)⟩))) hdrop)
    | exact wpAny_bind (wpAny_bind (m := Builtin.Tuple.tupleExact _) (wpAny_newObj_type (wpAny_pure (wpAny_pure ⟨_, rfl, wpAny_pure (h hc)⟩)) hdrop))
    | exact wpAny_bind (wpAny_bind (m := Builtin.Tuple.tupleExact _) (wpAny_newObj_type (wpAny_pure ⟨_, rfl, wpAny_pure (h hc)⟩) hdrop))
end
section
variable {c : Cx} {m : Loc} {ν : Led} {R : RX} {env : Env} {P : Value → Loc → Led → Prop}
/-- value[:upper] of a tuple -/
theorem ev_ToT {value upper : Expr} {p pos : Pos} (h : EV c m ν (eval value env) (fun v m₁ ν₁ => EV c m₁ ν₁ (eval upper env) (fun i m₂ ν₂ => ∃ t o vs j u k, v = .ref t ∧ i = .int j u ∧ (t, o) ∈ ν₂ ∧ TupO o vs ∧ Builtin.Slice.sliceAdjust none (some j) 1 (vs.length : Int) = (0, ((k : Nat) : Int)) ∧ vs.length ≤ 2 ^ 20 ∧
      (k ≠ vs.length → ∀ D, Above D ν₂ → P (.ref D) m₂ ((D, tupO (vs.take k)) :: ν₂)) ∧ (k = vs.length → P (.ref t) m₂ ν₂)) R) R)
    (hs : ∀ t S : Addr, subscripted (.Slice none (some upper) none p) false (.ref t) (.ref S) = operate [.ref S, .ref t] (getItem (.ref t) (.ref S)) := by intro _ _; with_unfolding_all rfl) : EV c m ν (eval (.Subscript value (.Slice none (some upper) none p) pos) env) P R := by
  intro s Q E F N hQ hE
  refine Subscript_ (h s _ E F N (fun v m₁ ν₁ h₁ k₁ x F₁ N₁ => wpAny_Slice (wpAny_pure (x _ _ E F₁ N₁ (fun i m₂ ν₂ h₂ k₂ y F₂ N₂ => wpAny_pure ?_) hE))) hE)
  obtain ⟨t, o, vs, j, u, k, rfl, rfl, hm, ho, hk, h3, hP, hP'⟩ := y
  have ht : IsTup (h₂.push { cls := .type "slice", data := .fields #[.none, .int j u, .none] }) t vs.toArray := (ho.at' (N₂.get hm)).keeps fun _ _ e => Heap.get?_push_of_some _ e
  have N0 := N₂.grown (h' := h₂.push { cls := .type "slice", data := .fields #[.none, .int j u, .none] }) fun _ _ e => Heap.get?_push_of_some _ e
  have N1 := News.push (F₂.push { cls := .type "slice", data := .fields #[.none, .int j u, .none] }) N0 { cls := .type "tuple", data := .seq (vs.toArray.toList.take k).toArray }
  refine tail_any (s := { s with heap := h₂.push { cls := .type "slice", data := .fields #[.none, .int j u, .none] }, toks := k₂ }) ht.typeIs slot_tuple_getitem.lookup (getItem_tuple_to (k := k) ht (Heap.IsSliceOf.new ..) (by simpa using hk) (by simp only [List.size_toArray]; exact Nat.le_trans h3 (by decide)) (fun hne => ?_) fun he => ?_) (hs _ _)
  · rw [Heap.size_push] at N1
    show Q (.ref (h₂.push _).objs.size) _
    rw [Heap.size_push]
    exact hQ _ _ _ _ k₂ (hP (by simpa using hne) (h₂.objs.size + 1) (fun p hp => Nat.lt_succ_of_lt (Heap.lt_size (N₂ p hp).1))) ((F₂.push _).push _) (by simpa using N1)
  · exact hQ _ _ _ _ k₂ (hP' (by simpa using he)) (F₂.push _) N0
/-- value[:upper] of a list -/
theorem ev_ToL {value upper : Expr} {p pos : Pos} (h : EV c m ν (eval value env) (fun v m₁ ν₁ => EV c m₁ ν₁ (eval upper env) (fun i m₂ ν₂ => ∃ t o vs j u, v = .ref t ∧ i = .int j u ∧ (t, o) ∈ ν₂ ∧ LstO o vs ∧ vs.length ≤ 2 ^ 20 ∧
      (∀ D, Above D ν₂ → P (.ref D) m₂ ((D, lstO (slicePick vs.toArray none (some j) none).toList) :: ν₂))) R) R)
    (hs : ∀ t S : Addr, subscripted (.Slice none (some upper) none p) false (.ref t) (.ref S) = operate [.ref S, .ref t] (getItem (.ref t) (.ref S)) := by intro _ _; with_unfolding_all rfl) : EV c m ν (eval (.Subscript value (.Slice none (some upper) none p) pos) env) P R := by
  intro s Q E F N hQ hE
  refine Subscript_ (h s _ E F N (fun v m₁ ν₁ h₁ k₁ x F₁ N₁ => wpAny_Slice (wpAny_pure (x _ _ E F₁ N₁ (fun i m₂ ν₂ h₂ k₂ y F₂ N₂ => wpAny_pure ?_) hE))) hE)
  obtain ⟨t, o, vs, j, u, rfl, rfl, hm, ho, h3, hP⟩ := y
  have hl : (h₂.push { cls := .type "slice", data := .fields #[.none, .int j u, .none] }).IsList t vs.toArray := (ho.at (N₂.get hm)).push _
  have N0 := N₂.grown (h' := h₂.push { cls := .type "slice", data := .fields #[.none, .int j u, .none] }) fun _ _ e => Heap.get?_push_of_some _ e
  have N1 := News.push (F₂.push { cls := .type "slice", data := .fields #[.none, .int j u, .none] }) N0 { cls := .type "list", data := .seq (slicePick vs.toArray none (some j) none) }
  refine tail_any (s := { s with heap := h₂.push { cls := .type "slice", data := .fields #[.none, .int j u, .none] }, toks := k₂ }) (Heap.IsList.typeIs (s := { s with heap := h₂.push { cls := .type "slice", data := .fields #[.none, .int j u, .none] }, toks := k₂ }) hl) list_getitem_lookup
    (wpAny_getItem_list_slice hl (Heap.IsSliceOf.new ..) .none (.int _ _) .none (by simp) ?_ (by simp only [List.size_toArray]; exact Nat.le_trans h3 (by decide))) (hs _ _)
  rw [Heap.size_push] at N1
  show Q (.ref (h₂.push _).objs.size) _
  rw [Heap.size_push]
  exact hQ _ _ _ _ k₂ (hP (h₂.objs.size + 1) (fun p hp => Nat.lt_succ_of_lt (Heap.lt_size (N₂ p hp).1))) ((F₂.push _).push _) (by simpa [lstO] using N1)
theorem pick_butLast (vs : List Value) : (slicePick vs.toArray none (some (-1)) none).toList = vs.dropLast := by
  have := slicePick_butLast vs.toArray 1 (Nat.le_refl _)
  simp only [Int.natCast_one] at this
  rw [this]
  simp [List.dropLast_eq_take]
theorem adj_neg1 {n k : Nat} (h : n = k + 1) : Builtin.Slice.sliceAdjust none (some (-1)) 1 (n : Int) = (0, (k : Int)) := by
  unfold Builtin.Slice.sliceAdjust
  have h1 : ¬ ((1 : Int) < 0) := by omega
  have h2 : ((-1 : Int) < 0) := by omega
  simp only [h1, h2, if_false, if_true]
  congr 1
  omega
theorem adj_to {n : Nat} {j : Int} (h0 : 0 ≤ j) (h : j ≤ n) : Builtin.Slice.sliceAdjust none (some j) 1 (n : Int) = (0, (j.toNat : Int)) := by
  unfold Builtin.Slice.sliceAdjust
  have h1 : ¬ ((1 : Int) < 0) := by omega
  have h2 : ¬ (j < 0) := by omega
  simp only [h1, h2, if_false]
  congr 1
  omega
end
end Mine

end
section
open PyProof
namespace Mine
section
variable {c : Cx} {m : Loc} {ν : Led} {R : RX} {env : Env} {P : Value → Loc → Led → Prop} {PM : Value × List Value → Loc → Led → Prop}
theorem ev_inTupL {a : Addr} {vs : List Value} {ys : List Str} {x : Str} {u : Tok} {o : Obj} (hm : (a, o) ∈ ν := by walk_at "zmem") (ho : TupO o vs := by exact tupO_mk) (hi : StrsAre vs ys := by walk_at "zstrs") (h : P (.bool (ys.any (· == x))) m ν) : EV c m ν (compareOp .In (.str x u) (.ref a)) P R :=
  fun s Q E F N hQ hE => in_tuple_strs (items := vs.toArray) (ho.at' (N.get hm)) (by simpa using hi) (hQ _ _ _ s.heap s.toks h F N)
theorem ev_neNI {n : Int} {t : Tok} (h : P (.bool true) m ν) : EV c m ν (compareOp .NotEq .none (.int n t)) P R := fun s Q E F N hQ hE => PySem.EqNone.ne_none_int (hQ _ _ _ s.heap s.toks h F N)
theorem ev_notInL {a : Addr} {vs : List Value} {l : List Int} {k : Int} {t : Tok} {o : Obj} (hm : (a, o) ∈ ν) (ho : LstO o vs) (hi : AllV IntV l vs) (h : P (.bool (!(l.any (· == k)))) m ν) : EV c m ν (compareOp .NotIn (.int k t) (.ref a)) P R :=
  fun s Q E F N hQ hE => notin_list_ints (ho.at (N.get hm)) (intsAre hi) (hQ _ _ _ s.heap s.toks h F N)
end
/-- a written pair of a display -/
structure CI where
  x : Str
  n : Int
  k1 : Nat
  k2 : Nat
  p1 : Pos
  p2 : Pos
def CI.key (i : CI) : Option Expr := some (.Constant (.str i.x) i.k1 i.p1)
def CI.val (i : CI) : Expr := .Constant (.int i.n) i.k2 i.p2
def CI.pr (env : Env) (pos : Pos) (i : CI) : Pr := (eval (.Constant (.str i.x) i.k1 i.p1) env, do let x ← eval (.Constant (.int i.n) i.k2 i.p2) env; standAt pos; pure x)
theorem zip_ci (env : Env) (pos : Pos) : ∀ I : List CI, (evalEachOpt (I.map CI.key) env).zip ((evalEach (I.map CI.val) env).map fun v => do let x ← v; standAt pos; pure x) = (I.map (CI.pr env pos)).map fun p => (some p.1, p.2)
  | [] => rfl
  | i :: I => by
    rw [List.map_cons, List.map_cons, arm_evalEachOpt_cons, arm_evalEach_cons, List.map_cons, List.zip_cons_cons, zip_ci env pos I]
    rfl
theorem constP_ci (env : Env) (pos : Pos) : ∀ I : List CI, ConstP env (I.map (CI.pr env pos)) (I.map fun i => (i.x, i.n))
  | [] => .nil
  | i :: I => .cons (constP_ci env pos I)
theorem ev_DictCI {c : Cx} {m : Loc} {ν : Led} {R : RX} {env : Env} {P : Value → Loc → Led → Prop} {keys : List (Option Expr)} {values : List Expr} {pos : Pos} (IA : List CI) (z : CI) (IB : List CI) (hk : keys = (IA ++ [z] ++ IB).map CI.key) (hv : values = (IA ++ [z] ++ IB).map CI.val)
    (hA : IA.length = 16) (hB : IB.length ≤ 15) (hB0 : IB ≠ []) (hnd : (((IA ++ [z] ++ IB).map fun i => (i.x, i.n)).map (·.1)).Nodup)
    (h : ∀ d o kvs, Above d ν → (d == sysModules) = false → DicS c o kvs → KVs ((IA ++ [z] ++ IB).map fun i => (i.x, i.n)) kvs → P (.ref d) m ((d, o) :: ν)) : EV c m ν (eval (.Dict keys values pos) env) P R := by
  have e : (IA ++ [z] ++ IB).map (fun i => (i.x, i.n)) = ((IA ++ [z]).map fun i => (i.x, i.n)) ++ IB.map fun i => (i.x, i.n) := by simp
  rw [e] at hnd h
  refine ev_Dict25 (A := IA.map (CI.pr env pos)) (z := CI.pr env pos z) (B := IB.map (CI.pr env pos)) (LA := (IA ++ [z]).map fun i => (i.x, i.n)) (LB := IB.map fun i => (i.x, i.n)) ?_ (by simpa using hA) (by simpa using hB) (by simpa using hB0) ?_ (constP_ci env pos IB) (by simp; omega) hnd h
  · subst hk hv
    rw [zip_ci]
    simp
  · have := constP_ci env pos (IA ++ [z])
    simpa using this
end Mine

end
section
open PyProof
namespace Mine
section
variable {c : Cx} {m : Loc} {ν : Led} {R : RX} {env : Env} {P : Value → Loc → Led → Prop} {PO : Option Value → Loc → Led → Prop} {PM : Value × List Value → Loc → Led → Prop}
/- a dict of numbers, walked -/
theorem ev_iterD {d : Addr} {o : Obj} {kvs : List (Int × Value)} (hm : (d, o) ∈ ν) (ho : DicO c o kvs) (lo : (d == sysModules) = false)
    (h : ∀ it oi ep, Above it ν → KdkIter oi d 0 kvs.length ep → KdkAt (intKind Pg c.w) o kvs ep → P (.ref it) m ((it, oi) :: ν)) : EV c m ν (pyIter (.ref d)) P R := by
  intro s Q E F N hQ hE
  obtain ⟨ep, ha⟩ := KdkAt.of ho
  exact wpAny_pyIter_dict lo (ha.dictAt (N.get hm)) (hQ _ m _ _ s.toks (h s.heap.objs.size _ ep (fun p hp => Heap.lt_size (N p hp).1) ⟨rfl, rfl⟩ ha) (F.push _) (N.push F _ rfl))
theorem ev_nextD {it d : Addr} {oi o : Obj} {i ep : Nat} {kvs : List (Int × Value)} {k : Int} {v : Value} {ν₁ : Led} (hi : KdkIter oi d i kvs.length ep) (hm : (d, o) ∈ ν₁) (ho : KdkAt (intKind Pg c.w) o kvs ep) (hx : kvs[i]? = some (k, v)) (hν : ∀ p ∈ (it, oi) :: ν₁, p ∈ ν) (hne : ∀ p ∈ ν₁, p.1 ≠ it)
    (h : ∀ oi' t, KdkIter oi' d (i + 1) kvs.length ep → PO (some (.int k t)) m ((it, oi') :: ν₁)) : EV c m ν (pyNext (.ref it)) PO R := by
  intro s Q E F N hQ hE
  have N₁ : News c.h₀ c.L s.heap ((it, oi) :: ν₁) := fun p hp => N p (hν p hp)
  refine wpAny_pyNext_dict_item (hi.at (N₁ _ (.head _)).1) (ho.dictAt (N₁ _ (.tail _ hm)).1) hx fun key h' hk hit hs => ?_
  obtain ⟨o', e, h1, h2⟩ := hit
  obtain ⟨F', N'⟩ := news_put F N₁ hne e hs
  obtain ⟨t, rfl⟩ := PySem.Value.isInt_shape hk
  exact hQ _ _ _ h' s.toks (h o' t ⟨h1, h2⟩) F' N'
theorem ev_endD {it d : Addr} {oi o : Obj} {i ep : Nat} {kvs : List (Int × Value)} {ν₁ : Led} (hi : KdkIter oi d i kvs.length ep) (hm : (d, o) ∈ ν₁) (ho : KdkAt (intKind Pg c.w) o kvs ep) (hx : kvs[i]? = none) (hν : ∀ p ∈ (it, oi) :: ν₁, p ∈ ν) (hne : ∀ p ∈ ν₁, p.1 ≠ it)
    (h : PO none m ν₁) : EV c m ν (pyNext (.ref it)) PO R := by
  intro s Q E F N hQ hE
  have N₁ : News c.h₀ c.L s.heap ((it, oi) :: ν₁) := fun p hp => N p (hν p hp)
  refine wpAny_pyNext_dict_end c.hh (hi.at (N₁ _ (.head _)).1) (ho.dictAt (N₁ _ (.tail _ hm)).1) hx fun h' he => ?_
  obtain ⟨F', N'⟩ := news_ext F (fun p hp => N₁ p (.tail _ hp)) (N₁ _ (.head _)).2.1 (N₁ _ (.head _)).2.2 hne he
  exact hQ _ _ _ h' s.toks h F' N'
/- sorted, list, setdefault -/
theorem allInts : ∀ {vs : List Value} {l : List Int}, IntsAre vs l → AllV IntV l vs
  | _, _, .nil => .nil
  | _, _, .cons n t h => .cons ⟨t, rfl⟩ (allInts h)
theorem allV_of {α : Type} {S : α → Value → Prop} : ∀ {as : List α} {vs : List Value}, vs.length = as.length → (∀ (j : Nat) (v : Value), vs[j]? = some v → ∃ a, as[j]? = some a ∧ S a v) → AllV S as vs
  | [], [], _, _ => .nil
  | [], _ :: _, e, _ => by cases e
  | _ :: _, [], e, _ => by cases e
  | a :: as, v :: vs, e, h => by
    obtain ⟨a', e', x⟩ := h 0 v rfl
    cases e'
    exact .cons x (allV_of (by simpa using e) fun j w hw => h (j + 1) w hw)
theorem ev_sortedD {d : Addr} {o : Obj} {kvs : List (Int × Value)} (hm : (d, o) ∈ ν) (ho : DicO c o kvs) (lo : (d == sysModules) = false) (hsz : kvs.length < 64)
    (h : ∀ D oD vs ks, Above D ν → LstO oD vs → AllV IntV ks vs → ks.Perm (kvs.map (·.1)) → P (.ref D) m ((D, oD) :: ν)) : EV c m ν (call (.builtin "sorted") [.ref d]) P R := by
  intro s Q E F N hQ hE
  obtain ⟨ep, ha⟩ := KdkAt.of ho
  refine kdu_sorted (kdl_dict (knd := intKind Pg c.w) (ep := ep) lo) c.hh F N (ha.dictAt (N.get hm)) (Nat.le_trans (Nat.le_of_lt hsz) (by decide)) fun D h' tk vs F' N' hab hl hj => ?_
  have hI : AllV IntV (kvs.map (·.1)) vs := by
    refine allV_of (by rw [hl, List.length_map]) fun j v e => ?_
    obtain ⟨k, x, hx, hk⟩ := hj j v e
    obtain ⟨t, rfl⟩ := PySem.Value.isInt_shape hk
    exact ⟨k, by rw [List.getElem?_map, hx]; rfl, t, rfl⟩
  have hD := N' _ (.head _)
  refine wpAny_call_entry slot_list_sort ⟨_, hD.1, rfl⟩ entry_list_sort (list_sort_tree hD.1 (intsAre hI) (by omega) fun out ns' a1 a2 a3 => ⟨_, rfl, ?_⟩) (args_list_sort _)
  have he : Heap.ExtBut D h' (sortedHeap h' D vs out) := fun b o hb e => (sortedHeap_old hb (Heap.lt_size e)).trans e
  obtain ⟨F2, N2⟩ := news_ext F' (fun p hp => N' p (.tail _ hp)) hD.2.1 hD.2.2 (Above.ne hab) he
  obtain ⟨e, he2⟩ := sortedHeap_at (out := out) hD.1
  refine hQ _ m ((D, seqObj "list" out e) :: ν) _ _ (h D _ out.toList ns' hab ⟨e, rfl⟩ (allInts a1) a2) F2 fun p hp => ?_
  rcases List.mem_cons.mp hp with rfl | hp
  · exact ⟨he2, hD.2⟩
  · exact N2 p hp
theorem ev_listOfL {b : Addr} {ob : Obj} {ws : List Value} (hb : (b, ob) ∈ ν) (hob : LstO ob ws) (hsz : ws.length ≤ sizeLine) (h : ∀ D o, Above D ν → LstO o ws → P (.ref D) m ((D, o) :: ν)) : EV c m ν (call (.type "list") [.ref b]) P R := by
  obtain ⟨n2, rfl⟩ := hob
  exact fun s Q E F N hQ hE => kup_listOf F N hb (zs := ws) rfl (fun D k h' F' N' l1 => hQ _ _ _ _ _ (h D _ l1 ⟨_, rfl⟩) F' N') hsz
theorem ev_getSetdef {d : Addr} {o : Obj} {kvs : List (Int × Value)} {pl : Sem Bool} (hm : (d, o) ∈ ν) (ho : DicO c o kvs) (h : PM (.builtin "dict.setdefault", [.ref d]) m ν) : EV c m ν (getMethod (.ref d) "setdefault" pl) PM R := by
  intro s Q E F N hQ hE
  have hD := ho.at (N.get hm)
  exact getMethod_builtin hD.typeIs PySem.F.plainAttrs_dict PySem.F.slot_dict_setdefault PySem.F.type_dict_setdefault hD.mapOf.noDict (hQ _ _ _ s.heap s.toks h F N)
theorem ev_setdefault {d : Addr} {o : Obj} {kvs : List (Int × Value)} {k : Int} {t : Tok} {v : Value} {ν₁ : Led} (ho : DicO c o kvs) (lo : (d == sysModules) = false) (hν : ∀ p ∈ (d, o) :: ν₁, p ∈ ν) (hne : ∀ p ∈ ν₁, p.1 ≠ d) (hsz : kvs.length ≤ 1000)
    (h1 : ∀ x, valueAt kvs k = some x → P x m ν) (h2 : valueAt kvs k = none → ∀ o', DicO c o' (stored kvs k v) → P v m ((d, o') :: ν₁)) : EV c m ν (call (.builtin "dict.setdefault") [.ref d, .int k t, v]) P R := by
  intro s Q E F N hQ hE
  have N₁ : News c.h₀ c.L s.heap ((d, o) :: ν₁) := fun p hp => N p (hν p hp)
  have hD := ho.at (N₁ _ (.head _)).1
  refine call_meetsIn PySem.F.slot_dict_setdefault hD.typeIs PySem.F.entry_dict_setdefault (PySem.F.args_dict_setdefault_3 _ _ _) (kt_meets_setdefault (intKind Pg c.w) d (intKind_is _ _ k t) lo v)
    ⟨kvs, hD, Nat.le_trans hsz (by decide), (fun x hx => ?_), fun hn h' hm hs => ?_⟩
  · exact hQ _ _ _ s.heap _ (h1 x hx) F N
  · obtain ⟨o', e', x⟩ := Heap.dictOf_iff.mp hm
    obtain ⟨F', N'⟩ := news_put F N₁ hne e' hs
    exact hQ _ _ _ h' _ (h2 hn o' x) F' N'
theorem ev_selfD {it d : Addr} {oi : Obj} {i n ep : Nat} (hm : (it, oi) ∈ ν) (hi : KdkIter oi d i n ep) (h : P (.ref it) m ν) : EV c m ν (pyIter (.ref it)) P R :=
  fun s Q E F N hQ hE => wpAny_pyIter_keyiter (hi.at (N.get hm)) (hQ _ _ _ s.heap s.toks h F N)
theorem yldD {x : Str} {pos : Pos} {it d : Addr} {o : Obj} {kvs : List (Int × Value)} {ep : Nat} (ho : KdkAt (intKind Pg c.w) o kvs ep) :
    Yld c it (.Name x pos) (fun a => a = it) kvs.length (fun k b => ∃ oi, b = [(it, oi)] ∧ KdkIter oi d k kvs.length ep) (fun k v δ => (∃ x y t, kvs[k]? = some (x, y) ∧ v = .int x t) ∧ δ = []) (fun L => (d, o) ∈ L) := by
  refine ⟨?_, ?_⟩
  · rintro k b ν₁ m PO R ⟨oi, rfl, hi⟩ hc hs h1 h2
    cases hx : kvs[k]? with
    | none => exact ev_endD hi hs ho hx (fun _ h => h) hc (h1 (List.getElem?_eq_none_iff.mp hx))
    | some q =>
      obtain ⟨x', y'⟩ := q
      exact ev_nextD hi hs ho hx (fun _ h => h) hc (fun oi' t hi' => h2 (List.getElem?_eq_some_iff.mp hx).1 _ [] [(it, oi')] ⟨⟨x', y', t, hx, rfl⟩, rfl⟩ (fun _ h => nomatch h) fun m' PU R' ν₂ _ q => ev_goName (q _ ⟨_, rfl, hi'⟩))
  · rintro k b ν m P R ⟨oi, rfl, hi⟩ hs h
    exact ev_selfD (hs _ (.head _)) hi h
theorem empty_dicO (c : Cx) : DicO c emptyDict [] := by
  obtain ⟨o, ho, hd⟩ := Heap.dictOf_iff.mp (Heap.DictOf.new (knd := intKind Pg c.w) c.base)
  rw [Heap.get?_push_size _ rfl] at ho
  obtain rfl := Option.some.inj ho
  exact hd
/-- {n: e} -/
theorem ev_DictI1 {k : Int} {n1 : Nat} {p1 pos : Pos} {e1 : Expr} (h : ∀ d, Above d ν → (d == sysModules) = false → EV c m ((d, emptyDict) :: ν) (eval e1 env) (fun a m1 ν1 => ∃ ν3, (∀ p ∈ (d, emptyDict) :: ν3, p ∈ ν1) ∧ (∀ p ∈ ν3, p.1 ≠ d) ∧ ∀ o', DicO c o' [(k, a)] → P (.ref d) m1 ((d, o') :: ν3)) R) :
    EV c m ν (eval (.Dict [some (.Constant (.int k) n1 p1)] [e1] pos) env) P R := by
  intro s Q E F N hQ hE
  refine wpAny_Dict_pairs (knd := intKind Pg c.w) (pairs := [(eval (.Constant (.int k) n1 p1) env, do let x ← eval e1 env; standAt pos; pure x)]) rfl (by simp) (by simp) ?_
  have F1 := F.push emptyDict
  have N1 := N.push F emptyDict rfl
  refine evalPairs_cons (wpAny_Constant_int (wpAny_bind ?_))
  refine (h s.heap.objs.size (fun p hp => Heap.lt_size (N p hp).1) (F.notModules (modules_low c.T.nolimit))) { s with heap := s.heap.push emptyDict, toks := s.toks + 1 } _ E F1 N1 (fun a m1 ν1 h1 k1 g1 F2 N2 => wpAny_bind (wpAny_standAt (wpAny_pure ?_))) hE
  obtain ⟨ν3, hs, hne, hP⟩ := g1
  have N4 : News c.h₀ c.L h1 ((s.heap.objs.size, emptyDict) :: ν3) := fun p hp => N2 p (hs p hp)
  refine evalPairs_nil ⟨[(k, a)], ⟨intKind_is _ _ _ _, rfl, trivial⟩, (empty_dicO c).at (N4 _ (.head _)).1, fun h' hd hs' => ?_⟩
  rw [merged_nil_of_nodup _ (by simp)] at hd
  obtain ⟨o', e', x⟩ := Heap.dictOf_iff.mp hd
  obtain ⟨F5, N5⟩ := news_put F2 N4 hne e' hs'
  exact hQ _ _ _ h' _ (hP o' x) F5 N5
end
end Mine

end
section
open PyProof
namespace Mine
section
variable {c : Cx} {m : Loc} {ν : Led} {R : RX} {env : Env} {P : Value → Loc → Led → Prop}
theorem ev_isNotNone {v : Value} (h : P (.bool (!(v == .none))) m ν) : EV c m ν (compareOp .IsNot v .none) P R := fun s Q E F N hQ hE => isnot_none_gen (hQ _ _ _ s.heap s.toks h F N)
end
end Mine

end
section
open PyProof
namespace Mine
section
variable {c : Cx} {m : Loc} {ν : Led} {R : RX} {env : Env} {P : Value → Loc → Led → Prop} {PM : Value × List Value → Loc → Led → Prop}
theorem ev_isNoneRef {x : Addr} (h : P (.bool false) m ν) : EV c m ν (compareOp .Is .none (.ref x)) P R := fun s Q E F N hQ hE => wpAny_is_other rfl (by intro e; cases e) (hQ _ _ _ s.heap s.toks h F N)
theorem ev_neB {a b : Bool} (h : P (.bool (a != b)) m ν) : EV c m ν (compareOp .NotEq (.bool a) (.bool b)) P R := fun s Q E F N hQ hE => PyProof.Rows.ne_bool (hQ _ _ _ s.heap s.toks h F N)
theorem ev_getCount {x : Str} {t : Tok} {pl : Sem Bool} (h : PM (.builtin "str.count", [.str x t]) m ν) : EV c m ν (getMethod (.str x t) "count" pl) PM R := fun s Q E F N hQ hE => PySem.GM.count (hQ _ _ _ s.heap s.toks h F N)
theorem ev_count {x y : Str} {t u : Tok} (h : ∀ k, P (.int (Txt.count x y) k) m ν) : EV c m ν (call (.builtin "str.count") [.str x t, .str y u]) P R := fun s Q E F N hQ hE => PySem.SC.count (hQ _ _ _ s.heap _ (h _) F N)
end
theorem count_join {c : Nat} (x : Str) (xs : List Str) (hx : ∀ y ∈ x :: xs, c ∉ y.cps.toList) : Txt.count (Str.join ⟨#[c]⟩ (x :: xs)) ⟨#[c]⟩ = (xs.length : Int) := by
  rw [count_cnt, cnt_join _ c (by show cnt c [c] = 1; rw [cnt_cons, cnt_nil]; simp) _ hx]
  simp
end Mine

end
section
open PyProof
namespace Mine
section
variable {c : Cx} {m : Loc} {ν : Led} {R : RX} {env : Env} {it : Addr} {target : Expr} {own : Addr → Prop} {n : Nat} {B : Nat → Led → Prop} {Item : Nat → Value → Led → Prop} {src : Led → Prop}
variable {P : Value → Loc → Led → Prop} {PF : Flow → Loc → Led → Prop}
theorem allc' {α : Type} {Q : α → Prop} {a : α} {l : List α} (h : Q a) (h' : ∀ x ∈ l, Q x) : ∀ x ∈ a :: l, Q x := fun x hx => by
  rcases List.mem_cons.mp hx with rfl | hx
  · exact h
  · exact h' x hx
theorem alln' {α : Type} {Q : α → Prop} : ∀ x ∈ ([] : List α), Q x := fun _ h => nomatch h
theorem ev_locals {α : Type} {c : Cx} {m : Loc} {ν : Led} {R : RX} {t : Sem α} {P : α → Loc → Led → Prop} (h : ∀ m', m' = m → EV c m' ν t P R) : EV c m ν t P R := h m rfl
/-- the goal is kept out of sight while facts are taken apart -/
theorem hide_goal {G : Prop} (h : ∀ X : Prop, (G → X) → X) : G := h G id
/-- what comes behind is kept out of sight, so that the proof's terms stay small -/
theorem ev_hide {α : Type} {t : Sem α} {P : α → Loc → Led → Prop} (h : ∀ K : α → Loc → Led → Prop, (∀ v m' ν', P v m' ν' → K v m' ν') → EV c m ν t K R) : EV c m ν t P R := h P fun _ _ _ x => x
/-- a for loop, its turn's end kept out of sight -/
theorem ev_forK {body : List Stmt} {Rb : RX} (Y : Yld c it target own n B Item src) (I : Nat → Loc → Led → Prop) {b₀ ν₀ : Led} (hb : B 0 b₀) (hc : ∀ p ∈ ν₀, ¬ own p.1) (hs : src ν₀) (h0 : I 0 m ν₀) (hν : ∀ p ∈ b₀ ++ ν₀, p ∈ ν)
    (step : ∀ k m₁ ν₁ v δ b, k < n → I k m₁ ν₁ → (∀ p ∈ ν₁, ¬ own p.1) → src ν₁ → Item k v δ → (∀ p ∈ δ, Above p.1 ν₁ ∧ ¬ own p.1) → B (k + 1) b →
      ∀ K : Flow → Loc → Led → Prop, (∀ {m' : Loc} {ν' : Led}, (∃ ν'', (∀ p ∈ b ++ ν'', p ∈ ν') ∧ (∀ p ∈ ν'', ¬ own p.1) ∧ src ν'' ∧ I (k + 1) m' ν'') → K .next m' ν' ∧ K .cont m' ν') → (∀ {v : Value} {m' : Loc} {ν' : Led}, PF (.ret v) m' ν' → K (.ret v) m' ν') →
      EV c m₁ (b ++ (δ ++ ν₁)) (assign target env v) (fun _ m₂ ν₂ => EV c m₂ ν₂ (execs body env) K Rb) Rb)
    (fin : ∀ m₁ ν₁, I n m₁ ν₁ → (∀ p ∈ ν₁, ¬ own p.1) → src ν₁ → PF .next m₁ ν₁) :
    ∃ (J : Nat → Loc → Led → Prop) (n' : Nat), J n' m ν ∧ ∀ k m₃ ν₃, J k m₃ ν₃ → EV c m₃ ν₃ (pyNext (.ref it)) (ForTurn c env target (.ref it) body J k PF Rb) Rb :=
  ev_forI Y I hb hc hs h0 hν (fun k m₁ ν₁ v δ b h1 h2 h3 h4 h5 h6 h7 => step k m₁ ν₁ v δ b h1 h2 h3 h4 h5 h6 h7 _ (fun x => ⟨x, x⟩) (fun x => x)) fin
/-- a list comprehension, likewise -/
theorem ev_compK {scope : Scope} {cl : List (Str × Addr)} {ifs : List Expr} {elt : Expr} {Rb : RX} (Y : Yld c it target own n B Item src) (hsz : n ≤ sizeLine) (I : Nat → List Value → Led → Prop) {b₀ ν₀ : Led} (hb : B 0 b₀) (hc : ∀ p ∈ ν₀, ¬ own p.1) (hs : src ν₀) (h0 : I 0 [] ν₀) (hν : ∀ p ∈ b₀ ++ ν₀, p ∈ ν)
    (hown : ∀ a, own a → ∃ p ∈ b₀, p.1 = a) (hbo : ∀ k b, B k b → ∀ p ∈ b, own p.1)
    (hup : ∀ (L : Led) (q : Addr × Obj), src L → src (q :: L))
    (step : ∀ k acc ν₁ v δ b C oC mC D oD, k < n → acc.length ≤ k → I k acc ν₁ → (∀ p ∈ ν₁, ¬ own p.1 ∧ p.1 ≠ C ∧ p.1 ≠ D) → src ν₁ → Item k v δ → (∀ p ∈ δ, Above p.1 ν₁ ∧ ¬ own p.1 ∧ p.1 ≠ C ∧ p.1 ≠ D) → B (k + 1) b → NsObj oC mC → LstO oD acc → Above D ν₀ → @LT.lt Nat _ D C → (∀ p ∈ b, p.1 ≠ C ∧ p.1 ≠ D) → (∀ p ∈ (D, oD) :: (b ++ (δ ++ ν₁)), p.1 ≠ C) →
      ∀ (K : Value → Loc → Led → Prop) (K0 : Loc → Led → Prop),
      (∀ {y : Value} {ν' : Led} {oC' : Obj} {mC' : Loc} {ν'' : Led}, (∀ p ∈ (C, oC') :: (D, oD) :: (b ++ ν''), p ∈ ν') → NsObj oC' mC' → (∀ p ∈ ν'', ¬ own p.1 ∧ p.1 ≠ C ∧ p.1 ≠ D) → src ν'' → I (k + 1) (acc ++ [y]) ν'' → K y m ν') →
      (∀ {ν' : Led} {oC' : Obj} {mC' : Loc} {ν'' : Led}, (∀ p ∈ (C, oC') :: (D, oD) :: (b ++ ν''), p ∈ ν') → NsObj oC' mC' → (∀ p ∈ ν'', ¬ own p.1 ∧ p.1 ≠ C ∧ p.1 ≠ D) → src ν'' → I (k + 1) acc ν'' → K0 m ν') →
      EV c m ((C, oC) :: (D, oD) :: (b ++ (δ ++ ν₁))) (assign target (compEnvC scope cl C env) v) (fun _ m₂ ν₂ => EV c m₂ ν₂ (testsOf ifs (compEnvC scope cl C env)) (fun ok m₃ ν₃ => if ok then EV c m₃ ν₃ (eval elt (compEnvC scope cl C env)) K Rb else K0 m₃ ν₃) Rb) Rb)
    (fin : ∀ D oD acc ν₁, acc.length ≤ n → I n acc ν₁ → LstO oD acc → Above D ν₀ → (∀ p ∈ ν₁, ¬ own p.1 ∧ p.1 ≠ D) → src ν₁ → P (.ref D) m ((D, oD) :: ν₁)) :
    CompIt c env scope cl target ifs elt P Rb (.ref it) m ν :=
  ev_compI Y hsz I hb hc hs h0 hν hown hbo hup (fun k acc ν₁ v δ b C oC mC D oD h1 h2 h3 h4 h5 h6 h7 h8 h9 ha hb' hc' hd he => step k acc ν₁ v δ b C oC mC D oD h1 h2 h3 h4 h5 h6 h7 h8 h9 ha hb' hc' hd he _ _ (fun x1 x2 x3 x4 x5 => comp_done x1 x2 x3 x4 x5) (fun x1 x2 x3 x4 x5 => comp_done x1 x2 x3 x4 x5)) fin
theorem ev_WhileK {test : Expr} {body : List Stmt} {pos : Pos} {Rb : RX} (J : Nat → Loc → Led → Prop) (n : Nat) (h0 : J n m ν)
    (turn : ∀ k m₃ ν₃, J k m₃ ν₃ → ∀ (K : Flow → Loc → Led → Prop) (K0 : Loc → Led → Prop), (∀ {k' : Nat} {m' : Loc} {ν' : Led}, k' < k → J k' m' ν' → K .next m' ν' ∧ K .cont m' ν') → (∀ {v : Value} {m' : Loc} {ν' : Led}, PF (.ret v) m' ν' → K (.ret v) m' ν') → (∀ {m' : Loc} {ν' : Led}, PF .next m' ν' → K0 m' ν') →
      EV c m₃ ν₃ (isTrue test env (eval test env)) (fun b m₄ ν₄ => if b then EV c m₄ ν₄ (execs body env) K Rb else K0 m₄ ν₄) Rb)
    (hX : OutOfLoop c env Rb R) : EV c m ν (exec (.While test body [] pos) env) PF R :=
  ev_While J n h0 (fun k m₃ ν₃ hj => turn k m₃ ν₃ hj _ _ (fun {k'} _ _ hk x => ⟨⟨k', hk, x⟩, ⟨k', hk, x⟩⟩) (fun x => x) fun x => x) hX
end
end Mine

end
namespace Mine
def isEnd (x : Str) : Bool := (["goto", "return", "rethrow"] : List Str).any (· == x)
theorem ev_ends {c : Cx} {m : Loc} {ν : Led} {P : Value → Loc → Led → Prop} {R : RX} {x : Str} {u : Tok} (h : P (.bool (isEnd x)) m ν) : EV c m ν (compareOp .In (.str x u) (.ref 57)) P R := by
  refine' ev_inTup (K := fr.heap_1 c.w.params) ?hk ?ho ?hd ?hi h
  case hk => k_is
  case ho => rfl
  case hd => exact ⟨_, rfl⟩
  case hi => exact StrsAre.cons _ _ (StrsAre.cons _ _ (StrsAre.cons _ _ StrsAre.nil))

def isDS : Part → Bool
  | .d _ => true
  | .s _ => true
  | _ => false
theorem in_ds : ∀ p : Part, (!(Builtin.Str.occurrences "ds" ⟨#[p.letter]⟩ 0 ("ds" : Str).length 1).isEmpty) = isDS p
  | .d _ => by show (!(Builtin.Str.occurrences "ds" ⟨#[100]⟩ 0 ("ds" : Str).length 1).isEmpty) = true; decide +kernel
  | .s _ => by show (!(Builtin.Str.occurrences "ds" ⟨#[115]⟩ 0 ("ds" : Str).length 1).isEmpty) = true; decide +kernel
  | .m _ => by show (!(Builtin.Str.occurrences "ds" ⟨#[109]⟩ 0 ("ds" : Str).length 1).isEmpty) = false; decide +kernel
  | .g _ => by show (!(Builtin.Str.occurrences "ds" ⟨#[103]⟩ 0 ("ds" : Str).length 1).isEmpty) = false; decide +kernel
  | .x _ => by show (!(Builtin.Str.occurrences "ds" ⟨#[120]⟩ 0 ("ds" : Str).length 1).isEmpty) = false; decide +kernel
theorem ev_inDS {c : Cx} {m : Loc} {ν : Led} {P : Value → Loc → Led → Prop} {R : RX} {p : Part} {t u : Tok} (h : P (.bool (isDS p)) m ν) : EV c m ν (compareOp .In (.str ⟨#[p.letter]⟩ u) (.str "ds" t)) P R :=
  ev_inS (by rw [in_ds]; exact h)

local macro_rules | `(tactic| walk_at "zlk") => `(tactic| first | with_reducible exact upd_self | assumption | with_unfolding_all exact rfl | (with_reducible refine upd_to ?_; walk_at "zlk"))
local macro_rules | `(tactic| walk_at "zmem") => `(tactic| first | exact List.Mem.head _ | assumption | (refine' List.Mem.tail _ ?_; walk_at "zmem") | (refine' List.mem_append_left _ ?_; walk_at "zmem") | (refine' List.mem_append_right _ ?_; walk_at "zmem"))
local macro_rules | `(tactic| walk_at "zbase") => `(tactic| first | exact fun _ h => h | assumption | ((with_reducible refine sub_tail ?_); walk_at "zbase") | ((with_reducible refine sub_inl ?_); walk_at "zbase") | ((with_reducible refine sub_inr ?_); walk_at "zbase"))
local macro_rules | `(tactic| walk_at "zsub") => `(tactic| first | with_reducible exact sub_nil | ((with_reducible refine' sub_cons ?hm ?_); (case hm => walk_at "zmem"); walk_at "zsub") | ((with_reducible refine' sub_app ?hm ?_); (case hm => walk_at "zsub"); walk_at "zsub") | walk_at "zbase")
local macro_rules | `(tactic| walk_at "zlt") => `(tactic| first | assumption | exact gtN (by assumption) | exact ltN' (by assumption) | exact Ne.symm (by assumption))
local macro_rules | `(tactic| walk_at "zne") => `(tactic| first | with_reducible exact ne_nil | assumption | exact Above.ne (by assumption) | ((with_reducible refine' ne_cons ?hm ?_); (case hm => walk_at "zlt"); walk_at "zne") | ((with_reducible refine' ne_app ?hm ?_); (case hm => walk_at "zne"); walk_at "zne"))
local macro_rules | `(tactic| walk_at "zo") => `(tactic| first | assumption | exact lstO_mk | exact tupO_mk)
local macro_rules | `(tactic| walk_at "zroom") => `(tactic| exact Room.le (by assumption) (by decide))
local macro_rules | `(tactic| walk_at "zlen") => `(tactic| first | assumption | decide | omega)
theorem Row.letters_len (r : Row) : r.letters.length = r.parts.length := by simp [Row.letters, Str.length]
theorem shaped_len {r : Row} (h : Shaped r) : r.parts.length ≤ 5 := by
  have : ∀ D : List (Str × Str), (∀ p ∈ D, p.2.length ≤ 5) → D.lookup r.name = some r.letters → r.letters.length ≤ 5 := by
    intro D
    induction D with
    | nil => intro _ h; cases h
    | cons p D ih =>
      obtain ⟨x, y⟩ := p
      intro hD hl
      rw [List.lookup_cons] at hl
      cases hb : r.name == x with
      | true => rw [hb] at hl; cases hl; exact hD _ (.head _)
      | false => rw [hb] at hl; exact ih (fun p hp => hD p (.tail _ hp)) hl
  have q := this shapesL (by decide) h
  rwa [Row.letters_len] at q
theorem c_shape_of {c : Cx} {m : Loc} {ν : Led} {P : Value → Loc → Led → Prop} {R : RX} {r : Row} {v : Value} (hr : Room c 1) (hv : RowV ν r v) (hs : Shaped r) (h : ∀ t, P (.str r.letters t) m ν) : EV c m ν (call (.ref 96) [v]) P R := by
  with_reducible refine hide_goal fun _ toG => ?_
  obtain ⟨b, o, t, vs, rfl, hm, ho, ha⟩ := hv
  refine toG ?_
  have hn := ha.length
  have h5 := shaped_len hs
  refine' ev_call (n := 0) (Rb := NoX) (binds := [("row", .ref b)]) ?ho ?hcd hr ?hb ?hl ?hk ?hc ?h (fun _ _ x => x.elim)
  case ho => k_is
  case hcd => k_is
  case hb => exact fun s => BindsTo.of_eq rfl
  case hl => exact locs rfl
  case hk => exact rfl
  case hc => decide
  case h =>
    intro c' hr' _
    dsimp only [bnd]
    refine ev_cons ?_
    refine ev_Assign (h := ?_)
    refine ev_CallM (h := ?_)
    refine ev_glob (h := ?_)
    refine ev_getD shapes_in ?_
    refine ev_cwB_1 (h := ?_)
    refine ev_spl (h := ?_)
    refine ev_Sub ?_
    refine ev_local (h := ?_)
    refine ev_int (h := fun _ => ?_)
    refine ev_itemTN (h := ?_)
    refine ev_spl0 ?_
    refine ev_shapes (fun y t' e => ?_) (fun e => by unfold Shaped at hs; rw [hs] at e; cases e)
    have ey : y = r.letters := by unfold Shaped at hs; rw [hs] at e; exact (Option.some.inj e).symm
    subst ey
    have hl := Row.letters_len r
    have h40 : r.letters.length < 2 ^ 40 := by omega
    have h41 : (Value.str r.name t :: vs).length < 2 ^ 40 := by simp only [List.length_cons]; omega
    refine ev_store (h := ?_)
    refine then_next ?_
    refine ev_cons ?_
    refine ev_If ?_
    refine ev_isOr ?_
    refine ev_isCompare (h := ?_)
    refine ev_local (h := ?_)
    refine ev_none ?_
    refine ev_isNone ?_
    refine ev_truthyB ?_
    refine ite_isF vn_str ?_
    refine ev_isOr ?_
    refine ev_isCompare (h := ?_)
    refine ev_Call (h := ?_)
    refine ev_bltn (h := ?_)
    refine ev_cwB_0 (h := ?_)
    refine ev_spl (h := ?_)
    refine ev_local (h := ?_)
    refine ev_spl0 ?_
    refine ev_lenS (h := fun _ => ?_)
    refine ev_BinOp ?_
    refine ev_Call (h := ?_)
    refine ev_bltn (h := ?_)
    refine ev_cwB_0 (h := ?_)
    refine ev_spl (h := ?_)
    refine ev_local (h := ?_)
    refine ev_spl0 ?_
    refine ev_lenT (h := fun _ => ?_)
    refine ev_int (h := fun _ => ?_)
    refine ev_sub' (h := fun _ => ?_)
    refine ev_ne ?_
    refine ev_truthyB ?_
    refine ite_isF ?_ ?_
    · show (((r.letters.length : Nat) : Int) != ((vs.length + 1 : Nat) : Int) - 1) = false
      have : ((r.letters.length : Nat) : Int) = ((vs.length + 1 : Nat) : Int) - 1 := by omega
      rw [this]; simp
    refine ev_isOr0 ?_
    refine ite_F ?_
    refine ev_nil ?_
    refine then_next ?_
    refine ev_cons ?_
    refine ev_Return ?_
    refine ev_local (h := ?_)
    refine then_ret ?_
    exact h _

theorem letters_ascii (r : Row) : r.letters.cps.all (· < 128) = true := by
  simp only [Row.letters, List.all_toArray, List.all_map, List.all_eq_true]
  intro p _
  cases p <;> rfl

theorem zself {c : Cx} {m : Loc} {ν : Led} {R : RX} {P : Value → Loc → Led → Prop} {z TI TO i1 i2 tt : Addr} {x : Str} {t : Tok} {ot : Obj} {vs : List Value} {k : Nat} {b : Led} (Z : ZAp z TI TO i1 i2) (hot : TupO ot vs) (hn : x.cps.size = vs.length) (hb : zB z TI TO i1 i2 tt x t k b) (hs : ∀ p ∈ b, p ∈ ν) (h : P (.ref z) m ν) : EV c m ν (pyIter (.ref z)) P R :=
  (yldZ (elts := []) (kk := 0) (pos := ⟨0, 0, 0, 0⟩) Z hot hn).self k b ν m P R hb hs h
theorem zB_own {z TI TO i1 i2 tt : Addr} {x : Str} {t : Tok} {k : Nat} {b : Led} (hb : zB z TI TO i1 i2 tt x t k b) : ∀ p ∈ b, zOwn z TI TO i1 i2 p.1 := by
  with_reducible refine hide_goal fun _ toG => ?_
  obtain ⟨oT, o1, o2, p, q, rfl, _⟩ := hb
  refine toG ?_
  intro p hp
  rcases hp with _ | ⟨_, _ | ⟨_, _ | ⟨_, _ | ⟨_, _ | ⟨_, hp⟩⟩⟩⟩⟩
  · exact .inl rfl
  · exact .inr (.inl rfl)
  · exact .inr (.inr (.inl rfl))
  · exact .inr (.inr (.inr (.inl rfl)))
  · exact .inr (.inr (.inr (.inr rfl)))
  · cases hp
theorem take_len {α β : Type} (f : α → List β) (l : List α) (k : Nat) : ((l.take k).flatMap f).length ≤ (l.flatMap f).length := by
  have := congrArg (fun l => (l.flatMap f).length) (List.take_append_drop k l)
  simp only [List.flatMap_append, List.length_append] at this
  omega
theorem c_uses_of {c : Cx} {m : Loc} {ν : Led} {P : Value → Loc → Led → Prop} {R : RX} {r : Row} {v : Value} (hr : Room c 2) (hv : RowV ν r v) (hs : Shaped r) (hz : r.uses.length ≤ 1000) (h : ∀ D o vs, Above D ν → LstO o vs → AllV IntV r.uses vs → P (.ref D) m ((D, o) :: ν)) : EV c m ν (call (.ref 103) [v]) P R := by
  have hv0 := hv
  with_reducible refine hide_goal fun _ toG => ?_
  obtain ⟨b, o, tn, vs, rfl, hm, ho, ha⟩ := hv
  refine toG ?_
  have hn := ha.length
  have h5 := shaped_len hs
  refine ev_post ?_
  refine' ev_call (n := 1) (Rb := NoX) (binds := [("row", .ref b)]) ?ho ?hcd hr ?hb ?hl ?hk ?hc ?h (fun _ _ x => x.elim)
  case ho => k_is
  case hcd => k_is
  case hb => exact fun s => BindsTo.of_eq rfl
  case hl => exact locs rfl
  case hk => exact rfl
  case hc => decide
  case h =>
    intro c' hr' _
    dsimp only [bnd]
    refine ev_cons ?_
    refine ev_Assign (h := ?_)
    refine ev_List ?_
    refine ev_spl0 ?_
    refine ev_newList (fun l hl => ?_) (by decide)
    refine ev_store (h := ?_)
    refine then_next ?_
    refine ev_cons ?_
    refine ev_For ?_ outNoX (Rb := NoX) (hs := fun _ => rfl)
    refine ev_Call (h := ?_)
    refine ev_bltn (h := ?_)
    refine ev_cwT_0 (h := ?_)
    refine ev_spl (h := ?_)
    refine ev_Call (h := ?_)
    refine ev_glob (h := ?_)
    refine ev_cwF_0 (h := ?_)
    refine ev_spl (h := ?_)
    refine ev_local (h := ?_)
    refine ev_spl0 ?_
    refine c_shape_of (by walk_at "zroom") (hv0.mono (KeepT.of (by walk_at "zsub"))) hs fun _ => ?_
    refine ev_spl (h := ?_)
    refine ev_FromA (h := ?_)
    refine ev_local (h := ?_)
    refine ev_int (h := fun _ => ?_)
    refine ⟨b, o, _, 1, _, rfl, rfl, by walk_at "zmem", ho, by decide, by simp only [List.length_cons]; omega, by simp only [List.length_cons]; omega, fun D hD => ?_⟩
    refine ev_spl0 ?_
    refine ev_zip (vs := vs) (letters_ascii r) (.head _) ⟨0, rfl⟩ fun z TI TO i1 i2 zb Z hzb hup => ?_
    have hT : TupO (tupO (List.drop 1 (Value.str r.name tn :: vs))) vs := ⟨0, rfl⟩
    have hsz : r.letters.cps.size = vs.length := (Row.letters_len r).trans hn.symm
    have hl_z : ∀ a, zOwn z TI TO i1 i2 a → @LT.lt Nat _ l a ∧ @LT.lt Nat _ D a ∧ Above a ν := fun a ha' => ⟨(hup a ha').tail.head, (hup a ha').head, (hup a ha').tail.tail⟩
    refine zself Z hT hsz hzb (by walk_at "zbase") ?_
    refine ev_forK (yldZ Z hT hsz) (fun k m₁ ν₁ => ∃ o acc, ν₁ = (D, tupO (List.drop 1 (Value.str r.name tn :: vs))) :: (l, o) :: ν ∧ LstO o acc ∧ AllV IntV ((r.parts.take k).flatMap usesP) acc ∧ m₁ "found" = some (.ref l)) (ν₀ := (D, tupO (List.drop 1 (Value.str r.name tn :: vs))) :: (l, lstO []) :: ν) hzb (fun p hp ho => Nat.lt_irrefl _ (hup _ ho p hp)) (.head _) ⟨_, [], rfl, lstO_mk, .nil, by walk_at "zlk"⟩ (fun _ h => h) ?_ ?_
    · intro k m₁ ν₁ v δ b' hk hI hcl hsr hit hδ hB' K1 hK1 hR1
      with_reducible refine hide_goal fun _ toG => ?_
      obtain ⟨o1, acc, rfl, ho1, hacc, hf⟩ := hI
      obtain ⟨T, p, y, w, hp, hpv, rfl, rfl⟩ := zrow_item rfl hit ha
      refine toG ?_
      have hDl : D ≠ l := gtN hD.head
      have hbl : ∀ p ∈ b', p.1 ≠ l := fun p hp => gtN (hl_z _ (zB_own hB' p hp)).1
      have hb'D : ∀ p ∈ b', p.1 ≠ D := fun p hp => gtN (hl_z _ (zB_own hB' p hp)).2.1
      refine ev_assignT2 (h := ?_)
      refine ev_store (h := ?_)
      refine ev_store (h := ?_)
      refine ev_cons ?_
      refine ev_If ?_
      refine ev_isCompare (h := ?_)
      refine ev_local (h := ?_)
      refine ev_str (h := fun _ => ?_)
      refine ev_eqS ?_
      refine ev_truthyB ?_
      have clean : ∀ o', ∀ p ∈ (D, tupO (List.drop 1 (Value.str r.name tn :: vs))) :: (l, o') :: ν, ¬ zOwn z TI TO i1 i2 p.1 := by
        intro o' p hp hz
        rcases hp with _ | ⟨_, _ | ⟨_, hp⟩⟩
        · exact Nat.lt_irrefl _ (hl_z _ hz).2.1
        · exact Nat.lt_irrefl _ (hl_z _ hz).1
        · exact Nat.lt_irrefl _ ((hl_z _ hz).2.2 p hp)
      have hk5 : acc.length ≤ 1000 := by rw [hacc.length]; exact Nat.le_trans (take_len _ _ _) hz
      rcases p with n | n | li | n | x
      focus
        refine ite_isF rfl ?_
        refine ev_cons ?_
        refine ev_If ?_
        refine ev_isCompare (h := ?_)
        refine ev_local (h := ?_)
        refine ev_str (h := fun _ => ?_)
        refine ev_eqS ?_
        refine ev_truthyB ?_
        refine ite_isF rfl ?_
        refine ev_nil ?_
        refine then_next ?_
        refine ev_nil ?_
        refine then_next ?_
        refine ev_nil ?_
      rotate_left
      focus
        refine ite_isT rfl ?_
        refine ev_cons ?_
        refine ev_ExprAny (h := ?_)
        refine ev_CallM (h := ?_)
        refine ev_local (h := ?_)
        refine ev_getAppend (h := ?_)
        refine ev_cwB_1 (h := ?_)
        refine ev_spl (h := ?_)
        refine ev_local (h := ?_)
        refine ev_spl0 ?_
      rotate_left
      focus
        refine ite_isF rfl ?_
        refine ev_cons ?_
        refine ev_If ?_
        refine ev_isCompare (h := ?_)
        refine ev_local (h := ?_)
        refine ev_str (h := fun _ => ?_)
        refine ev_eqS ?_
        refine ev_truthyB ?_
        refine ite_isT rfl ?_
        refine ev_cons ?_
        refine ev_ExprAny (h := ?_)
        refine ev_CallM (h := ?_)
        refine ev_local (h := ?_)
        refine ev_getExtend (h := ?_)
        refine ev_cwB_1 (h := ?_)
        refine ev_spl (h := ?_)
        refine ev_local (h := ?_)
        refine ev_spl0 ?_
      rotate_left
      focus
        refine ite_isF rfl ?_
        refine ev_cons ?_
        refine ev_If ?_
        refine ev_isCompare (h := ?_)
        refine ev_local (h := ?_)
        refine ev_str (h := fun _ => ?_)
        refine ev_eqS ?_
        refine ev_truthyB ?_
        refine ite_isF rfl ?_
        refine ev_nil ?_
        refine then_next ?_
        refine ev_nil ?_
        refine then_next ?_
        refine ev_nil ?_
      rotate_left
      focus
        refine ite_isF rfl ?_
        refine ev_cons ?_
        refine ev_If ?_
        refine ev_isCompare (h := ?_)
        refine ev_local (h := ?_)
        refine ev_str (h := fun _ => ?_)
        refine ev_eqS ?_
        refine ev_truthyB ?_
        refine ite_isF rfl ?_
        refine ev_nil ?_
        refine then_next ?_
        refine ev_nil ?_
        refine then_next ?_
        refine ev_nil ?_
      rotate_left
      · exact (hK1 ⟨_, by walk_at "zsub", clean _, .head _, o1, acc, rfl, ho1, by rw [take_next _ hp]; show AllV IntV (_ ++ []) _; rw [List.append_nil]; exact hacc, by walk_at "zlk"⟩).1
      · refine ev_append (ν₁ := b' ++ ((D, tupO (List.drop 1 (Value.str r.name tn :: vs))) :: ν)) ho1 (by walk_at "zsub") (by walk_at "zne") (Nat.le_trans hk5 (by decide)) fun o' ho' => ?_
        refine then_next ?_
        refine ev_nil ?_
        refine then_next ?_
        refine ev_nil ?_
        exact (hK1 ⟨_, by walk_at "zsub", clean _, .head _, o', _, rfl, ho', by rw [take_next _ hp]; exact hacc.snoc hpv, by walk_at "zlk"⟩).1
      · with_reducible refine hide_goal fun _ toG => ?_
        obtain ⟨b2, o2, vs2, rfl, hm2, ho2, hv2⟩ := hpv
        refine toG ?_
        have hi2 := ints_at hv2
        refine ev_extendT (ν₁ := b' ++ ((D, tupO (List.drop 1 (Value.str r.name tn :: vs))) :: ν)) ho1 (by walk_at "zmem") ho2 (by walk_at "zsub") (by walk_at "zne") ?_ fun o' ho' => ?_
        · have : (acc ++ vs2).length ≤ 1000 := by
            rw [(hacc.app hi2).length]
            have e := take_next usesP hp
            rw [show usesP (.m li) = li from rfl] at e
            rw [← e]
            exact Nat.le_trans (take_len _ _ _) hz
          rw [List.length_append] at this
          exact Nat.le_trans this (by decide)
        · refine then_next ?_
          refine ev_nil ?_
          refine then_next ?_
          refine ev_nil ?_
          refine then_next ?_
          refine ev_nil ?_
          exact (hK1 ⟨_, by walk_at "zsub", clean _, .head _, o', _, rfl, ho', by rw [take_next _ hp]; exact hacc.app hi2, by walk_at "zlk"⟩).1
      · exact (hK1 ⟨_, by walk_at "zsub", clean _, .head _, o1, acc, rfl, ho1, by rw [take_next _ hp]; show AllV IntV (_ ++ []) _; rw [List.append_nil]; exact hacc, by walk_at "zlk"⟩).1
      · exact (hK1 ⟨_, by walk_at "zsub", clean _, .head _, o1, acc, rfl, ho1, by rw [take_next _ hp]; show AllV IntV (_ ++ []) _; rw [List.append_nil]; exact hacc, by walk_at "zlk"⟩).1
    · rintro m₁ ν₁ ⟨o1, acc, rfl, ho1, hacc, hf⟩ _ _
      rw [hn, List.take_length] at hacc
      refine then_next ?_
      refine ev_cons ?_
      refine ev_Return ?_
      refine ev_local (h := ?_)
      refine then_ret ?_
      exact ⟨_, by walk_at "zsub", h l o1 acc hl ho1 hacc⟩

theorem slice_letters (r : Row) (h5 : r.parts.length ≤ 5) : Txt.slice r.letters none (some 1) = ⟨((r.parts.take 1).map Part.letter).toArray⟩ := by
  have idx : ∀ n, n ≤ 5 → Builtin.Str.strSliceIndices none (some 1) 1 n = (List.range n).take 1 := by decide
  unfold Txt.slice
  rw [show r.letters.length = r.parts.length from Row.letters_len r, idx _ h5]
  have hl : r.letters.cps = (r.parts.map Part.letter).toArray := rfl
  rw [hl]
  match hp : r.parts with
  | [] => simp [Row.letters, hp]
  | [p] => simp [Row.letters, hp]
  | p :: q :: ps => simp [Row.letters, List.range_succ_eq_map]
theorem d_first (r : Row) : (((⟨((r.parts.take 1).map Part.letter).toArray⟩ : Str) == "d") = r.sets.isSome) := by
  unfold Row.sets
  match r.parts with
  | [] => rfl
  | .d n :: _ => rfl
  | .s n :: _ => rfl
  | .m n :: _ => rfl
  | .g n :: _ => rfl
  | .x n :: _ => rfl
abbrev OptV (n : Option Int) (v : Value) : Prop := match n with
  | some n => ∃ t, v = .int n t
  | none => v = .none
theorem c_sets_of {c : Cx} {m : Loc} {ν : Led} {P : Value → Loc → Led → Prop} {R : RX} {r : Row} {v : Value} (hr : Room c 2) (hv : RowV ν r v) (hs : Shaped r) (h : ∀ v, OptV r.sets v → P v m ν) : EV c m ν (call (.ref 110) [v]) P R := by
  have hv0 := hv
  with_reducible refine hide_goal fun _ toG => ?_
  obtain ⟨b, o, tn, vs, rfl, hm, ho, ha⟩ := hv
  refine toG ?_
  have h5 := shaped_len hs
  refine' ev_call (n := 1) (Rb := NoX) (binds := [("row", .ref b)]) ?ho ?hcd hr ?hb ?hl ?hk ?hc ?h (fun _ _ x => x.elim)
  case ho => k_is
  case hcd => k_is
  case hb => exact fun s => BindsTo.of_eq rfl
  case hl => exact locs rfl
  case hk => exact rfl
  case hc => decide
  case h =>
    intro c' hr' _
    dsimp only [bnd]
    refine ev_cons ?_
    refine ev_Return ?_
    refine ev_IfExp ?_
    refine ev_isCompare (h := ?_)
    refine ev_To (h := ?_)
    refine ev_Call (h := ?_)
    refine ev_glob (h := ?_)
    refine ev_cwF_0 (h := ?_)
    refine ev_spl (h := ?_)
    refine ev_local (h := ?_)
    refine ev_spl0 ?_
    refine c_shape_of (by walk_at "zroom") hv0 hs fun _ => ?_
    refine ev_int (h := fun _ => ?_)
    refine ⟨_, _, _, _, rfl, rfl, by rw [Row.letters_len]; omega, fun t' => ?_⟩
    rw [slice_letters r h5]
    refine ev_str (h := fun _ => ?_)
    refine ev_eqS ?_
    refine ev_truthyB ?_
    rw [d_first]
    cases hp : r.sets with
    | none =>
      refine ite_isF rfl ?_
      refine ev_none ?_
      refine then_ret ?_
      exact h _ (by rw [hp])
    | some n =>
      obtain ⟨q, hq⟩ : ∃ q, r.parts = .d n :: q := by
        unfold Row.sets at hp
        split at hp
        · cases hp; exact ⟨_, by assumption⟩
        · cases hp
      rw [hq] at ha
      cases ha with
      | cons x xs =>
        refine ite_isT rfl ?_
        refine ev_Sub ?_
        refine ev_local (h := ?_)
        refine ev_int (h := fun _ => ?_)
        refine ev_itemTN (h := ?_)
        refine then_ret ?_
        exact h _ (by rw [hp]; exact x)

theorem zB_has {z TI TO i1 i2 tt : Addr} {x : Str} {t : Tok} {k : Nat} {b : Led} (hb : zB z TI TO i1 i2 tt x t k b) : ∀ a, zOwn z TI TO i1 i2 a → ∃ p ∈ b, p.1 = a := by
  with_reducible refine hide_goal fun _ toG => ?_
  obtain ⟨oT, o1, o2, p, q, rfl, _⟩ := hb
  refine toG ?_
  rintro a (rfl | rfl | rfl | rfl | rfl)
  · exact ⟨_, .head _, rfl⟩
  · exact ⟨_, .tail _ (.head _), rfl⟩
  · exact ⟨_, .tail _ (.tail _ (.head _)), rfl⟩
  · exact ⟨_, .tail _ (.tail _ (.tail _ (.head _))), rfl⟩
  · exact ⟨_, .tail _ (.tail _ (.tail _ (.tail _ (.head _)))), rfl⟩
theorem c_goals_of {c : Cx} {m : Loc} {ν : Led} {P : Value → Loc → Led → Prop} {R : RX} {r : Row} {v : Value} (hr : Room c 2) (hv : RowV ν r v) (hs : Shaped r) (h : ∀ D o vs, Above D ν → LstO o vs → AllV IntV r.goals vs → P (.ref D) m ((D, o) :: ν)) : EV c m ν (call (.ref 115) [v]) P R := by
  have hv0 := hv
  with_reducible refine hide_goal fun _ toG => ?_
  obtain ⟨b, o, tn, vs, rfl, hm, ho, ha⟩ := hv
  refine toG ?_
  have hn := ha.length
  have h5 := shaped_len hs
  refine ev_post ?_
  refine' ev_call (n := 1) (Rb := NoX) (binds := [("row", .ref b)]) ?ho ?hcd hr ?hb ?hl ?hk ?hc ?h (fun _ _ x => x.elim)
  case ho => k_is
  case hcd => k_is
  case hb => exact fun s => BindsTo.of_eq rfl
  case hl => exact locs rfl
  case hk => exact rfl
  case hc => decide
  case h =>
    intro c' hr' _
    dsimp only [bnd]
    refine ev_cons ?_
    refine ev_Return ?_
    refine' ev_ListComp (cl := []) (Rb := NoX) ?_ outCompNoX ?h1 ?h2 ?h3 ?h4 ?h5
    case h1 => with_unfolding_all rfl
    case h2 => decide
    case h3 => rfl
    case h4 => decide
    case h5 => exact fun _ => rfl
    refine ev_Call (h := ?_)
    refine ev_bltn (h := ?_)
    refine ev_cwT_0 (h := ?_)
    refine ev_spl (h := ?_)
    refine ev_Call (h := ?_)
    refine ev_glob (h := ?_)
    refine ev_cwF_0 (h := ?_)
    refine ev_spl (h := ?_)
    refine ev_local (h := ?_)
    refine ev_spl0 ?_
    refine c_shape_of (by walk_at "zroom") hv0 hs fun _ => ?_
    refine ev_spl (h := ?_)
    refine ev_FromA (h := ?_)
    refine ev_local (h := ?_)
    refine ev_int (h := fun _ => ?_)
    refine ⟨b, o, _, 1, _, rfl, rfl, hm, ho, by decide, by simp only [List.length_cons]; omega, by simp only [List.length_cons]; omega, fun D hD => ?_⟩
    refine ev_spl0 ?_
    refine ev_zip (vs := vs) (letters_ascii r) (.head _) ⟨0, rfl⟩ fun z TI TO i1 i2 zb Z hzb hup => ?_
    have hT : TupO (tupO (List.drop 1 (Value.str r.name tn :: vs))) vs := ⟨0, rfl⟩
    have hsz : r.letters.cps.size = vs.length := (Row.letters_len r).trans hn.symm
    refine zself Z hT hsz hzb (by walk_at "zbase") ?_
    refine ev_compK (yldZ Z hT hsz) (by rw [hn]; exact Nat.le_trans h5 (by decide)) (fun k acc ν₁ => ν₁ = (D, tupO (List.drop 1 (Value.str r.name tn :: vs))) :: ν ∧ AllV IntV ((r.parts.take k).flatMap goalsP) acc) (ν₀ := (D, tupO (List.drop 1 (Value.str r.name tn :: vs))) :: ν) hzb (fun p hp ho => Nat.lt_irrefl _ (hup _ ho p hp)) (.head _) ⟨rfl, .nil⟩ (fun _ h => h) (zB_has hzb) (fun k b hb => zB_own hb) (fun L q h => .tail _ h) ?_ ?_
    · intro k acc ν₁ v δ b' C oC mC D' oD hk hal zp1 hne hsr hit hδ hB hNs hoD hab hDC hbCD hneC K1 N1 hK1 hN1
      with_reducible refine hide_goal fun _ toG => ?_
      obtain ⟨rfl, hacc⟩ := zp1
      obtain ⟨T, p, y, w, hp, hpv, rfl, rfl⟩ := zrow_item rfl hit ha
      refine toG ?_
      rcases p with n | n | li | n | x
      focus
        refine ev_assignT2 (h := ?_)
        refine ev_storeC (hν := fun _ h => h) (h := fun _ _ => ?_)
        refine ev_storeC (hν := fun _ h => h) (h := fun _ _ => ?_)
        refine ev_tests1 ?_
        refine ev_isCompare (h := ?_)
        refine ev_localC (h := ?_)
        refine ev_str (h := fun _ => ?_)
        refine ev_eqS ?_
        refine ev_truthyB ?_
        refine ite_isF rfl ?_
      rotate_left
      focus
        refine ev_assignT2 (h := ?_)
        refine ev_storeC (hν := fun _ h => h) (h := fun _ _ => ?_)
        refine ev_storeC (hν := fun _ h => h) (h := fun _ _ => ?_)
        refine ev_tests1 ?_
        refine ev_isCompare (h := ?_)
        refine ev_localC (h := ?_)
        refine ev_str (h := fun _ => ?_)
        refine ev_eqS ?_
        refine ev_truthyB ?_
        refine ite_isF rfl ?_
      rotate_left
      focus
        refine ev_assignT2 (h := ?_)
        refine ev_storeC (hν := fun _ h => h) (h := fun _ _ => ?_)
        refine ev_storeC (hν := fun _ h => h) (h := fun _ _ => ?_)
        refine ev_tests1 ?_
        refine ev_isCompare (h := ?_)
        refine ev_localC (h := ?_)
        refine ev_str (h := fun _ => ?_)
        refine ev_eqS ?_
        refine ev_truthyB ?_
        refine ite_isF rfl ?_
      rotate_left
      focus
        refine ev_assignT2 (h := ?_)
        refine ev_storeC (hν := fun _ h => h) (h := fun _ _ => ?_)
        refine ev_storeC (hν := fun _ h => h) (h := fun _ _ => ?_)
        refine ev_tests1 ?_
        refine ev_isCompare (h := ?_)
        refine ev_localC (h := ?_)
        refine ev_str (h := fun _ => ?_)
        refine ev_eqS ?_
        refine ev_truthyB ?_
        refine ite_isT rfl ?_
        refine ev_localC (h := ?_)
      rotate_left
      focus
        refine ev_assignT2 (h := ?_)
        refine ev_storeC (hν := fun _ h => h) (h := fun _ _ => ?_)
        refine ev_storeC (hν := fun _ h => h) (h := fun _ _ => ?_)
        refine ev_tests1 ?_
        refine ev_isCompare (h := ?_)
        refine ev_localC (h := ?_)
        refine ev_str (h := fun _ => ?_)
        refine ev_eqS ?_
        refine ev_truthyB ?_
        refine ite_isF rfl ?_
      rotate_left
      all_goals ((first | refine' hK1 ?sub ?ns hne (.head _) ⟨rfl, ?_⟩ | refine' hN1 ?sub ?ns hne (.head _) ⟨rfl, ?_⟩); (case sub => walk_at "zsub"); (case ns => assumption); rw [take_next _ hp])
      · show AllV IntV (_ ++ []) _; rw [List.append_nil]; exact hacc
      · show AllV IntV (_ ++ []) _; rw [List.append_nil]; exact hacc
      · show AllV IntV (_ ++ []) _; rw [List.append_nil]; exact hacc
      · exact hacc.snoc hpv
      · show AllV IntV (_ ++ []) _; rw [List.append_nil]; exact hacc
    · rintro D' oD acc ν₁ _ ⟨rfl, hacc⟩ hoD hab hne hsr
      rw [hn, List.take_length] at hacc
      refine then_ret ?_
      exact ⟨_, by walk_at "zsub", h D' oD acc hab.tail hoD hacc⟩

def fol (r : Row) (k : Nat) : List Int := (if isEnd r.name then [] else [(k : Int) + 1]) ++ r.goals
theorem goals_len {r : Row} (hs : Shaped r) : r.goals.length ≤ 5 := by
  have : ∀ l : List Part, (l.flatMap goalsP).length ≤ l.length := by
    intro l
    induction l with
    | nil => exact Nat.le_refl _
    | cons p l ih => cases p <;> simp only [List.flatMap_cons, goalsP, List.length_append, List.length_cons, List.length_nil] <;> omega
  exact Nat.le_trans (this _) (shaped_len hs)
theorem c_followers {c : Cx} {m : Loc} {ν : Led} {P : Value → Loc → Led → Prop} {R : RX} {rs : List Row} {r : Row} {vs : List Value} {t : Addr} {o : Obj} {k : Nat} {u : Tok} (hr : Room c 3) (hm : (t, o) ∈ ν) (ho : TupO o vs) (hv : RowsV ν rs vs) (hk : rs[k]? = some r) (hk1 : k < 1000) (hs : Shaped r)
    (h : ∀ D o vs, Above D ν → LstO o vs → AllV IntV (fol r k) vs → P (.ref D) m ((D, o) :: ν)) : EV c m ν (call (.ref 127) [.ref t, .int k u]) P R := by
  with_reducible refine hide_goal fun _ toG => ?_
  obtain ⟨v, hkv, hrv⟩ := hv.get hk
  have hrv0 := hrv
  obtain ⟨b, ob, tn, ps, rfl, hmb, hob, ha⟩ := hrv
  refine toG ?_
  refine ev_post ?_
  refine' ev_call (n := 2) (Rb := NoX) (binds := [("rows", .ref t), ("at", .int k u)]) ?ho ?hcd hr ?hb ?hl ?hk ?hc ?h (fun _ _ x => x.elim)
  case ho => k_is
  case hcd => k_is
  case hb => exact fun s => BindsTo.of_eq rfl
  case hl => exact locs rfl
  case hk => exact rfl
  case hc => decide
  case h =>
    intro c' hr' _
    dsimp only [bnd]
    refine ev_cons ?_
    refine ev_Assign (h := ?_)
    refine ev_IfExp ?_
    refine ev_isCompare (h := ?_)
    refine ev_Sub ?_
    refine ev_Sub ?_
    refine ev_local (h := ?_)
    refine ev_local (h := ?_)
    refine ev_itemTK (h := ?_)
    refine ev_int (h := fun _ => ?_)
    refine ev_itemTN (h := ?_)
    refine ev_glob (h := ?_)
    refine ev_ends ?_
    refine ev_truthyB ?_
    have gl := goals_len hs
    refine ite_B (fun hb => ?_) (fun hb => ?_)
    · refine ev_List ?_
      refine ev_spl0 ?_
      refine ev_newList (fun l hl => ?_) (by decide)
      refine ev_store (h := ?_)
      refine then_next ?_
      refine ev_cons ?_
      refine ev_Return ?_
      refine ev_BinOp ?_
      refine ev_local (h := ?_)
      refine ev_Call (h := ?_)
      refine ev_glob (h := ?_)
      refine ev_cwF_0 (h := ?_)
      refine ev_spl (h := ?_)
      refine ev_Sub ?_
      refine ev_local (h := ?_)
      refine ev_local (h := ?_)
      refine ev_itemTK (h := ?_)
      refine ev_spl0 ?_
      refine c_goals_of (by walk_at "zroom") (hrv0.mono (KeepT.refl.cons _)) hs fun l2 o2 acc hl2 ho2 ha2 => ?_
      refine ev_addL (a := l) (b := l2) (.tail _ (.head _)) lstO_mk (.head _) ho2 (by rw [ha2.length]; exact Nat.le_trans (Nat.add_le_add_left gl _) (by decide)) fun D o3 hD ho3 => ?_
      refine then_ret ?_
      exact ⟨_, by walk_at "zsub", h D o3 _ hD.tail.tail ho3 (by unfold fol; rw [hb]; exact ha2)⟩
    · refine ev_List ?_
      refine ev_spl (h := ?_)
      refine ev_BinOp ?_
      refine ev_local (h := ?_)
      refine ev_int (h := fun _ => ?_)
      refine ev_add (h := fun _ => ?_)
      refine ev_spl0 ?_
      refine ev_newList (fun l hl => ?_) (by simp [sizeLine])
      refine ev_store (h := ?_)
      refine then_next ?_
      refine ev_cons ?_
      refine ev_Return ?_
      refine ev_BinOp ?_
      refine ev_local (h := ?_)
      refine ev_Call (h := ?_)
      refine ev_glob (h := ?_)
      refine ev_cwF_0 (h := ?_)
      refine ev_spl (h := ?_)
      refine ev_Sub ?_
      refine ev_local (h := ?_)
      refine ev_local (h := ?_)
      refine ev_itemTK (h := ?_)
      refine ev_spl0 ?_
      refine c_goals_of (by walk_at "zroom") (hrv0.mono (KeepT.refl.cons _)) hs fun l2 o2 acc hl2 ho2 ha2 => ?_
      refine ev_addL (a := l) (b := l2) (.tail _ (.head _)) lstO_mk (.head _) ho2 (by rw [ha2.length]; exact Nat.le_trans (Nat.add_le_add_left gl _) (by simp [sizeLine])) fun D o3 hD ho3 => ?_
      refine then_ret ?_
      exact ⟨_, by walk_at "zsub", h D o3 _ hD.tail.tail ho3 (by unfold fol; rw [hb]; exact .cons ⟨_, rfl⟩ ha2)⟩
theorem c_depth_behind {c : Cx} {m : Loc} {ν : Led} {P : Value → Loc → Led → Prop} {R : RX} {r : Row} {v : Value} {d e : Int} {u : Tok} (hr : Room c 1) (hv : RowV ν r v) (he : (r.name = "enter" ∧ e = d + 1) ∨ (r.name ≠ "enter" ∧ r.name ≠ "leave" ∧ e = d) ∨ (r.name = "leave" ∧ ∃ n, r.parts = [.x (.one (.int n))] ∧ 1 ≤ n ∧ n ≤ d ∧ e = d - n))
    (h : ∀ t, P (.int e t) m ν) : EV c m ν (call (.ref 151) [v, .int d u]) P R := by
  with_reducible refine hide_goal fun _ toG => ?_
  obtain ⟨b, o, tn, vs, rfl, hm, ho, ha⟩ := hv
  refine toG ?_
  refine' ev_call (n := 0) (Rb := NoX) (binds := [("row", .ref b), ("depth", .int d u)]) ?ho ?hcd hr ?hb ?hl ?hk ?hc ?h (fun _ _ x => x.elim)
  case ho => k_is
  case hcd => k_is
  case hb => exact fun s => BindsTo.of_eq rfl
  case hl => exact locs rfl
  case hk => exact rfl
  case hc => decide
  case h =>
    intro c' hr' _
    dsimp only [bnd]
    rcases he with ⟨hn, rfl⟩ | ⟨h1, h2, rfl⟩ | ⟨hn, n, hp, h1, h2, rfl⟩
    · refine ev_cons ?_
      refine ev_If ?_
      refine ev_isCompare (h := ?_)
      refine ev_Sub ?_
      refine ev_local (h := ?_)
      refine ev_int (h := fun _ => ?_)
      refine ev_itemTN (h := ?_)
      refine ev_str (h := fun _ => ?_)
      refine ev_eqS ?_
      refine ev_truthyB ?_
      refine ite_isT (by rw [hn]; rfl) ?_
      refine ev_cons ?_
      refine ev_Return ?_
      refine ev_BinOp ?_
      refine ev_local (h := ?_)
      refine ev_int (h := fun _ => ?_)
      refine ev_add (h := fun _ => ?_)
      refine then_ret ?_
      refine then_ret ?_
      exact h _
    · refine ev_cons ?_
      refine ev_If ?_
      refine ev_isCompare (h := ?_)
      refine ev_Sub ?_
      refine ev_local (h := ?_)
      refine ev_int (h := fun _ => ?_)
      refine ev_itemTN (h := ?_)
      refine ev_str (h := fun _ => ?_)
      refine ev_eqS ?_
      refine ev_truthyB ?_
      refine ite_isF (by simpa using h1) ?_
      refine ev_nil ?_
      refine then_next ?_
      refine ev_cons ?_
      refine ev_If ?_
      refine ev_isCompare (h := ?_)
      refine ev_Sub ?_
      refine ev_local (h := ?_)
      refine ev_int (h := fun _ => ?_)
      refine ev_itemTN (h := ?_)
      refine ev_str (h := fun _ => ?_)
      refine ev_neS ?_
      refine ev_truthyB ?_
      refine ite_isT (by simpa using h2) ?_
      refine ev_cons ?_
      refine ev_Return ?_
      refine ev_local (h := ?_)
      refine then_ret ?_
      refine then_ret ?_
      exact h _
    · refine ev_cons ?_
      refine ev_If ?_
      refine ev_isCompare (h := ?_)
      refine ev_Sub ?_
      refine ev_local (h := ?_)
      refine ev_int (h := fun _ => ?_)
      refine ev_itemTN (h := ?_)
      refine ev_str (h := fun _ => ?_)
      refine ev_eqS ?_
      refine ev_truthyB ?_
      refine ite_isF (by rw [hn]; rfl) ?_
      refine ev_nil ?_
      refine then_next ?_
      refine ev_cons ?_
      refine ev_If ?_
      refine ev_isCompare (h := ?_)
      refine ev_Sub ?_
      refine ev_local (h := ?_)
      refine ev_int (h := fun _ => ?_)
      refine ev_itemTN (h := ?_)
      refine ev_str (h := fun _ => ?_)
      refine ev_neS ?_
      refine ev_truthyB ?_
      refine ite_isF (by rw [hn]; rfl) ?_
      rw [hp] at ha
      cases ha with
      | cons x xs =>
        obtain ⟨t1, rfl⟩ := x
        refine ev_nil ?_
        refine then_next ?_
        refine ev_cons ?_
        refine ev_If ?_
        refine ev_isOr ?_
        refine ev_isCompare (h := ?_)
        refine ev_Sub ?_
        refine ev_local (h := ?_)
        refine ev_int (h := fun _ => ?_)
        refine ev_itemTN (h := ?_)
        refine ev_int (h := fun _ => ?_)
        refine ev_lt ?_
        refine ev_truthyB ?_
        refine ite_isF (by simpa using h1) ?_
        refine ev_isOr ?_
        refine ev_isCompare (h := ?_)
        refine ev_Sub ?_
        refine ev_local (h := ?_)
        refine ev_int (h := fun _ => ?_)
        refine ev_itemTN (h := ?_)
        refine ev_local (h := ?_)
        refine ev_gt ?_
        refine ev_truthyB ?_
        refine ite_isF (by simpa using h2) ?_
        refine ev_isOr0 ?_
        refine ite_F ?_
        refine ev_nil ?_
        refine then_next ?_
        refine ev_cons ?_
        refine ev_Return ?_
        refine ev_BinOp ?_
        refine ev_local (h := ?_)
        refine ev_Sub ?_
        refine ev_local (h := ?_)
        refine ev_int (h := fun _ => ?_)
        refine ev_itemTN (h := ?_)
        refine ev_sub' (h := fun _ => ?_)
        refine then_ret ?_
        exact h _

def turnP (F G : Int → Int) : Part → Part
  | .d n => .d (F n)
  | .s n => .s (F n)
  | .m l => .m (l.map F)
  | .g n => .g (G n)
  | .x p => .x p
def Row.turn (F G : Int → Int) (r : Row) : Row := ⟨r.name, r.parts.map (turnP F G)⟩
theorem at_ints {l : List Int} {vs : List Value} (h : AllV IntV l vs) : AllV AtV (l.map .int) vs := by
  induction l generalizing vs with
  | nil => cases h; exact .nil
  | cons n l ih =>
    cases h with
    | cons x r => exact .cons x (ih r)
theorem c_turned_row {c : Cx} {m : Loc} {ν : Led} {P : Value → Loc → Led → Prop} {R : RX} {r : Row} {v : Value} {f g : Addr} {F G : Int → Int} (hr : Room c 3) (hv : RowV ν r v) (hs : Shaped r) (hm5 : ∀ l, Part.m l ∈ r.parts → l.length ≤ 1000) (hf : Callee ν f F) (hg : Callee ν g G)
    (h : ∀ v δ, (∀ p ∈ δ, Above p.1 ν) → RowV (δ ++ ν) (r.turn F G) v → P v m (δ ++ ν)) : EV c m ν (call (.ref 120) [v, .ref f, .ref g]) P R := by
  have hv0 := hv
  with_reducible refine hide_goal fun _ toG => ?_
  obtain ⟨b, o, tn, vs, rfl, hm, ho, ha⟩ := hv
  refine toG ?_
  have hn := ha.length
  have h5 := shaped_len hs
  refine ev_post ?_
  refine' ev_callC (n := 2) (Rb := NoX) (binds := [("row", .ref b), ("register", .ref f), ("goal", .ref g)]) (m₀ := bnd noLoc [("row", .ref b), ("goal", .ref g)]) (cs := fun L => [("register", L + 1)]) (cm := bnd noLoc [("register", .ref f)]) ?ho ?hcd hr ?hb ?hkd ?hnd ?hm ?hcm ?hcs ?hck ?h (fun _ _ x => x.elim)
  case ho => k_is
  case hcd => k_is
  case hb => exact fun s => BindsTo.of_eq rfl
  case hkd => exact rfl
  case hnd => decide
  case hm => exact fun _ => rfl
  case hcm => exact fun _ => rfl
  case hcs => exact fun _ => rfl
  case hck => exact rfl
  case h =>
    intro c' cells hr' _ hY lt
    with_reducible refine hide_goal fun _ toG => ?_
    obtain ⟨oc, rfl, hoc⟩ := hY.one
    refine toG ?_
    replace hoc : oc.data = .cell (some (.ref f)) := by rw [hoc]; rfl
    have hcc : Above (c'.L + 1) ν := fun p hp => Nat.lt_succ_of_lt (lt p hp)
    with_reducible refine hide_goal fun _ toG => ?_
    obtain ⟨of, hfm, hfo⟩ := hf.fn
    obtain ⟨og, hgm, hgo⟩ := hg.fn
    refine toG ?_
    dsimp only [bnd]
    rw [List.singleton_append]
    refine ev_cons ?_
    refine ev_Assign (h := ?_)
    refine ev_List ?_
    refine ev_spl (h := ?_)
    refine ev_Sub ?_
    refine ev_local (h := ?_)
    refine ev_int (h := fun _ => ?_)
    refine ev_itemTN (h := ?_)
    refine ev_spl0 ?_
    refine ev_newList (fun l hl => ?_) (by simp [sizeLine])
    refine ev_store (h := ?_)
    refine then_next ?_
    refine ev_cons ?_
    refine ev_For ?_ outNoX (Rb := NoX) (hs := fun _ => rfl)
    refine ev_Call (h := ?_)
    refine ev_bltn (h := ?_)
    refine ev_cwT_0 (h := ?_)
    refine ev_spl (h := ?_)
    refine ev_Call (h := ?_)
    refine ev_glob (h := ?_)
    refine ev_cwF_0 (h := ?_)
    refine ev_spl (h := ?_)
    refine ev_local (h := ?_)
    refine ev_spl0 ?_
    refine c_shape_of (by walk_at "zroom") (hv0.mono (KeepT.of (by walk_at "zsub"))) hs fun _ => ?_
    refine ev_spl (h := ?_)
    refine ev_FromA (h := ?_)
    refine ev_local (h := ?_)
    refine ev_int (h := fun _ => ?_)
    refine ⟨b, o, _, 1, _, rfl, rfl, by walk_at "zmem", ho, by decide, by simp only [List.length_cons]; omega, by simp only [List.length_cons]; omega, fun D hD => ?_⟩
    refine ev_spl0 ?_
    refine ev_zip (vs := vs) (letters_ascii r) (.head _) ⟨0, rfl⟩ fun z TI TO i1 i2 zb Z hzb hup => ?_
    have hT : TupO (tupO (List.drop 1 (Value.str r.name tn :: vs))) vs := ⟨0, rfl⟩
    have hsz : r.letters.cps.size = vs.length := (Row.letters_len r).trans hn.symm
    refine zself Z hT hsz hzb (by walk_at "zbase") ?_
    have hDl : D ≠ l := gtN hD.head
    have hll : @LT.lt Nat _ (c'.L + 1) l := hl.head
    have hlz : ∀ a, zOwn z TI TO i1 i2 a → @LT.lt Nat _ D a := fun a ha' => (hup a ha').head
    refine ev_forK (yldZ Z hT hsz) (fun k m₁ ν₁ => ∃ o1 acc δ, ν₁ = (D, tupO (List.drop 1 (Value.str r.name tn :: vs))) :: (l, o1) :: (δ ++ ((c'.L + 1, oc) :: ν)) ∧ LstO o1 (.str r.name tn :: acc) ∧ AllV (PartV (δ ++ ν)) ((r.parts.take k).map (turnP F G)) acc ∧ (∀ p ∈ δ, @LT.lt Nat _ D p.1 ∧ ∀ a, zOwn z TI TO i1 i2 a → @LT.lt Nat _ a p.1) ∧ m₁ "found" = some (.ref l) ∧ m₁ "goal" = some (.ref g)) (ν₀ := (D, tupO (List.drop 1 (Value.str r.name tn :: vs))) :: (l, lstO [.str r.name tn]) :: (c'.L + 1, oc) :: ν) hzb (fun p hp ho => Nat.lt_irrefl _ (hup _ ho p hp)) (.head _) ⟨_, [], [], rfl, lstO_mk, .nil, (fun _ h => nomatch h), by walk_at "zlk", by walk_at "zlk"⟩ (fun _ h => h) ?_ ?_
    · intro k m₁ ν₁ v δ1 b' hk zp1 hcl hsr hit hδ1 hB' K1 hK1 hR1
      with_reducible refine hide_goal fun _ toG => ?_
      obtain ⟨o1, acc, δ, rfl, ho1, hacc, hδ, hmf, hmg⟩ := zp1
      obtain ⟨T, p, y, w, hp, hpv, rfl, rfl⟩ := zrow_item rfl hit ha
      refine toG ?_
      have hbl : ∀ p ∈ b', p.1 ≠ l := fun p hp => gtN (Nat.lt_trans hD.head (hlz _ (zB_own hB' p hp)))
      have hdl : ∀ p ∈ δ, p.1 ≠ l := fun p hp => gtN (Nat.lt_trans hD.head (hδ p hp).1)
      have hnl : ∀ p ∈ (c'.L + 1, oc) :: ν, p.1 ≠ l := hl.ne
      have hk5 : (Value.str r.name tn :: acc).length ≤ sizeLine := by
        rw [List.length_cons, hacc.length, List.length_map, List.length_take]
        exact Nat.le_trans (Nat.succ_le_succ (Nat.le_trans (Nat.min_le_right _ _) h5)) (by decide)
      have clean : ∀ o' δ', (∀ p ∈ δ', @LT.lt Nat _ D p.1 ∧ ∀ a, zOwn z TI TO i1 i2 a → @LT.lt Nat _ a p.1) → ∀ p ∈ (D, tupO (List.drop 1 (Value.str r.name tn :: vs))) :: (l, o') :: (δ' ++ ((c'.L + 1, oc) :: ν)), ¬ zOwn z TI TO i1 i2 p.1 := by
        intro o' δ' hδ' p hp hz
        rcases hp with _ | ⟨_, _ | ⟨_, hp⟩⟩
        · exact Nat.lt_irrefl _ (hlz _ hz)
        · exact Nat.lt_irrefl _ (Nat.lt_trans hD.head (hlz _ hz))
        · rcases List.mem_append.mp hp with hp | hp
          · exact Nat.lt_irrefl _ ((hδ' p hp).2 _ hz)
          · exact Nat.lt_irrefl _ ((hup _ hz) p (.tail _ (.tail _ hp)))
      have nextI : ∀ {P' : Part} {q : Part} {y' : Value} {δ' : Led}, r.parts[k]? = some q → P' = turnP F G q → PartV (δ' ++ ν) P' y' → (∀ p ∈ δ, p ∈ δ') → AllV (PartV (δ' ++ ν)) ((r.parts.take (k + 1)).map (turnP F G)) (acc ++ [y']) := by
        intro P' q y' δ' hq hP' hy hsub
        rw [List.take_add_one, hq, List.map_append]
        subst hP'
        exact (hacc.mono fun _ _ x => x.mono (KeepT.of (sub_app (fun p hp => List.mem_append_left _ (hsub p hp)) fun p hp => List.mem_append_right _ hp))).snoc hy
      rcases p with n | n | li | n | x
      · obtain ⟨ty, rfl⟩ := hpv
        refine ev_assignT2 (h := ?_)
        refine ev_store (h := ?_)
        refine ev_store (h := ?_)
        refine ev_cons ?_
        refine ev_If ?_
        refine ev_isCompare (h := ?_)
        refine ev_local (h := ?_)
        refine ev_str (h := fun _ => ?_)
        refine ev_inDS ?_
        refine ev_truthyB ?_
        refine ite_isT rfl ?_
        refine ev_cons ?_
        refine ev_ExprAny (h := ?_)
        refine ev_CallM (h := ?_)
        refine ev_local (h := ?_)
        refine ev_getAppend (h := ?_)
        refine ev_cwB_1 (h := ?_)
        refine ev_spl (h := ?_)
        refine ev_Call (h := ?_)
        refine ev_cell (h := ?_)
        refine ev_cwFn (h := ?_)
        refine ev_spl (h := ?_)
        refine ev_local (h := ?_)
        refine ev_spl0 ?_
        refine ⟨by walk_at "zmem", hf.call _ _ _ _ _ _ _ (by walk_at "zroom") (by walk_at "zsub") fun t2 => ?_⟩
        refine ev_spl0 ?_
        refine ev_append (ν₁ := b' ++ ((D, tupO (List.drop 1 (Value.str r.name tn :: vs))) :: (δ ++ ((c'.L + 1, oc) :: ν)))) ho1 (by walk_at "zsub") (ne_app hbl (ne_cons hDl (ne_app hdl hnl))) hk5 fun o' ho' => ?_
        refine then_next ?_
        refine ev_nil ?_
        refine then_next ?_
        refine ev_nil ?_
        exact (hK1 ⟨_, by walk_at "zsub", clean o' δ hδ, .head _, o', _, δ, rfl, ho', nextI hp rfl ⟨_, rfl⟩ (fun _ h => h), hδ, by walk_at "zlk", by walk_at "zlk"⟩).1
      · obtain ⟨ty, rfl⟩ := hpv
        refine ev_assignT2 (h := ?_)
        refine ev_store (h := ?_)
        refine ev_store (h := ?_)
        refine ev_cons ?_
        refine ev_If ?_
        refine ev_isCompare (h := ?_)
        refine ev_local (h := ?_)
        refine ev_str (h := fun _ => ?_)
        refine ev_inDS ?_
        refine ev_truthyB ?_
        refine ite_isT rfl ?_
        refine ev_cons ?_
        refine ev_ExprAny (h := ?_)
        refine ev_CallM (h := ?_)
        refine ev_local (h := ?_)
        refine ev_getAppend (h := ?_)
        refine ev_cwB_1 (h := ?_)
        refine ev_spl (h := ?_)
        refine ev_Call (h := ?_)
        refine ev_cell (h := ?_)
        refine ev_cwFn (h := ?_)
        refine ev_spl (h := ?_)
        refine ev_local (h := ?_)
        refine ev_spl0 ?_
        refine ⟨by walk_at "zmem", hf.call _ _ _ _ _ _ _ (by walk_at "zroom") (by walk_at "zsub") fun t2 => ?_⟩
        refine ev_spl0 ?_
        refine ev_append (ν₁ := b' ++ ((D, tupO (List.drop 1 (Value.str r.name tn :: vs))) :: (δ ++ ((c'.L + 1, oc) :: ν)))) ho1 (by walk_at "zsub") (ne_app hbl (ne_cons hDl (ne_app hdl hnl))) hk5 fun o' ho' => ?_
        refine then_next ?_
        refine ev_nil ?_
        refine then_next ?_
        refine ev_nil ?_
        exact (hK1 ⟨_, by walk_at "zsub", clean o' δ hδ, .head _, o', _, δ, rfl, ho', nextI hp rfl ⟨_, rfl⟩ (fun _ h => h), hδ, by walk_at "zlk", by walk_at "zlk"⟩).1
      · with_reducible refine hide_goal fun _ toG => ?_
        obtain ⟨b2, o2, vs2, rfl, hm2, ho2, hv2⟩ := hpv
        refine toG ?_
        have hi2 := ints_at hv2
        have hl2 : vs2.length ≤ 1000 := by rw [hi2.length]; exact hm5 li (List.mem_of_getElem? hp)
        refine ev_assignT2 (h := ?_)
        refine ev_store (h := ?_)
        refine ev_store (h := ?_)
        refine ev_cons ?_
        refine ev_If ?_
        refine ev_isCompare (h := ?_)
        refine ev_local (h := ?_)
        refine ev_str (h := fun _ => ?_)
        refine ev_inDS ?_
        refine ev_truthyB ?_
        refine ite_isF rfl ?_
        refine ev_cons ?_
        refine ev_If ?_
        refine ev_isCompare (h := ?_)
        refine ev_local (h := ?_)
        refine ev_str (h := fun _ => ?_)
        refine ev_eqS ?_
        refine ev_truthyB ?_
        refine ite_isT rfl ?_
        refine ev_cons ?_
        refine ev_ExprAny (h := ?_)
        refine ev_CallM (h := ?_)
        refine ev_local (h := ?_)
        refine ev_getAppend (h := ?_)
        refine ev_cwB_1 (h := ?_)
        refine ev_spl (h := ?_)
        refine ev_Call (h := ?_)
        refine ev_bltn (h := ?_)
        refine ev_cwT_0 (h := ?_)
        refine ev_spl (h := ?_)
        refine' ev_ListComp (cl := [("register", c'.L + 1)]) (Rb := NoX) ?_ outCompNoX ?h1 ?h2 ?h3 ?h4 ?h5
        case h1 => with_unfolding_all rfl
        case h2 => decide
        case h3 => rfl
        case h4 => decide
        case h5 => exact fun _ => rfl
        refine ev_local (h := ?_)
        refine ev_iterT (l := b2) (by walk_at "zmem") ho2 fun it oi hit2 hoi => ?_
        refine ev_compK (yldT ho2) (Nat.le_trans hl2 (by decide)) (fun k acc2 ν₂ => ν₂ = b' ++ ([(T, tupO [Value.str ⟨#[(Part.m li).letter]⟩ w, Value.ref b2])] ++ ((D, tupO (List.drop 1 (Value.str r.name tn :: vs))) :: (l, o1) :: (δ ++ ((c'.L + 1, oc) :: ν)))) ∧ AllV IntV ((li.take k).map F) acc2) ⟨oi, rfl, hoi⟩ (fun p hp => ltN' (hit2 p hp)) (by walk_at "zmem") ⟨rfl, .nil⟩ (fun _ h => h) (fun a ha => ⟨_, .head _, ha.symm⟩) (fun k b hb p hp => by obtain ⟨oi', rfl, _⟩ := hb; cases hp with | head => rfl | tail _ h => cases h) (fun L q h => .tail _ h) ?_ ?_
        · intro k2 acc2 ν₂ v2 δ2 b3 C oC mC D2 oD2 hk2 hal2 zp2 hne2 hsr2 zp3 hδ2 hB2 hNs hoD2 hab2 hDC hbCD hneC K2 N2 hK2 hN2
          with_reducible refine hide_goal fun _ toG => ?_
          obtain ⟨rfl, hacc2⟩ := zp2
          obtain ⟨hx2, rfl⟩ := zp3
          obtain ⟨n2, hn2, t2, rfl⟩ := hi2.at hx2
          refine toG ?_
          refine ev_assignName ?_
          refine ev_storeC (hν := fun _ h => h) (h := fun _ _ => ?_)
          refine ev_tests0 ?_
          refine ite_T ?_
          refine ev_Call (h := ?_)
          refine ev_cell (h := ?_)
          refine ev_cwFn (h := ?_)
          refine ev_spl (h := ?_)
          refine ev_localC (h := ?_)
          refine ev_spl0 ?_
          refine ⟨by walk_at "zmem", hf.call _ _ _ _ _ _ _ (by walk_at "zroom") (by walk_at "zsub") fun t3 => ?_⟩
          refine' hK2 ?sub ?ns hne2 hsr2 ⟨rfl, ?_⟩
          case sub => walk_at "zsub"
          case ns => assumption
          rw [List.take_add_one, hn2, List.map_append]
          exact hacc2.snoc ⟨_, rfl⟩
        · rintro D2 oD2 acc2 ν₂ _ ⟨rfl, hacc2⟩ hoD2 hab2 hne2 hsr2
          rw [hi2.length, List.take_length] at hacc2
          refine ev_spl0 ?_
          refine ev_tupleOfL (.head _) hoD2 (by rw [hacc2.length, List.length_map, ← hi2.length]; exact Nat.le_trans hl2 (by decide)) fun T2 hT2 => ?_
          refine ev_spl0 ?_
          have hab3 : ∀ q ∈ b' ++ ([(T, tupO [Value.str ⟨#[(Part.m li).letter]⟩ w, Value.ref b2])] ++ ((D, tupO (List.drop 1 (Value.str r.name tn :: vs))) :: (l, o1) :: (δ ++ ((c'.L + 1, oc) :: ν)))), @LT.lt Nat _ q.1 T2 := fun q hq => hT2 q (.tail _ hq)
          have hT2l : T2 ≠ l := gtN (hab3 _ (by walk_at "zmem" : (l, o1) ∈ _))
          have hδ' : ∀ p ∈ (T2, tupO acc2) :: δ, @LT.lt Nat _ D p.1 ∧ ∀ a, zOwn z TI TO i1 i2 a → @LT.lt Nat _ a p.1 := by
            intro p hp
            rcases List.mem_cons.mp hp with rfl | hp
            · refine ⟨hab3 _ (by walk_at "zmem" : (D, tupO (List.drop 1 (Value.str r.name tn :: vs))) ∈ _), fun a ha2 => ?_⟩
              with_reducible refine hide_goal fun _ toG => ?_
              obtain ⟨q, hq, rfl⟩ := zB_has hB' a ha2
              refine toG ?_
              exact hab3 q (List.mem_append_left _ hq)
            · exact hδ p hp
          refine ev_append (ν₁ := b' ++ ((D, tupO (List.drop 1 (Value.str r.name tn :: vs))) :: ((T2, tupO acc2) :: δ ++ ((c'.L + 1, oc) :: ν)))) ho1 (by walk_at "zsub") (ne_app hbl (ne_cons hDl (ne_app (ne_cons hT2l hdl) hnl))) hk5 fun o' ho' => ?_
          refine then_next ?_
          refine ev_nil ?_
          refine then_next ?_
          refine ev_nil ?_
          refine then_next ?_
          refine ev_nil ?_
          exact (hK1 ⟨_, by walk_at "zsub", clean o' _ hδ', .head _, o', _, (T2, tupO acc2) :: δ, rfl, ho', nextI hp rfl ⟨T2, _, acc2, rfl, .head _, tupO_mk, at_ints hacc2⟩ (fun _ h => .tail _ h), hδ', by walk_at "zlk", by walk_at "zlk"⟩).1
      · obtain ⟨ty, rfl⟩ := hpv
        refine ev_assignT2 (h := ?_)
        refine ev_store (h := ?_)
        refine ev_store (h := ?_)
        refine ev_cons ?_
        refine ev_If ?_
        refine ev_isCompare (h := ?_)
        refine ev_local (h := ?_)
        refine ev_str (h := fun _ => ?_)
        refine ev_inDS ?_
        refine ev_truthyB ?_
        refine ite_isF rfl ?_
        refine ev_cons ?_
        refine ev_If ?_
        refine ev_isCompare (h := ?_)
        refine ev_local (h := ?_)
        refine ev_str (h := fun _ => ?_)
        refine ev_eqS ?_
        refine ev_truthyB ?_
        refine ite_isF rfl ?_
        refine ev_cons ?_
        refine ev_ExprAny (h := ?_)
        refine ev_CallM (h := ?_)
        refine ev_local (h := ?_)
        refine ev_getAppend (h := ?_)
        refine ev_cwB_1 (h := ?_)
        refine ev_spl (h := ?_)
        refine ev_IfExp ?_
        refine ev_isCompare (h := ?_)
        refine ev_local (h := ?_)
        refine ev_str (h := fun _ => ?_)
        refine ev_eqS ?_
        refine ev_truthyB ?_
        refine ite_isT rfl ?_
        refine ev_Call (h := ?_)
        refine ev_local (h := ?_)
        refine ev_cwFn (h := ?_)
        refine ev_spl (h := ?_)
        refine ev_local (h := ?_)
        refine ev_spl0 ?_
        refine ⟨by walk_at "zmem", hg.call _ _ _ _ _ _ _ (by walk_at "zroom") (by walk_at "zsub") fun t2 => ?_⟩
        refine ev_spl0 ?_
        refine ev_append (ν₁ := b' ++ ((D, tupO (List.drop 1 (Value.str r.name tn :: vs))) :: (δ ++ ((c'.L + 1, oc) :: ν)))) ho1 (by walk_at "zsub") (ne_app hbl (ne_cons hDl (ne_app hdl hnl))) hk5 fun o' ho' => ?_
        refine then_next ?_
        refine ev_nil ?_
        refine then_next ?_
        refine ev_nil ?_
        refine then_next ?_
        refine ev_nil ?_
        exact (hK1 ⟨_, by walk_at "zsub", clean o' δ hδ, .head _, o', _, δ, rfl, ho', nextI hp rfl ⟨_, rfl⟩ (fun _ h => h), hδ, by walk_at "zlk", by walk_at "zlk"⟩).1
      · refine ev_assignT2 (h := ?_)
        refine ev_store (h := ?_)
        refine ev_store (h := ?_)
        refine ev_cons ?_
        refine ev_If ?_
        refine ev_isCompare (h := ?_)
        refine ev_local (h := ?_)
        refine ev_str (h := fun _ => ?_)
        refine ev_inDS ?_
        refine ev_truthyB ?_
        refine ite_isF rfl ?_
        refine ev_cons ?_
        refine ev_If ?_
        refine ev_isCompare (h := ?_)
        refine ev_local (h := ?_)
        refine ev_str (h := fun _ => ?_)
        refine ev_eqS ?_
        refine ev_truthyB ?_
        refine ite_isF rfl ?_
        refine ev_cons ?_
        refine ev_ExprAny (h := ?_)
        refine ev_CallM (h := ?_)
        refine ev_local (h := ?_)
        refine ev_getAppend (h := ?_)
        refine ev_cwB_1 (h := ?_)
        refine ev_spl (h := ?_)
        refine ev_IfExp ?_
        refine ev_isCompare (h := ?_)
        refine ev_local (h := ?_)
        refine ev_str (h := fun _ => ?_)
        refine ev_eqS ?_
        refine ev_truthyB ?_
        refine ite_isF rfl ?_
        refine ev_local (h := ?_)
        refine ev_spl0 ?_
        refine ev_append (ν₁ := b' ++ ((D, tupO (List.drop 1 (Value.str r.name tn :: vs))) :: (δ ++ ((c'.L + 1, oc) :: ν)))) ho1 (by walk_at "zsub") (ne_app hbl (ne_cons hDl (ne_app hdl hnl))) hk5 fun o' ho' => ?_
        refine then_next ?_
        refine ev_nil ?_
        refine then_next ?_
        refine ev_nil ?_
        refine then_next ?_
        refine ev_nil ?_
        exact (hK1 ⟨_, by walk_at "zsub", clean o' δ hδ, .head _, o', _, δ, rfl, ho', nextI hp rfl (PartV.mono (KeepT.refl.app δ) hpv) (fun _ h => h), hδ, by walk_at "zlk", by walk_at "zlk"⟩).1
    · rintro m₁ ν₁ ⟨o1, acc, δ, rfl, ho1, hacc, hδ, hmf, hmg⟩ _ _
      rw [hn, List.take_length] at hacc
      refine then_next ?_
      refine ev_cons ?_
      refine ev_Return ?_
      refine ev_Call (h := ?_)
      refine ev_bltn (h := ?_)
      refine ev_cwT_0 (h := ?_)
      refine ev_spl (h := ?_)
      refine ev_local (h := ?_)
      refine ev_spl0 ?_
      refine ev_tupleOfL (by walk_at "zmem") ho1 (by rw [List.length_cons, hacc.length, List.length_map]; exact Nat.le_trans (Nat.succ_le_succ h5) (by decide)) fun T3 hT3 => ?_
      refine then_ret ?_
      refine ⟨_, ?_, h (.ref T3) ((T3, tupO (.str r.name tn :: acc)) :: δ) (fun p hp => ?_) ⟨T3, _, tn, acc, rfl, .head _, tupO_mk, ?_⟩⟩
      · walk_at "zsub"
      · rcases List.mem_cons.mp hp with rfl | hp
        · exact fun q hq => hT3 q (by walk_at "zmem")
        · exact fun q hq => Nat.lt_trans (hD.tail.tail q hq) (hδ p hp).1
      · exact hacc.mono fun _ _ x => x.mono (KeepT.refl.cons _)

structure CodeD (es : List DictEntry) (nm : Str) (ar sl : Int) (rt st cp mk : Addr) : Prop where
  name : ∃ t, getL "name" es = some (some (.str nm t))
  arity : ∃ t, getL "arity" es = some (some (.int ar t))
  slots : ∃ t, getL "slots" es = some (some (.int sl t))
  rows : getL "rows" es = some (some (.ref rt))
  static : getL "static" es = some (some (.ref st))
  captures : getL "captures" es = some (some (.ref cp))
  marks : getL "marks" es = some (some (.ref mk))
  meth : getL "with_rows" es = some none
/-- a Code's object -/
def CodeAt (ν : Led) (x : Addr) (nm : Str) (ar sl : Int) (rt st cp mk : Addr) : Prop := ∃ dx es n, (x, instObj 85 dx) ∈ ν ∧ (dx, dictOf es n) ∈ ν ∧ CodeD es nm ar sl rt st cp mk
theorem CodeAt.mono {ν ν' : Led} {x rt st cp mk : Addr} {nm : Str} {ar sl : Int} (h : CodeAt ν x nm ar sl rt st cp mk) (hs : ∀ p ∈ ν, p ∈ ν') : CodeAt ν' x nm ar sl rt st cp mk := by
  with_reducible refine hide_goal fun _ toG => ?_
  obtain ⟨dx, es, n, a, b, d⟩ := h
  refine toG ?_
  exact ⟨dx, es, n, hs _ a, hs _ b, d⟩

theorem filter_lt {α : Type} (p q : α → Bool) (a : α) (hq : ∀ x, q x = true → p x = true) (h1 : p a = true) (h2 : q a = false) : ∀ l : List α, a ∈ l → (l.filter q).length < (l.filter p).length := by
  have le : ∀ l : List α, (l.filter q).length ≤ (l.filter p).length := by
    intro l
    induction l with
    | nil => exact Nat.le_refl _
    | cons x l ih =>
      cases hx : q x with
      | true => simp [List.filter_cons, hx, hq x hx, ih]
      | false =>
        cases hp : p x with
        | true => simp [List.filter_cons, hx, hp]; omega
        | false => simp [List.filter_cons, hx, hp, ih]
  intro l
  induction l with
  | nil => intro h; cases h
  | cons x l ih =>
    intro h
    rcases List.mem_cons.mp h with rfl | h
    · simp [List.filter_cons, h1, h2]; exact Nat.lt_succ_of_le (le l)
    · have := ih h
      cases hx : q x with
      | true => simp [List.filter_cons, hx, hq x hx, this]
      | false =>
        cases hp : p x with
        | true => simp [List.filter_cons, hx, hp]; omega
        | false => simp [List.filter_cons, hx, hp, this]
theorem valueAt_new {kvs : List (Int × Value)} {k : Int} {v : Value} (h : valueAt kvs k = none) : stored kvs k v = kvs ++ [(k, v)] ∧ ∀ x, valueAt (kvs ++ [(k, v)]) x = if x = k then some v else valueAt kvs x := by
  have hn : ∀ p ∈ kvs, p.1 ≠ k := by
    intro p hp e
    unfold valueAt at h
    rw [Option.map_eq_none_iff, List.find?_eq_none] at h
    exact h p hp (by simpa using e)
  refine ⟨?_, fun x => ?_⟩
  · unfold stored
    rw [if_neg]
    simp only [List.any_eq_true, decide_eq_true_eq, not_exists, not_and]
    exact fun p hp => hn p hp
  · unfold valueAt
    rw [List.find?_append]
    by_cases hx : x = k
    · subst hx
      have : kvs.find? (fun kv => decide (kv.1 = x)) = none := by
        rw [List.find?_eq_none]; intro p hp; simpa using hn p hp
      rw [this]; simp
    · have : ¬ k = x := fun e => hx e.symm
      cases hf : kvs.find? (fun kv => decide (kv.1 = x)) with
      | none => simp [hx, this]
      | some p => simp [hx]
def unv (N : Nat) (kvs : List (Int × Value)) : Nat := ((List.range N).filter fun n : Nat => (valueAt kvs (n : Int)).isNone).length
theorem unv_lt {N a : Nat} {kvs : List (Int × Value)} {v : Value} (ha : a < N) (h : valueAt kvs a = none) : unv N (kvs ++ [((a : Int), v)]) < unv N kvs := by
  refine filter_lt _ _ a (fun x hx => ?_) (by rw [h]; rfl) (by rw [(valueAt_new h).2]; simp) _ (List.mem_range.mpr ha)
  rw [(valueAt_new h).2] at hx
  by_cases e : (x : Int) = a
  · rw [if_pos e] at hx; cases hx
  · rw [if_neg e] at hx; exact hx
theorem fol_len {r : Row} {k : Nat} (hs : Shaped r) : (fol r k).length ≤ 6 := by
  have := goals_len hs
  unfold fol
  rw [List.length_append]
  cases isEnd r.name with
  | true => exact Nat.le_trans (Nat.add_le_add (Nat.le_refl 0) this) (by decide)
  | false => exact Nat.le_trans (Nat.add_le_add (Nat.le_refl 1) this) (by decide)

theorem c_fault {c : Cx} {m : Loc} {ν : Led} {P : Value → Loc → Led → Prop} {R : RX} {v : Value} (hr : Room c 3) (h : ∀ e t d δ, (∀ p ∈ δ, Above p.1 ν) → (e, excD t d) ∈ δ → P (.ref e) m (δ ++ ν)) : EV c m ν (call (.ref 52) [v]) P R := by
  refine' ev_makeFlt (n := 1) (binds := fun x => [("self", .ref x), ("message", v), ("spot", .none)]) ?ho ?hcd hr (by simp [sizeLine]) ?hb ?hl ?hk ?hc ?h
  case ho => k_is
  case hcd => k_is
  case hb =>
    intro x s st'
    refine' binds_K (c.X.keeps st') ?hd ?ho2 ?hs ?e1 ?e2
    case hd => exact rfl
    case ho2 => k_is
    case hs => exact rfl
    case e1 => exact rfl
    case e2 => exact rfl
  case hl => exact fun x => locs rfl
  case hk => exact rfl
  case hc => decide
  case h =>
    intro x t c' ht hlt hr' _
    dsimp only [bnd]
    refine ev_cons ?_
    refine ev_ExprAny (h := ?_)
    refine ev_CallM (h := ?_)
    refine ev_bltn (h := ?_)
    refine ev_getExcInit ?_
    refine ev_cwB_0 (h := ?_)
    refine ev_spl (h := ?_)
    refine ev_local (h := ?_)
    refine ev_spl (h := ?_)
    refine ev_local (h := ?_)
    refine ev_spl0 ?_
    have hxn : ∀ p ∈ (t, tupO [v]) :: ν, p.1 ≠ x := ne_cons (ltN' hlt) (fun p hp => ltN' (Nat.lt_trans (ht p hp) hlt))
    refine ev_excInit (fun _ h => h) hxn fun t2 ht2 => ?_
    refine then_next ?_
    refine ev_cons ?_
    refine ev_AssignAttr (h := ?_)
    refine ev_local (h := ?_)
    refine ev_local (h := ?_)
    have ht2x : t2 ≠ x := gtN (ht2 _ (.head _))
    refine ev_fltSet0 (t := t2) (ν₁ := (t2, tupO [v]) :: (t, tupO [v]) :: ν) (by walk_at "zsub") (ne_cons ht2x hxn) (by k_is) (by k_is) fun tk d hd => ?_
    refine then_next ?_
    refine ev_cons ?_
    refine ev_AssignAttr (h := ?_)
    refine ev_local (h := ?_)
    refine ev_local (h := ?_)
    refine ev_fltSet1 (ν₁ := (x, excD t2 d) :: (t2, tupO [v]) :: (t, tupO [v]) :: ν) (.head _) (fun _ h => h) (ne_cons (ltN' (hd (x, excO t2) (.head _))) (fun p hp => ltN' (hd p (.tail _ hp)))) (by k_is) (by k_is) rfl (Nat.le_of_ble_eq_true rfl) fun tk => ?_
    refine then_next ?_
    refine ev_nil ?_
    refine ⟨rfl, h x t2 d [(d, _), (x, excD t2 d), (t2, tupO [v]), (t, tupO [v])] (fun p hp => ?_) (.tail _ (.head _))⟩
    rcases hp with _ | ⟨_, _ | ⟨_, _ | ⟨_, _ | ⟨_, hp⟩⟩⟩⟩
    · exact fun q hq => hd q (.tail _ (.tail _ (.tail _ hq)))
    · exact fun q hq => Nat.lt_trans (ht q hq) hlt
    · exact fun q hq => ht2 q (.tail _ (.tail _ hq))
    · exact ht
    · cases hp

/-- a row that has another number of parts than its name tells, or a name that no row has -/
def Odd (r : Row) : Prop := (r.parts.length ≤ 10 ∧ r.name.length ≤ 100) ∧ ∀ y, shapesL.lookup r.name = some y → y.length ≠ r.parts.length
theorem shapes_few {k y : Str} (h : shapesL.lookup k = some y) : y.length ≤ 5 := by
  have : ∀ D : List (Str × Str), (∀ p ∈ D, p.2.length ≤ 5) → D.lookup k = some y → y.length ≤ 5 := by
    intro D
    induction D with
    | nil => intro _ h; cases h
    | cons p D ih =>
      obtain ⟨x, z⟩ := p
      intro hD hl
      rw [List.lookup_cons] at hl
      cases hb : k == x with
      | true => rw [hb] at hl; cases hl; exact hD _ (.head _)
      | false => rw [hb] at hl; exact ih (fun p hp => hD p (.tail _ hp)) hl
  exact this shapesL (by decide) h
def kFlt (ν : Led) : Value → Loc → Led → Prop := fun v _ ν' => ∃ x t, v = .str x t ∧ ∀ p ∈ ν, p ∈ ν'
theorem ev_fault {c : Cx} {m : Loc} {ν ν₀ : Led} {R : RX} {PF : Flow → Loc → Led → Prop} {env : Env} {np cpos pos : Pos} {e : Expr} (hr : Room c 3) (hs : ∀ p ∈ ν₀, p ∈ ν) (hR : ∀ e h', Rz c ν₀ e h' → R e h')
    (hg : env.globals = mainGlobals) (hk : env.scope.kind = .function) (hx : env.kindOf "MachineFault" = some .globalImplicit) (he : eval (.Call (.Name "MachineFault" np) [e] [] cpos) env = (do callWith cpos (← eval (.Name "MachineFault" np) env) [] (backTo cpos (starEach [e] env)) (backToKw cpos (keywordEach [] env))))
    (he2 : starEach [e] env = (false, eval e env) :: starEach [] env) (h : EV c m ν (eval e env) (kFlt ν₀) R) : EV c m ν (exec (.Raise (some (.Call (.Name "MachineFault" np) [e] [] cpos)) none pos) env) PF R := by
  refine ev_Raise (νR := ν₀) (ev_Call (ev_glob (v := .ref 52) (by k_is) ?_ hg hk hx (by decide)) he) hR
  refine ev_cwF_0 (by k_is) (ev_spl (ev_imp h fun v m' ν' hv => ?_) he2) he2 (by rfl)
  with_reducible refine hide_goal fun _ toG => ?_
  obtain ⟨x, t, rfl, hsub⟩ := hv
  refine toG ?_
  refine ev_spl0 (c_fault hr fun e t2 d δ hδ hin => ⟨e, t2, d, rfl, List.mem_append_left _ hin, fun p hp => ⟨List.mem_append_right _ (hsub p hp), ?_⟩⟩)
  exact ltN' (hδ _ hin p (hsub p hp))
theorem c_shape_bad {c : Cx} {m : Loc} {ν : Led} {P : Value → Loc → Led → Prop} {R : RX} {r : Row} {v : Value} (hr : Room c 5) (hv : RowV ν r v) (hs : Odd r) (h : ∀ e h', Rt c ν e h' → R e h') : EV c m ν (call (.ref 96) [v]) P R := by
  with_reducible refine hide_goal fun _ toG => ?_
  obtain ⟨b, o, t, vs, rfl, hm, ho, ha⟩ := hv
  refine toG ?_
  have hn := ha.length
  refine' ev_callR (n := 4) (binds := [("row", .ref b)]) ?ho ?hcd hr ?hb ?hl ?hk ?hc h ?h
  case ho => k_is
  case hcd => k_is
  case hb => exact fun s => BindsTo.of_eq rfl
  case hl => exact locs rfl
  case hk => exact rfl
  case hc => decide
  case h =>
    intro c' hr' _
    dsimp only [bnd]
    refine ev_cons ?_
    refine ev_Assign (h := ?_)
    refine ev_CallM (h := ?_)
    refine ev_glob (h := ?_)
    refine ev_getD shapes_in ?_
    refine ev_cwB_1 (h := ?_)
    refine ev_spl (h := ?_)
    refine ev_Sub ?_
    refine ev_local (h := ?_)
    refine ev_int (h := fun _ => ?_)
    refine ev_itemTN (h := ?_)
    refine ev_spl0 ?_
    have h41 : (Value.str r.name t :: vs).length < 2 ^ 40 := by have := hs.1.1; simp only [List.length_cons]; omega
    refine ev_shapes (fun y t' e => ?_) (fun e => ?_)
    · have h5 := shapes_few e
      have h40 : y.length < 2 ^ 40 := by omega
      have hne := hs.2 y e
      refine ev_store (h := ?_)
      refine then_next ?_
      refine ev_cons ?_
      refine ev_If ?_
      refine ev_isOr ?_
      refine ev_isCompare (h := ?_)
      refine ev_local (h := ?_)
      refine ev_none ?_
      refine ev_isNone ?_
      refine ev_truthyB ?_
      refine ite_isF vn_str ?_
      refine ev_isOr ?_
      refine ev_isCompare (h := ?_)
      refine ev_Call (h := ?_)
      refine ev_bltn (h := ?_)
      refine ev_cwB_0 (h := ?_)
      refine ev_spl (h := ?_)
      refine ev_local (h := ?_)
      refine ev_spl0 ?_
      refine ev_lenS (h := fun _ => ?_)
      refine ev_BinOp ?_
      refine ev_Call (h := ?_)
      refine ev_bltn (h := ?_)
      refine ev_cwB_0 (h := ?_)
      refine ev_spl (h := ?_)
      refine ev_local (h := ?_)
      refine ev_spl0 ?_
      refine ev_lenT (h := fun _ => ?_)
      refine ev_int (h := fun _ => ?_)
      refine ev_sub' (h := fun _ => ?_)
      refine ev_ne ?_
      refine ev_truthyB ?_
      refine ite_isT ?_ ?_
      · show (((y.length : Nat) : Int) != ((vs.length + 1 : Nat) : Int) - 1) = true
        exact bne_iff_ne.mpr (by omega)
      refine ite_T ?_
      refine ev_cons ?_
      refine ev_fault (ν₀ := ν) (by walk_at "zroom") (by walk_at "zsub") (fun _ _ x => x) rfl rfl (by with_unfolding_all rfl) (by with_unfolding_all rfl) (by with_unfolding_all rfl) ?_
      refine ev_BinOp ?_
      refine ev_str (h := fun _ => ?_)
      refine ev_Call (h := ?_)
      refine ev_bltn (h := ?_)
      refine ev_cwT_0 (h := ?_)
      refine ev_spl (h := ?_)
      refine ev_Sub ?_
      refine ev_local (h := ?_)
      refine ev_int (h := fun _ => ?_)
      refine ev_itemTN (h := ?_)
      refine ev_spl0 ?_
      refine ev_strS ?_
      exact ev_addS (by have := hs.1.2; have e1 : ("no row: " : Str).length = 8 := rfl; omega) fun _ => ⟨_, _, rfl, fun _ h => h⟩
    · refine ev_store (h := ?_)
      refine then_next ?_
      refine ev_cons ?_
      refine ev_If ?_
      refine ev_isOr ?_
      refine ev_isCompare (h := ?_)
      refine ev_local (h := ?_)
      refine ev_none ?_
      refine ev_isNone ?_
      refine ev_truthyB ?_
      refine ite_isT vn_none ?_
      refine ite_T ?_
      refine ev_cons ?_
      refine ev_fault (ν₀ := ν) (by walk_at "zroom") (by walk_at "zsub") (fun _ _ x => x) rfl rfl (by with_unfolding_all rfl) (by with_unfolding_all rfl) (by with_unfolding_all rfl) ?_
      refine ev_BinOp ?_
      refine ev_str (h := fun _ => ?_)
      refine ev_Call (h := ?_)
      refine ev_bltn (h := ?_)
      refine ev_cwT_0 (h := ?_)
      refine ev_spl (h := ?_)
      refine ev_Sub ?_
      refine ev_local (h := ?_)
      refine ev_int (h := fun _ => ?_)
      refine ev_itemTN (h := ?_)
      refine ev_spl0 ?_
      refine ev_strS ?_
      exact ev_addS (by have := hs.1.2; have e1 : ("no row: " : Str).length = 8 := rfl; omega) fun _ => ⟨_, _, rfl, fun _ h => h⟩

theorem c_uses_bad {c : Cx} {m : Loc} {ν : Led} {P : Value → Loc → Led → Prop} {R : RX} {r : Row} {v : Value} (hr : Room c 6) (hv : RowV ν r v) (hs : Odd r) (h : ∀ e h', Rt c ν e h' → R e h') : EV c m ν (call (.ref 103) [v]) P R := by
  have hv0 := hv
  with_reducible refine hide_goal fun _ toG => ?_
  obtain ⟨b, o, tn, vs, rfl, hm, ho, ha⟩ := hv
  refine toG ?_
  refine' ev_callR (n := 5) (binds := [("row", .ref b)]) ?ho ?hcd hr ?hb ?hl ?hk ?hc h ?h
  case ho => k_is
  case hcd => k_is
  case hb => exact fun s => BindsTo.of_eq rfl
  case hl => exact locs rfl
  case hk => exact rfl
  case hc => decide
  case h =>
    intro c' hr' _
    dsimp only [bnd]
    refine ev_cons ?_
    refine ev_Assign (h := ?_)
    refine ev_List ?_
    refine ev_spl0 ?_
    refine ev_newList (fun l hl => ?_) (by decide)
    refine ev_store (h := ?_)
    refine then_next ?_
    refine ev_cons ?_
    refine ev_For ?_ (outNoX (R := Rz c' ν)) (Rb := NoX) (hs := fun _ => rfl)
    refine ev_Call (h := ?_)
    refine ev_bltn (h := ?_)
    refine ev_cwT_0 (h := ?_)
    refine ev_spl (h := ?_)
    refine ev_Call (h := ?_)
    refine ev_glob (h := ?_)
    refine ev_cwF_0 (h := ?_)
    refine ev_spl (h := ?_)
    refine ev_local (h := ?_)
    refine ev_spl0 ?_
    exact c_shape_bad (by walk_at "zroom") (hv0.mono (KeepT.of (by walk_at "zsub"))) hs fun e h' x => x.rz (by walk_at "zsub")
theorem c_sets_bad {c : Cx} {m : Loc} {ν : Led} {P : Value → Loc → Led → Prop} {R : RX} {r : Row} {v : Value} (hr : Room c 6) (hv : RowV ν r v) (hs : Odd r) (h : ∀ e h', Rt c ν e h' → R e h') : EV c m ν (call (.ref 110) [v]) P R := by
  have hv0 := hv
  with_reducible refine hide_goal fun _ toG => ?_
  obtain ⟨b, o, tn, vs, rfl, hm, ho, ha⟩ := hv
  refine toG ?_
  refine' ev_callR (n := 5) (binds := [("row", .ref b)]) ?ho ?hcd hr ?hb ?hl ?hk ?hc h ?h
  case ho => k_is
  case hcd => k_is
  case hb => exact fun s => BindsTo.of_eq rfl
  case hl => exact locs rfl
  case hk => exact rfl
  case hc => decide
  case h =>
    intro c' hr' _
    dsimp only [bnd]
    refine ev_cons ?_
    refine ev_Return ?_
    refine ev_IfExp ?_
    refine ev_isCompare (h := ?_)
    refine ev_To (h := ?_)
    refine ev_Call (h := ?_)
    refine ev_glob (h := ?_)
    refine ev_cwF_0 (h := ?_)
    refine ev_spl (h := ?_)
    refine ev_local (h := ?_)
    refine ev_spl0 ?_
    exact c_shape_bad (by walk_at "zroom") hv0 hs fun e h' x => x.rz (by walk_at "zsub")
theorem c_depth_bad {c : Cx} {m : Loc} {ν : Led} {P : Value → Loc → Led → Prop} {R : RX} {r : Row} {v : Value} {d n : Int} {u : Tok} (hr : Room c 4) (hv : RowV ν r v) (he : r.name = "leave") (hp : r.parts = [.x (.one (.int n))]) (h1 : 1 ≤ n) (h2 : d < n) (h : ∀ e h', Rt c ν e h' → R e h') : EV c m ν (call (.ref 151) [v, .int d u]) P R := by
  with_reducible refine hide_goal fun _ toG => ?_
  obtain ⟨b, o, tn, vs, rfl, hm, ho, ha⟩ := hv
  refine toG ?_
  refine' ev_callR (n := 3) (binds := [("row", .ref b), ("depth", .int d u)]) ?ho ?hcd hr ?hb ?hl ?hk ?hc h ?h
  case ho => k_is
  case hcd => k_is
  case hb => exact fun s => BindsTo.of_eq rfl
  case hl => exact locs rfl
  case hk => exact rfl
  case hc => decide
  case h =>
    intro c' hr' _
    dsimp only [bnd]
    refine ev_cons ?_
    refine ev_If ?_
    refine ev_isCompare (h := ?_)
    refine ev_Sub ?_
    refine ev_local (h := ?_)
    refine ev_int (h := fun _ => ?_)
    refine ev_itemTN (h := ?_)
    refine ev_str (h := fun _ => ?_)
    refine ev_eqS ?_
    refine ev_truthyB ?_
    refine ite_isF (by rw [he]; rfl) ?_
    refine ev_nil ?_
    refine then_next ?_
    refine ev_cons ?_
    refine ev_If ?_
    refine ev_isCompare (h := ?_)
    refine ev_Sub ?_
    refine ev_local (h := ?_)
    refine ev_int (h := fun _ => ?_)
    refine ev_itemTN (h := ?_)
    refine ev_str (h := fun _ => ?_)
    refine ev_neS ?_
    refine ev_truthyB ?_
    refine ite_isF (by rw [he]; rfl) ?_
    rw [hp] at ha
    cases ha with
    | cons x xs =>
      obtain ⟨t1, rfl⟩ := x
      refine ev_nil ?_
      refine then_next ?_
      refine ev_cons ?_
      refine ev_If ?_
      refine ev_isOr ?_
      refine ev_isCompare (h := ?_)
      refine ev_Sub ?_
      refine ev_local (h := ?_)
      refine ev_int (h := fun _ => ?_)
      refine ev_itemTN (h := ?_)
      refine ev_int (h := fun _ => ?_)
      refine ev_lt ?_
      refine ev_truthyB ?_
      refine ite_isF (by simpa using h1) ?_
      refine ev_isOr ?_
      refine ev_isCompare (h := ?_)
      refine ev_Sub ?_
      refine ev_local (h := ?_)
      refine ev_int (h := fun _ => ?_)
      refine ev_itemTN (h := ?_)
      refine ev_local (h := ?_)
      refine ev_gt ?_
      refine ev_truthyB ?_
      refine ite_isT (by simpa using h2) ?_
      refine ite_T ?_
      refine ev_cons ?_
      refine ev_fault (ν₀ := ν) (by walk_at "zroom") (by walk_at "zsub") (fun _ _ x => x) rfl rfl (by with_unfolding_all rfl) (by with_unfolding_all rfl) (by with_unfolding_all rfl) ?_
      refine ev_str (h := fun _ => ?_)
      exact ⟨_, _, rfl, fun _ h => h⟩

/-- what law 01's rows are, where they have as many parts as their names tell -/
structure Fine (r : Row) : Prop where
  shaped : Shaped r
  many : r.uses.length ≤ 100
  regs : ∀ x ∈ r.uses ++ r.sets.toList, 0 ≤ x
  gls : ∀ x ∈ r.goals, 0 ≤ x
  stat : r.name = "static" → ∃ d x, r.parts = [.d d, .x (.one (.str x))] ∧ x.length ≤ 100
  capt : r.name = "capture" → ∃ d n, r.parts = [.d d, .x (.one (.int n))] ∧ 0 ≤ n ∧ n ≤ 1000
  splat : r.name = "splat" → ∃ d s a b, r.parts = [.d d, .s s, .m a, .x (.tup b)] ∧ a.length ≤ 100 ∧ b.length ≤ 100
  kw : r.name = "kwcall" → ∃ d s a b e, r.parts = [.d d, .s s, .x (.tup a), .m b, .m e] ∧ a.length ≤ 100 ∧ b.length ≤ 100
  leave : r.name = "leave" → ∃ n, r.parts = [.x (.one (.int n))] ∧ 1 ≤ n
  enter : r.name = "enter" → ∃ n, r.parts = [.g n]
theorem Fine.fol {r : Row} (h : Fine r) (k : Nat) : ∀ x ∈ fol r k, 0 ≤ x := by
  intro x hx
  rcases List.mem_append.mp hx with hx | hx
  · split at hx
    · cases hx
    · rw [List.mem_singleton] at hx; omega
  · exact h.gls x hx
def statB (sts : List Str) (r : Row) : Bool := match r.parts with | [_, .x (.one (.str x))] => sts.any (· == x) | _ => true
def captB (nc : Nat) (r : Row) : Bool := match r.parts with | [_, .x (.one (.int n))] => decide (n < nc) | _ => true
def splatB (r : Row) : Bool := match r.parts with | [_, _, .m a, .x (.tup b)] => a.length == b.length | _ => true
def kwB (r : Row) : Bool := match r.parts with | [_, _, .x (.tup a), .m b, _] => a.length == b.length | _ => true
/-- what check_row asks -/
structure RowOk (sl : Int) (n k : Nat) (sts : List Str) (nc : Nat) (r : Row) : Prop where
  regs : ∀ x ∈ r.uses ++ r.sets.toList, x < sl
  fols : ∀ x ∈ fol r k, x < n
  stat : r.name = "static" → statB sts r = true
  capt : r.name = "capture" → captB nc r = true
  splat : r.name = "splat" → splatB r = true
  kw : r.name = "kwcall" → kwB r = true
/-- a Code of the heap and the rows it has -/
structure CodeIs (ν : Led) (x : Addr) (nm : Str) (ar sl : Int) (rt st cp mk : Addr) (sts : List Str) (nc : Nat) (rs : List Row) (vs : List Value) : Prop where
  code : CodeAt ν x nm ar sl rt st cp mk
  rows : ∃ o, (rt, o) ∈ ν ∧ TupO o vs
  each : RowsV ν rs vs
  static : ∃ o ws, (st, o) ∈ ν ∧ TupO o ws ∧ StrsAre ws sts
  captures : ∃ o ws, (cp, o) ∈ ν ∧ TupO o ws ∧ ws.length = nc
theorem CodeIs.mono {ν ν' : Led} {x : Addr} {nm : Str} {ar sl : Int} {rt st cp mk : Addr} {sts : List Str} {nc : Nat} {rs : List Row} {vs : List Value} (h : CodeIs ν x nm ar sl rt st cp mk sts nc rs vs) (hs : ∀ p ∈ ν, p ∈ ν') : CodeIs ν' x nm ar sl rt st cp mk sts nc rs vs := by
  obtain ⟨a, ⟨o1, b1, b2⟩, c, ⟨o2, t2, d1, d2, d3⟩, ⟨o3, t3, e1, e2, e3⟩⟩ := h
  exact ⟨a.mono hs, ⟨o1, hs _ b1, b2⟩, c.mono fun _ _ y => y.mono (KeepT.of hs), ⟨o2, t2, hs _ d1, d2, d3⟩, ⟨o3, t3, hs _ e1, e2, e3⟩⟩
/-- a statement that changes nothing the walk knows of, and tells C -/
theorem ev_consC {c : Cx} {m : Loc} {ν : Led} {R : RX} {env : Env} {PF : Flow → Loc → Led → Prop} (C : Prop) {st : Stmt} {rest : List Stmt} (h : ∀ K : Flow → Loc → Led → Prop, (C → K .next m ν) → EV c m ν (exec st env) K R) (h' : C → EV c m ν (execs rest env) PF R) : EV c m ν (execs (st :: rest) env) PF R :=
  ev_cons (ev_imp (h (fun f m' ν' => f = .next ∧ m' = m ∧ ν' = ν ∧ C) fun q => ⟨rfl, rfl, rfl, q⟩) fun f m₁ ν₁ g => by obtain ⟨rfl, rfl, rfl, hC⟩ := g; exact then_next (h' hC))

/-- no sign 10 -/
def NoNL (x : Str) : Prop := 10 ∉ x.cps.toList
theorem NoNL.app {x y : Str} (h : NoNL x) (h' : NoNL y) : NoNL (x ++ y) := by
  unfold NoNL at *
  show 10 ∉ (x.cps ++ y.cps).toList
  simp only [Array.toList_append, List.mem_append, not_or]
  exact ⟨h, h'⟩
theorem app_len (x y : Str) : (x ++ y).length = x.length + y.length := by
  show (x.cps ++ y.cps).size = x.cps.size + y.cps.size
  simp
theorem join_nl {sep : Str} (hs : NoNL sep) : ∀ ys : List Str, (∀ y ∈ ys, NoNL y) → NoNL (Str.join sep ys)
  | [], _ => by unfold NoNL Str.join Str.empty; simp
  | [x], h => h x (.head _)
  | x :: y :: r, h => ((h x (.head _)).app hs).app (join_nl hs (y :: r) fun z hz => h z (.tail _ hz))
theorem ofString_cps (x : String) : (Str.ofString x).cps.toList = x.toList.map Char.toNat := by
  rw [Str.ofString_eq_byList]
  rfl
theorem nat_repr_nl (n : Nat) : ∀ ch ∈ (Nat.repr n).toList, ch.toNat ≠ 10 := by
  intro ch h
  have : ch.isDigit = true := Nat.isDigit_of_mem_toDigits (b := 10) (n := n) (by decide) (by decide) (by simpa [Nat.repr] using h)
  intro e
  unfold Char.isDigit at this
  simp only [Bool.and_eq_true, decide_eq_true_eq] at this
  have h1 : (48 : Nat) ≤ ch.toNat := this.1
  omega
theorem str_int_nl (a : Int) : NoNL (Str.ofString (toString a)) := by
  unfold NoNL
  rw [ofString_cps]
  intro h
  obtain ⟨ch, hc, e⟩ := List.mem_map.mp h
  cases a with
  | ofNat n => exact nat_repr_nl n ch hc e
  | negSucc n =>
    have : (toString (Int.negSucc n)).toList = '-' :: (Nat.repr (n + 1)).toList := by
      show (Int.repr (Int.negSucc n)).toList = _
      simp [Int.repr]
    rw [this] at hc
    rcases List.mem_cons.mp hc with rfl | hc
    · cases e
    · exact nat_repr_nl _ ch hc e
def AtTxt : At → Prop
  | .int n => n.natAbs ≤ 1900
  | .str x => x = "bool" ∨ x = "nothing" ∨ x = "k"
  | .bool _ => True
theorem at_shown {a : At} (h : AtTxt a) : NoNL a.data.shown ∧ a.data.shown.length ≤ 2002 ∧ a.data.showable = true ∧ a.data.hasDict = false := by
  cases a with
  | int n =>
    refine ⟨str_int_nl n, ?_, ?_, rfl⟩
    · have := len_str_of_int n
      have h' : n.natAbs ≤ 1900 := h
      have e : (At.data (.int n)).shown.length = (Str.ofString (toString n)).length := rfl
      rw [e]
      omega
    · show decide (n.natAbs.log2 < 1920) = true
      exact decide_eq_true (Nat.lt_of_le_of_lt (Nat.log2_le_self _) (Nat.lt_of_le_of_lt h (by decide)))
  | str x =>
    rcases h with rfl | rfl | rfl
    · exact ⟨by unfold NoNL; decide +kernel, by decide +kernel, rfl, rfl⟩
    · exact ⟨by unfold NoNL; decide +kernel, by decide +kernel, rfl, rfl⟩
    · exact ⟨by unfold NoNL; decide +kernel, by decide +kernel, rfl, rfl⟩
  | bool b => cases b <;> exact ⟨by unfold NoNL; decide +kernel, by decide +kernel, rfl, rfl⟩
theorem parts_shown {l : List At} (h : ∀ a ∈ l, AtTxt a) : (∀ y ∈ PyData.shownAll (l.map At.data), NoNL y ∧ y.length ≤ 2002) ∧ PyData.showableAll (l.map At.data) = true ∧ PyData.hasDictAll (l.map At.data) = false ∧ PyData.depthAll (l.map At.data) = 0 ∧ (PyData.shownAll (l.map At.data)).length = l.length := by
  induction l with
  | nil => exact ⟨(fun _ h => nomatch h), rfl, rfl, rfl, rfl⟩
  | cons a l ih =>
    with_reducible refine hide_goal fun _ toG => ?_
    obtain ⟨i1, i2, i3, i4, i5⟩ := ih fun b hb => h b (.tail _ hb)
    obtain ⟨a1, a2, a3, a4⟩ := at_shown (h a (.head _))
    refine toG ?_
    refine ⟨fun y hy => ?_, ?_, ?_, ?_, ?_⟩
    · rcases List.mem_cons.mp hy with rfl | hy
      · exact ⟨a1, a2⟩
      · exact i1 y hy
    · show (a.data.showable && _) = true
      rw [a3, Bool.true_and]; exact i2
    · show (a.data.hasDict || _) = false
      rw [a4, Bool.false_or]; exact i3
    · show max a.data.depth _ = 0
      rw [i4]
      cases a <;> rfl
    · exact congrArg Nat.succ i5
def PartTxt (p : Part) : Prop := match p.pay with
  | .one (.int n) => n.natAbs ≤ 1900
  | .one (.str x) => NoNL x ∧ x.length ≤ 100
  | .one (.bool _) => False
  | .tup l => l.length ≤ 4 ∧ ∀ a ∈ l, AtTxt a
abbrev StrV (x : Str) (v : Value) : Prop := ∃ t, v = .str x t
theorem strsAre {l : List Str} {vs : List Value} (h : AllV StrV l vs) : StrsAre vs l := by
  induction h with
  | nil => exact .nil
  | cons x _ ih => obtain ⟨t, rfl⟩ := x; exact .cons _ _ ih
theorem join_len (sep : Str) (b : Nat) : ∀ ys : List Str, (∀ y ∈ ys, y.length ≤ b) → (Str.join sep ys).length ≤ ys.length * (b + sep.length)
  | [], _ => Nat.zero_le _
  | [x], h => by have := h x (.head _); simp only [Str.join, List.length_singleton, Nat.one_mul]; omega
  | x :: y :: r, h => by
    have h1 := h x (.head _)
    have h2 := join_len sep b (y :: r) fun z hz => h z (.tail _ hz)
    show (x ++ sep ++ Str.join sep (y :: r)).length ≤ _
    rw [app_len, app_len, List.length_cons, Nat.add_mul, Nat.one_mul]
    omega
theorem tuple_shown {l : List At} (hl : l.length ≤ 4) (h : ∀ a ∈ l, AtTxt a) : NoNL (PyData.shown (.tuple (l.map At.data))) ∧ (PyData.shown (.tuple (l.map At.data))).length ≤ 20000 ∧ PyData.showable (.tuple (l.map At.data)) = true ∧ PyData.hasDict (.tuple (l.map At.data)) = false ∧ PyData.depth (.tuple (l.map At.data)) = 1 := by
  with_reducible refine hide_goal fun _ toG => ?_
  obtain ⟨i1, i2, i3, i4, i5⟩ := parts_shown h
  refine toG ?_
  have e : PyData.shown (.tuple (l.map At.data)) = ("(" : Str) ++ Str.join ", " (PyData.shownAll (l.map At.data)) ++ (if (PyData.shownAll (l.map At.data)).length == 1 then ",)" else ")" : String) := rfl
  refine ⟨?_, ?_, i2, i3, by show PyData.depthAll _ + 1 = 1; rw [i4]⟩
  · rw [e]
    refine (NoNL.app (by unfold NoNL; decide) (join_nl (by unfold NoNL; decide) _ fun y hy => (i1 y hy).1)).app ?_
    split <;> (unfold NoNL; decide)
  · rw [e, app_len, app_len]
    have j := join_len ", " 2002 _ fun y hy => (i1 y hy).2
    rw [i5] at j
    have k : (Str.join ", " (PyData.shownAll (l.map At.data))).length ≤ 4 * (2002 + 2) := Nat.le_trans j (Nat.mul_le_mul hl (Nat.le_refl _))
    have e1 : ("(" : Str).length = 1 := rfl
    have e2 : ((if (PyData.shownAll (l.map At.data)).length == 1 then ",)" else ")" : String) : Str).length ≤ 2 := by split <;> decide
    omega
theorem sum_len (b : Nat) : ∀ ys : List Str, (∀ y ∈ ys, y.length ≤ b) → (ys.map (·.length)).sum ≤ ys.length * b
  | [], _ => Nat.zero_le _
  | x :: r, h => by
    have h1 := h x (.head _)
    have h2 := sum_len b r fun z hz => h z (.tail _ hz)
    rw [List.map_cons, List.sum_cons, List.length_cons, Nat.add_mul, Nat.one_mul]
    omega
theorem app_empty (x : Str) : x ++ Str.empty = x := by
  show (⟨x.cps ++ Str.empty.cps⟩ : Str) = x
  simp [Str.empty]
theorem app_assoc (x y z : Str) : x ++ y ++ z = x ++ (y ++ z) := by
  show (⟨x.cps ++ y.cps ++ z.cps⟩ : Str) = ⟨x.cps ++ (y.cps ++ z.cps)⟩
  simp
theorem join_pre (sep x : Str) : ∀ ys : List Str, ∃ tail, Str.join sep (x :: ys) = x ++ tail
  | [] => ⟨Str.empty, (app_empty x).symm⟩
  | y :: r => ⟨sep ++ Str.join sep (y :: r), app_assoc _ _ _⟩

theorem c_row_text {c : Cx} {m : Loc} {ν : Led} {P : Value → Loc → Led → Prop} {R : RX} {r : Row} {v : Value} (hr : Room c 12) (hv : RowV ν r v) (h5 : r.parts.length ≤ 5) (ht : ∀ p ∈ r.parts, PartTxt p) (hn : NoNL r.name ∧ r.name.length ≤ 100)
    (h : ∀ X tail t, X = r.name ++ tail → NoNL X → X.length ≤ 200000 → P (.str X t) m ν) : EV c m ν (call (.ref 132) [v]) P R := by
  with_reducible refine hide_goal fun _ toG => ?_
  obtain ⟨b, o, tn, vs, rfl, hm, ho, ha⟩ := hv
  refine toG ?_
  have hln := ha.length
  refine ev_post ?_
  refine' ev_call (n := 11) (Rb := NoX) (binds := [("row", .ref b)]) ?ho ?hcd hr ?hb ?hl ?hk ?hc ?h (fun _ _ x => x.elim)
  case ho => k_is
  case hcd => k_is
  case hb => exact fun s => BindsTo.of_eq rfl
  case hl => exact locs rfl
  case hk => exact rfl
  case hc => decide
  case h =>
    intro c' hr' _
    dsimp only [bnd]
    refine ev_cons ?_
    refine ev_Return ?_
    refine ev_CallM (h := ?_)
    refine ev_str (h := fun _ => ?_)
    refine ev_getJoin ?_
    refine ev_cwB_1 (h := ?_)
    refine ev_spl (h := ?_)
    refine ev_BinOp ?_
    refine ev_List ?_
    refine ev_spl (h := ?_)
    refine ev_Sub ?_
    refine ev_local (h := ?_)
    refine ev_int (h := fun _ => ?_)
    refine ev_itemTN (h := ?_)
    refine ev_spl0 ?_
    refine ev_newList (fun l0 hl0 => ?_) (by simp [sizeLine])
    refine' ev_ListComp (cl := []) (Rb := NoX) ?_ outCompNoX ?h1 ?h2 ?h3 ?h4 ?h5
    case h1 => with_unfolding_all rfl
    case h2 => decide
    case h3 => rfl
    case h4 => decide
    case h5 => exact fun _ => rfl
    refine ev_FromA (h := ?_)
    refine ev_local (h := ?_)
    refine ev_int (h := fun _ => ?_)
    refine ⟨b, o, _, 1, _, rfl, rfl, by walk_at "zmem", ho, by decide, by simp only [List.length_cons]; omega, by simp only [List.length_cons]; omega, fun D hD => ?_⟩
    have hT : TupO (tupO (List.drop 1 (Value.str r.name tn :: vs))) vs := ⟨0, rfl⟩
    refine ev_iterT (l := D) (.head _) hT fun it oi hit hoi => ?_
    refine ev_compK (yldT hT) (by rw [hln]; exact Nat.le_trans h5 (by decide)) (fun k acc ν₂ => ν₂ = (D, tupO (List.drop 1 (Value.str r.name tn :: vs))) :: (l0, lstO [.str r.name tn]) :: ν ∧ ∃ Xs, AllV StrV Xs acc ∧ ∀ X ∈ Xs, NoNL X ∧ X.length ≤ 20000) ⟨oi, rfl, hoi⟩ (fun p hp => ltN' (hit p hp)) (.head _) ⟨rfl, [], .nil, fun _ h => nomatch h⟩ (fun _ h => h) (fun a ha => ⟨_, .head _, ha.symm⟩) (fun k b hb p hp => by obtain ⟨oi', rfl, _⟩ := hb; cases hp with | head => rfl | tail _ h => cases h) (fun L q h => .tail _ h) ?_ ?_
    · intro k acc ν₂ v δ2 b3 C oC mC D2 oD2 hk hal zp1 hne2 hsr2 zp2 hδ2 hB2 hNs hoD2 hab2 hDC hbCD hneC K1 N1 hK1 hN1
      with_reducible refine hide_goal fun _ toG => ?_
      obtain ⟨rfl, Xs, hXs, hXn⟩ := zp1
      obtain ⟨hx2, rfl⟩ := zp2
      obtain ⟨p, hp, hpv⟩ := ha.at hx2
      refine toG ?_
      have htp := ht p (List.mem_of_getElem? hp)
      unfold PartTxt at htp
      unfold PartV at hpv
      refine ev_assignName ?_
      refine ev_storeC (hν := fun _ h => h) (h := fun _ _ => ?_)
      refine ev_tests0 ?_
      refine ite_T ?_
      refine ev_Call (h := ?_)
      refine ev_bltn (h := ?_)
      refine ev_cwT_0 (h := ?_)
      refine ev_spl (h := ?_)
      refine ev_localC (h := ?_)
      refine ev_spl0 ?_
      cases hpay : p.pay with
      | one a =>
        rw [hpay] at htp hpv
        cases a with
        | int n =>
          obtain ⟨t1, rfl⟩ := hpv
          refine ev_strI (Nat.lt_of_le_of_lt (Nat.log2_le_self _) (Nat.lt_of_le_of_lt htp (by decide))) fun t2 => ?_
          refine' hK1 ?sub ?ns hne2 hsr2 ⟨rfl, _, hXs.snoc ⟨_, rfl⟩, ?_⟩
          case sub => walk_at "zsub"
          case ns => assumption
          intro X hX
          rcases List.mem_append.mp hX with hX | hX
          · exact hXn X hX
          · rw [List.mem_singleton] at hX
            subst hX
            exact ⟨str_int_nl n, by have := len_str_of_int n; have h' : n.natAbs ≤ 1900 := htp; omega⟩
        | str x =>
          obtain ⟨t1, rfl⟩ := hpv
          refine ev_strS ?_
          refine' hK1 ?sub ?ns hne2 hsr2 ⟨rfl, _, hXs.snoc ⟨_, rfl⟩, ?_⟩
          case sub => walk_at "zsub"
          case ns => assumption
          intro X hX
          rcases List.mem_append.mp hX with hX | hX
          · exact hXn X hX
          · rw [List.mem_singleton] at hX
            subst hX
            exact ⟨htp.1, Nat.le_trans htp.2 (by decide)⟩
        | bool x => exact htp.elim
      | tup l =>
        rw [hpay] at htp hpv
        with_reducible refine hide_goal fun _ toG => ?_
        obtain ⟨s1, s2, s3, s4, s5⟩ := tuple_shown htp.1 htp.2
        refine toG ?_
        refine ev_strD (d := PyData.tuple (l.map At.data)) (via_pay (.tup l) v (PayV.mono (KeepT.of (by walk_at "zbase")) hpv)) s3 s4 rfl (by walk_at "zroom") (Nat.le_trans (Nat.le_of_eq s5) (by decide)) (Nat.le_trans s2 (by decide)) fun t2 => ?_
        refine' hK1 ?sub ?ns hne2 hsr2 ⟨rfl, _, hXs.snoc ⟨_, rfl⟩, ?_⟩
        case sub => walk_at "zsub"
        case ns => assumption
        intro X hX
        rcases List.mem_append.mp hX with hX | hX
        · exact hXn X hX
        · rw [List.mem_singleton] at hX
          subst hX
          exact ⟨s1, s2⟩
    · rintro D2 oD2 acc ν₂ hal ⟨rfl, Xs, hXs, hXn⟩ hoD2 hab2 hne2 hsr2
      have hXl : Xs.length ≤ 5 := by rw [← hXs.length]; omega
      refine ev_addL (a := l0) (b := D2) (by walk_at "zmem") lstO_mk (.head _) hoD2 (by rw [hXs.length]; exact Nat.le_trans (Nat.add_le_add_left hXl _) (by simp [sizeLine])) fun D3 o3 hD3 ho3 => ?_
      refine ev_spl0 ?_
      have hall : ∀ X ∈ r.name :: Xs, NoNL X ∧ X.length ≤ 20000 := by
        intro X hX
        rcases List.mem_cons.mp hX with rfl | hX
        · exact ⟨hn.1, Nat.le_trans hn.2 (by decide)⟩
        · exact hXn X hX
      refine ev_join (ys := r.name :: Xs) (.head _) ho3 (strsAre (.cons ⟨_, rfl⟩ hXs)) ?_ fun t3 => ?_
      · have q := sum_len 20000 _ fun X hX => (hall X hX).2
        have q2 : (r.name :: Xs).length ≤ 6 := Nat.succ_le_succ hXl
        have e1 : (" " : Str).length = 1 := rfl
        rw [e1]
        omega
      refine then_ret ?_
      have ej : Txt.join " " (r.name :: Xs) = Str.join " " (r.name :: Xs) := PySem.StrLaws.glued_eq_join _ _
      rw [ej]
      obtain ⟨tail, htail⟩ := join_pre " " r.name Xs
      refine ⟨_, ?_, h _ tail _ htail (join_nl (by unfold NoNL; decide) _ fun X hX => (hall X hX).1) ?_⟩
      · walk_at "zsub"
      · have q := join_len " " 20000 _ fun X hX => (hall X hX).2
        have q2 : (r.name :: Xs).length ≤ 6 := Nat.succ_le_succ hXl
        exact Nat.le_trans q (Nat.le_trans (Nat.mul_le_mul q2 (Nat.le_refl _)) (by decide))

/-- the text of a row's line -/
def LineOf (rs : List Row) (Xs : List Str) (k : Nat) : Prop := ∀ j r, j < k → rs[j]? = some r → ∃ tail, Xs[j]? = some (Str.ofString (toString (j : Int)) ++ ": " ++ (r.name ++ tail))
theorem c_code_text {c : Cx} {m : Loc} {ν : Led} {P : Value → Loc → Led → Prop} {R : RX} {x rt st cp mk : Addr} {nm : Str} {ar sl : Int} {sts : List Str} {nc : Nat} {rs : List Row} {vs : List Value} (hr : Room c 14) (hx : CodeIs ν x nm ar sl rt st cp mk sts nc rs vs) (hl : rs.length ≤ 30) (hnm : NoNL nm ∧ nm.length ≤ 100) (har : ar.natAbs ≤ 1900) (hsl : sl.natAbs ≤ 1900)
    (hrow : ∀ r ∈ rs, r.parts.length ≤ 5 ∧ (∀ p ∈ r.parts, PartTxt p) ∧ NoNL r.name ∧ r.name.length ≤ 100)
    (h : ∀ X head Xs t, X = Str.join "\n" (head :: Xs) → (∀ y ∈ head :: Xs, NoNL y) → Xs.length = rs.length → LineOf rs Xs rs.length → X.length ≤ 2 ^ 23 → P (.str X t) m ν) : EV c m ν (call (.ref 137) [.ref x]) P R := by
  with_reducible refine hide_goal fun _ toG => ?_
  obtain ⟨dx, es, n, hx1, hx2, hD⟩ := hx.code
  obtain ⟨ort, hrt, hrt'⟩ := hx.rows
  have hrs := hx.each
  have hlen := hrs.length
  have h40 : vs.length < 2 ^ 40 := by omega
  have hro := hD.rows
  obtain ⟨tn, hna⟩ := hD.name
  obtain ⟨ta, haa⟩ := hD.arity
  obtain ⟨ts, hsa⟩ := hD.slots
  refine toG ?_
  refine ev_post ?_
  refine' ev_callC (n := 13) (Rb := NoX) (binds := [("code", .ref x)]) (m₀ := noLoc) (cs := fun L => [("code", L + 1)]) (cm := bnd noLoc [("code", .ref x)]) ?ho ?hcd hr ?hb ?hkd ?hnd ?hm ?hcm ?hcs ?hck ?h (fun _ _ x => x.elim)
  case ho => k_is
  case hcd => k_is
  case hb => exact fun s => BindsTo.of_eq rfl
  case hkd => exact rfl
  case hnd => decide
  case hm => exact fun _ => rfl
  case hcm => exact fun _ => rfl
  case hcs => exact fun _ => rfl
  case hck => exact rfl
  case h =>
    intro c' cells hr' _ hY lt
    with_reducible refine hide_goal fun _ toG => ?_
    obtain ⟨oc, rfl, hoc⟩ := hY.one
    refine toG ?_
    replace hoc : oc.data = .cell (some (.ref x)) := by rw [hoc]; rfl
    have hcc : Above (c'.L + 1) ν := fun p hp => Nat.lt_succ_of_lt (lt p hp)
    rw [List.singleton_append]
    refine ev_cons ?_
    refine ev_Assign (h := ?_)
    refine ev_BinOp ?_
    refine ev_BinOp ?_
    refine ev_BinOp ?_
    refine ev_BinOp ?_
    refine ev_Attr (h := ?_)
    refine ev_cell (h := ?_)
    refine ev_getAttr (h := ?_)
    refine ev_str (h := fun _ => ?_)
    have l2 : (" " : Str).length = 1 := rfl
    have l3 : (" of " : Str).length = 4 := rfl
    have l4 : (": " : Str).length = 2 := rfl
    have la := len_str_of_int ar
    have ls := len_str_of_int sl
    refine ev_addS (by rw [l2]; have := hnm.2; omega) fun _ => ?_
    refine ev_Call (h := ?_)
    refine ev_bltn (h := ?_)
    refine ev_cwT_0 (h := ?_)
    refine ev_spl (h := ?_)
    refine ev_Attr (h := ?_)
    refine ev_cell (h := ?_)
    refine ev_getAttr (h := ?_)
    refine ev_spl0 ?_
    refine ev_strI (Nat.lt_of_le_of_lt (Nat.log2_le_self _) (Nat.lt_of_le_of_lt har (by decide))) fun _ => ?_
    refine ev_addS (by rw [app_len, l2]; have := hnm.2; omega) fun _ => ?_
    refine ev_str (h := fun _ => ?_)
    refine ev_addS (by rw [app_len, app_len, l2, l3]; have := hnm.2; omega) fun _ => ?_
    refine ev_Call (h := ?_)
    refine ev_bltn (h := ?_)
    refine ev_cwT_0 (h := ?_)
    refine ev_spl (h := ?_)
    refine ev_Attr (h := ?_)
    refine ev_cell (h := ?_)
    refine ev_getAttr (h := ?_)
    refine ev_spl0 ?_
    refine ev_strI (Nat.lt_of_le_of_lt (Nat.log2_le_self _) (Nat.lt_of_le_of_lt hsl (by decide))) fun _ => ?_
    refine ev_addS (by rw [app_len, app_len, app_len, l2, l3]; have := hnm.2; omega) fun _ => ?_
    have hh : NoNL (nm ++ " " ++ Str.ofString (toString ar) ++ " of " ++ Str.ofString (toString sl)) := (((hnm.1.app (by unfold NoNL; decide)).app (str_int_nl ar)).app (by unfold NoNL; decide)).app (str_int_nl sl)
    have hhl : (nm ++ " " ++ Str.ofString (toString ar) ++ " of " ++ Str.ofString (toString sl)).length ≤ 202200 := by
      rw [app_len, app_len, app_len, app_len, l2, l3]
      have := hnm.2
      omega
    generalize (nm ++ " " ++ Str.ofString (toString ar) ++ " of " ++ Str.ofString (toString sl)) = head at hh hhl
    refine ev_store (h := ?_)
    refine then_next ?_
    refine ev_cons ?_
    refine ev_Return ?_
    refine ev_CallM (h := ?_)
    refine ev_str (h := fun _ => ?_)
    refine ev_getJoin ?_
    refine ev_cwB_1 (h := ?_)
    refine ev_spl (h := ?_)
    refine ev_BinOp ?_
    refine ev_List ?_
    refine ev_spl (h := ?_)
    refine ev_local (h := ?_)
    refine ev_spl0 ?_
    refine ev_newList (fun l0 hl0 => ?_) (by simp [sizeLine])
    refine' ev_ListComp (cl := [("code", c'.L + 1)]) (Rb := NoX) ?_ outCompNoX ?h1 ?h2 ?h3 ?h4 ?h5
    case h1 => with_unfolding_all rfl
    case h2 => decide
    case h3 => rfl
    case h4 => decide
    case h5 => exact fun _ => rfl
    refine ev_Call (h := ?_)
    refine ev_bltn (h := ?_)
    refine ev_cwT_0 (h := ?_)
    refine ev_spl (h := ?_)
    refine ev_Call (h := ?_)
    refine ev_bltn (h := ?_)
    refine ev_cwB_0 (h := ?_)
    refine ev_spl (h := ?_)
    refine ev_Attr (h := ?_)
    refine ev_cell (h := ?_)
    refine ev_getAttr (h := ?_)
    refine ev_spl0 ?_
    refine ev_lenT (h := fun _ => ?_)
    refine ev_spl0 ?_
    refine ev_range1 fun r0 t1 t2 hr0 => ?_
    refine ev_iterR (.head _) (Int.natCast_nonneg _) (by omega) fun it oi hit hoi => ?_
    refine ev_compK (yldR (n := vs.length)) (by rw [hlen]; exact Nat.le_trans hl (by decide)) (fun k acc ν₂ => ν₂ = (l0, lstO [Value.str head _]) :: (c'.L + 1, oc) :: ν ∧ ∃ Xs, AllV StrV Xs acc ∧ (∀ X ∈ Xs, NoNL X ∧ X.length ≤ 202200) ∧ Xs.length = k ∧ LineOf rs Xs k) ⟨oi, rfl, by simpa using hoi⟩ (fun p hp => ltN' (hit p (.tail _ hp))) trivial ⟨rfl, [], .nil, (fun _ h => nomatch h), rfl, fun j r hj => absurd hj (Nat.not_lt_zero _)⟩ (by walk_at "zsub") (fun a ha => ⟨_, .head _, ha.symm⟩) (fun k b hb p hp => by obtain ⟨oi', rfl, _⟩ := hb; cases hp with | head => rfl | tail _ h => cases h) (fun L q h => trivial) ?_ ?_
    · intro k acc ν₂ v δ2 b3 C oC mC D2 oD2 hk hal zp1 hne2 hsr2 zp2 hδ2 hB2 hNs hoD2 hab2 hDC hbCD hneC K1 N1 hK1 hN1
      with_reducible refine hide_goal fun _ toG => ?_
      obtain ⟨rfl, Xs, hXs, hXn, hXl, hline⟩ := zp1
      obtain ⟨⟨tk, rfl⟩, rfl⟩ := zp2
      refine toG ?_
      obtain ⟨r, hkr⟩ : ∃ r, rs[k]? = some r := ⟨_, List.getElem?_eq_getElem (by omega)⟩
      with_reducible refine hide_goal fun _ toG => ?_
      obtain ⟨v, hkv, hrv⟩ := hrs.get hkr
      obtain ⟨g1, g2, g3⟩ := hrow r (List.mem_of_getElem? hkr)
      refine toG ?_
      have lk := len_str_of_int (k : Int)
      refine ev_assignName ?_
      refine ev_storeC (hν := fun _ h => h) (h := fun _ _ => ?_)
      refine ev_tests0 ?_
      refine ite_T ?_
      refine ev_BinOp ?_
      refine ev_BinOp ?_
      refine ev_Call (h := ?_)
      refine ev_bltn (h := ?_)
      refine ev_cwT_0 (h := ?_)
      refine ev_spl (h := ?_)
      refine ev_localC (h := ?_)
      refine ev_spl0 ?_
      refine ev_strI (Nat.lt_of_le_of_lt (Nat.log2_le_self _) (by omega)) fun _ => ?_
      refine ev_str (h := fun _ => ?_)
      refine ev_addS (by rw [l4]; omega) fun _ => ?_
      refine ev_Call (h := ?_)
      refine ev_glob (h := ?_)
      refine ev_cwF_0 (h := ?_)
      refine ev_spl (h := ?_)
      refine ev_Sub ?_
      refine ev_Attr (h := ?_)
      refine ev_cell (h := ?_)
      refine ev_getAttr (h := ?_)
      refine ev_localC (h := ?_)
      refine ev_itemTK (h := ?_)
      refine ev_spl0 ?_
      refine c_row_text (by walk_at "zroom") (hrv.mono (KeepT.of (by walk_at "zbase"))) g1 g2 g3 fun X tail tX hX hXnl hXlen => ?_
      refine ev_addS (by rw [app_len, l4]; omega) fun _ => ?_
      refine' hK1 ?sub ?ns hne2 hsr2 ⟨rfl, _, hXs.snoc ⟨_, rfl⟩, ?_, by rw [List.length_append, hXl]; rfl, ?_⟩
      case sub => walk_at "zsub"
      case ns => assumption
      · intro Y hY
        rcases List.mem_append.mp hY with hY | hY
        · exact hXn Y hY
        · rw [List.mem_singleton] at hY
          subst hY
          refine ⟨((str_int_nl k).app (by unfold NoNL; decide)).app hXnl, ?_⟩
          rw [app_len, app_len, l4]
          omega
      · intro j r' hj hr'
        by_cases hjk : j = k
        · subst hjk
          rw [hkr] at hr'
          cases hr'
          exact ⟨tail, by rw [List.getElem?_append_right (by omega), hXl, Nat.sub_self, hX]; rfl⟩
        · obtain ⟨tail', ht'⟩ := hline j r' (by omega) hr'
          exact ⟨tail', by rw [List.getElem?_append_left (by omega)]; exact ht'⟩
    · rintro D2 oD2 acc ν₂ hal ⟨rfl, Xs, hXs, hXn, hXl, hline⟩ hoD2 hab2 hne2 hsr2
      rw [hlen] at hXl hline
      refine ev_addL (a := l0) (b := D2) (by walk_at "zmem") lstO_mk (.head _) hoD2 (by rw [hXs.length, hXl]; exact Nat.le_trans (Nat.add_le_add_left hl _) (by simp [sizeLine])) fun D3 o3 hD3 ho3 => ?_
      refine ev_spl0 ?_
      have hall : ∀ X ∈ head :: Xs, NoNL X ∧ X.length ≤ 202200 := by
        intro X hX
        rcases List.mem_cons.mp hX with rfl | hX
        · exact ⟨hh, hhl⟩
        · exact hXn X hX
      have q2 : (head :: Xs).length ≤ 31 := by rw [List.length_cons]; omega
      refine ev_join (ys := head :: Xs) (.head _) ho3 (strsAre (.cons ⟨_, rfl⟩ hXs)) ?_ fun t3 => ?_
      · have q := sum_len 202200 _ fun X hX => (hall X hX).2
        have e1 : ("\n" : Str).length = 1 := rfl
        rw [e1]
        omega
      refine then_ret ?_
      have ej : Txt.join "\n" (head :: Xs) = Str.join "\n" (head :: Xs) := PySem.StrLaws.glued_eq_join _ _
      refine ⟨_, ?_, h _ head Xs _ ej (fun X hX => (hall X hX).1) hXl hline ?_⟩
      · walk_at "zsub"
      · rw [ej]
        have q := join_len "\n" 202200 _ fun X hX => (hall X hX).2
        exact Nat.le_trans q (Nat.le_trans (Nat.mul_le_mul q2 (Nat.le_refl _)) (by decide))

/-- the code of a lambda stands -/
def LamC (q : Str) (a : Addr) (rest : Led) : Prop := ∃ o vs t, (a, o) ∈ rest ∧ o.data = .fields vs ∧ vs[1]? = some (.str q t)
theorem codeAmong_other {pos pos' : Pos} {c : Value} (l : List Value) (h : TriplesOk l) (hp : (pos.line == pos'.line && pos.col == pos'.col) = false) : codeAmong pos' (l ++ [rawInt pos.line, rawInt pos.col, c]) = codeAmong pos' l := by
  fun_induction TriplesOk l with
  | case1 =>
    have hp' : ¬ ((pos.line : Int) = pos'.line ∧ (pos.col : Int) = pos'.col) := by
      intro ⟨a, b⟩
      have a' : pos.line = pos'.line := by omega
      have b' : pos.col = pos'.col := by omega
      rw [a', b'] at hp
      simp at hp
    simp only [List.nil_append, rawInt, codeAmong, Bool.and_eq_true, beq_iff_eq]
    rw [if_neg hp']
  | case2 a t b u x rest ih =>
    simp only [List.cons_append, codeAmong]
    split
    · rfl
    · exact ih h
  | case3 l h1 h2 => exact h.elim
/-- the table of the codes of _law_moved's lambdas -/
def TabOk (q : Str) (ps : Array Value) (rest : Led) : Prop := TriplesOk ps.toList ∧ ∀ pos, codeAmong pos ps.toList = none ∨ ∃ a, codeAmong pos ps.toList = some (.ref a) ∧ LamC q a rest
theorem LamC.mono {q : Str} {a : Addr} {rest rest' : Led} (h : LamC q a rest) (hs : ∀ p ∈ rest, p ∈ rest') : LamC q a rest' := let ⟨o, vs, t, x, y⟩ := h; ⟨o, vs, t, hs _ x, y⟩
theorem TabOk.mono {q : Str} {ps : Array Value} {rest rest' : Led} (h : TabOk q ps rest) (hs : ∀ p ∈ rest, p ∈ rest') : TabOk q ps rest' :=
  ⟨h.1, fun pos => (h.2 pos).imp id fun ⟨a, x, y⟩ => ⟨a, x, y.mono hs⟩⟩
theorem ev_lam {c : Cx} {m : Loc} {R : RX} {env : Env} {P : Value → Loc → Led → Prop} {cc T : Addr} {ps : Array Value} {params : Arguments} {body : Expr} {scope : Scope} {pos : Pos} {clos : List (Str × Addr)} {rest core : Led} {q : Str} (C : CodeHd c.base cc T) (hcode : env.code = .ref cc) (hgl : env.globals = mainGlobals) (hq : env.qual ++ "<lambda>" = q) (hne : ∀ p ∈ rest, p.1 ≠ T) (ht : TabOk q ps core) (hs : ∀ p ∈ core, p ∈ rest)
    (hdef : defaultsOf params env = ([], [])) (hcl : closureFor scope env = pure clos)
    (h : ∀ f a ctv pm ps' δ, TabOk q ps' (δ ++ core) → (∀ p ∈ δ, Above p.1 ((T, tabObj ps) :: rest)) → LamC q a (δ ++ core) → (f, kla_obj "<lambda>" q params body scope clos pm a ctv) ∈ δ → P (.ref f) m ((T, tabObj ps') :: (δ ++ rest))) :
    EV c m ((T, tabObj ps) :: rest) (eval (.Lambda params body scope pos) env) P R := by
  subst hq
  rcases ht.2 pos with hn | ⟨a, ha, hL⟩
  · refine ev_post (ev_LambdaNew C hcode hgl (fun _ h => h) hne ht.1 hn hdef hcl fun f c' oc vs t ctv pm hd hv hab hlt => ?_)
    have hab' : Above f ((T, tabObj ps) :: rest) := fun p hp => Nat.lt_trans (hab p hp) hlt
    have e : (ps ++ #[rawInt pos.line, rawInt pos.col, Value.ref c']).toList = ps.toList ++ [rawInt pos.line, rawInt pos.col, Value.ref c'] := by simp
    refine ⟨_, ?_, h f c' ctv pm _ [(f, _), (c', oc)] ⟨by rw [e]; exact TriplesOk_snoc _ _ _ _ ht.1, fun pos' => ?_⟩ ?_ ⟨oc, vs, t, .tail _ (.head _), hd, hv⟩ (.head _)⟩
    · intro p hp
      rcases hp with _ | ⟨_, _ | ⟨_, _ | ⟨_, hp⟩⟩⟩
      · exact .tail _ (.tail _ (.head _))
      · exact .head _
      · exact .tail _ (.head _)
      · exact .tail _ (.tail _ (.tail _ hp))
    · rw [e]
      cases hpp : (pos.line == pos'.line && pos.col == pos'.col) with
      | false =>
        rw [codeAmong_other _ ht.1 hpp]
        exact (ht.2 pos').imp id fun ⟨a, x, y⟩ => ⟨a, x, y.mono fun p hp => .tail _ (.tail _ hp)⟩
      | true =>
        refine .inr ⟨c', ?_, ⟨oc, vs, t, .tail _ (.head _), hd, hv⟩⟩
        have : ∀ l, codeAmong pos' l = codeAmong pos l := by
          have h1 : pos.line = pos'.line := by simp at hpp; exact hpp.1
          have h2 : pos.col = pos'.col := by simp at hpp; exact hpp.2
          intro l
          fun_induction codeAmong pos' l with
          | case1 => rename_i hc; simp only [codeAmong]; rw [if_pos (by rw [h1, h2]; exact hc)]
          | case2 => rename_i hc ih; simp only [codeAmong]; rw [if_neg (by rw [h1, h2]; exact hc)]; exact ih
          | case3 => rename_i hx; unfold codeAmong; split; exact absurd rfl (hx _ _ _ _ _ _); rfl
        rw [this]
        exact codeAmong_snoc _ ht.1 hn
    · intro p hp
      rcases hp with _ | ⟨_, _ | ⟨_, hp⟩⟩
      · exact hab'
      · exact hab
      · cases hp
  · refine ev_post (ev_LambdaHit C hcode hgl (.head _) ht.1 ha hdef hcl fun f ctv pm hab => ⟨_, ?_, h f a ctv pm ps [(f, _)] (ht.mono fun p hp => .tail _ hp) (fun p hp => by cases hp with | head => exact hab | tail _ h => cases h) (hL.mono fun p hp => .tail _ hp) (.head _)⟩)
    intro p hp
    rcases hp with _ | ⟨_, _ | ⟨_, hp⟩⟩
    · exact .tail _ (.head _)
    · exact .head _
    · exact .tail _ (.tail _ hp)

theorem c_check_odd {c : Cx} {m : Loc} {ν : Led} {P : Value → Loc → Led → Prop} {R : RX} {x rt st cp mk : Addr} {nm : Str} {ar sl : Int} {rs : List Row} {r : Row} {vs : List Value} {ort : Obj} {k : Nat} {u : Tok} (hr : Room c 8) (hx : CodeAt ν x nm ar sl rt st cp mk) (hrt : (rt, ort) ∈ ν) (hrt' : TupO ort vs) (hrs : RowsV ν rs vs)
    (hk : rs[k]? = some r) (hk1 : rs.length < 1000) (hg : Odd r) (h : ∀ e h', Rt c ν e h' → R e h') : EV c m ν (call (.ref 144) [.ref x, .int k u]) P R := by
  with_reducible refine hide_goal fun _ toG => ?_
  obtain ⟨dx, es, n, hx1, hx2, hD⟩ := hx
  obtain ⟨v, hkv, hrv⟩ := hrs.get hk
  have hrv0 := hrv
  obtain ⟨b, ob, tn, ps, rfl, hmb, hob, ha⟩ := hrv
  refine toG ?_
  have hk2 : k < 1000 := Nat.lt_trans (List.getElem?_eq_some_iff.mp hk).1 hk1
  have hro := hD.rows
  refine' ev_callR (n := 7) (binds := [("code", .ref x), ("at", .int k u)]) ?ho ?hcd hr ?hb ?hl ?hk ?hc h ?h
  case ho => k_is
  case hcd => k_is
  case hb => exact fun s => BindsTo.of_eq rfl
  case hl => exact locs rfl
  case hk => exact rfl
  case hc => decide
  case h =>
    intro c' hr' _
    dsimp only [bnd]
    refine ev_cons ?_
    refine ev_Assign (h := ?_)
    refine ev_Sub ?_
    refine ev_Attr (h := ?_)
    refine ev_local (h := ?_)
    refine ev_getAttr (h := ?_)
    refine ev_local (h := ?_)
    refine ev_itemTK (h := ?_)
    refine ev_store (h := ?_)
    refine then_next ?_
    refine ev_cons ?_
    refine ev_Assign (h := ?_)
    refine ev_Call (h := ?_)
    refine ev_glob (h := ?_)
    refine ev_cwF_0 (h := ?_)
    refine ev_spl (h := ?_)
    refine ev_local (h := ?_)
    refine ev_spl0 ?_
    exact c_sets_bad (by walk_at "zroom") hrv0 hg fun e h' x => x.rz (by walk_at "zsub")
theorem c_check_row {c : Cx} {m : Loc} {ν : Led} {P : Value → Loc → Led → Prop} {R : RX} {x rt st cp mk : Addr} {nm : Str} {ar sl : Int} {sts : List Str} {nc : Nat} {rs : List Row} {r : Row} {vs : List Value} {k : Nat} {u : Tok} (hr : Room c 8) (hx : CodeIs ν x nm ar sl rt st cp mk sts nc rs vs)
    (hk : rs[k]? = some r) (hk1 : rs.length < 1000) (hnc : nc < 1000) (hg : Fine r)
    (h : RowOk sl rs.length k sts nc r → P .none m ν) (hbad : ¬ RowOk sl rs.length k sts nc r → ∀ e h', Rt c ν e h' → R e h') : EV c m ν (call (.ref 144) [.ref x, .int k u]) P R := by
  with_reducible refine hide_goal fun _ toG => ?_
  obtain ⟨dx, es, n, hx1, hx2, hD⟩ := hx.code
  obtain ⟨ort, hrt, hrt'⟩ := hx.rows
  obtain ⟨ost, wst, hst, hst', hst2⟩ := hx.static
  obtain ⟨ocp, wcp, hcp, hcp', hcp2⟩ := hx.captures
  have hrs := hx.each
  clear hx
  obtain ⟨v, hkv, hrv⟩ := hrs.get hk
  have hrv0 := hrv
  obtain ⟨b, ob, tn, ps, rfl, hmb, hob, ha⟩ := hrv
  have hk2 : k < 1000 := Nat.lt_trans (List.getElem?_eq_some_iff.mp hk).1 hk1
  have h40 : vs.length < 2 ^ 40 := by rw [hrs.length]; omega
  have hc40 : wcp.length < 2 ^ 40 := by rw [hcp2]; omega
  have hro := hD.rows
  have hso := hD.static
  have hco := hD.captures
  obtain ⟨ts, hso2⟩ := hD.slots
  refine toG ?_
  have hat : (k : Int).natAbs.log2 < 1920 := Nat.lt_of_le_of_lt (Nat.log2_le_self _) (by omega)
  have hal := len_str_of_int (k : Int)
  refine ev_post ?_
  refine' ev_callX (¬ RowOk sl rs.length k sts nc r) (n := 7) (binds := [("code", .ref x), ("at", .int k u)]) ?ho ?hcd hr ?hb ?hl ?hk ?hc hbad ?h
  case ho => k_is
  case hcd => k_is
  case hb => exact fun s => BindsTo.of_eq rfl
  case hl => exact locs rfl
  case hk => exact rfl
  case hc => decide
  case h =>
    intro c' hr' _ henv
    dsimp only [bnd]
    refine ev_cons ?_
    refine ev_Assign (h := ?_)
    refine ev_Sub ?_
    refine ev_Attr (h := ?_)
    refine ev_local (h := ?_)
    refine ev_getAttr (h := ?_)
    refine ev_local (h := ?_)
    refine ev_itemTK (h := ?_)
    refine ev_store (h := ?_)
    refine then_next ?_
    refine ev_cons ?_
    refine ev_Assign (h := ?_)
    refine ev_Call (h := ?_)
    refine ev_glob (h := ?_)
    refine ev_cwF_0 (h := ?_)
    refine ev_spl (h := ?_)
    refine ev_local (h := ?_)
    refine ev_spl0 ?_
    refine c_sets_of (by walk_at "zroom") hrv0 hg.shaped fun sv hsv => ?_
    refine ev_store (h := ?_)
    refine then_next ?_
    refine ev_cons ?_
    refine ev_For ?_ (outSame henv) (hs := fun _ => rfl)
    refine ev_BinOp ?_
    refine ev_Call (h := ?_)
    refine ev_glob (h := ?_)
    refine ev_cwF_0 (h := ?_)
    refine ev_spl (h := ?_)
    refine ev_local (h := ?_)
    refine ev_spl0 ?_
    refine c_uses_of (by walk_at "zroom") hrv0 hg.shaped (Nat.le_trans hg.many (by decide)) fun D1 o1 us hD1 ho1 hus => ?_
    refine ev_IfExp ?_
    refine ev_isCompare (h := ?_)
    refine ev_local (h := ?_)
    refine ev_none ?_
    refine ev_isNone ?_
    refine ev_truthyB ?_
    refine kIf_join (fun v m' ν' => ∃ D2 o2 ws, v = .ref D2 ∧ m' = upd (upd (upd (upd noLoc "code" (.ref x)) "at" (.int k u)) "row" (.ref b)) "sets" sv ∧ ν' = (D2, o2) :: (D1, o1) :: ν ∧ Above D2 ν ∧ LstO o2 ws ∧ AllV IntV r.sets.toList ws) ?_ ?_
    · cases hsr : r.sets with
      | none =>
        rw [hsr] at hsv
        obtain rfl : sv = .none := hsv
        refine ite_isT vn_none ?_
        refine ev_List ?_
        refine ev_spl0 ?_
        exact ev_newList (fun D2 hD2 => ⟨D2, _, _, rfl, rfl, rfl, hD2.tail, lstO_mk, .nil⟩) (by decide)
      | some n =>
        rw [hsr] at hsv
        obtain ⟨tz, rfl⟩ := hsv
        refine ite_isF vn_int ?_
        refine ev_List ?_
        refine ev_spl (h := ?_)
        refine ev_local (h := ?_)
        refine ev_spl0 ?_
        exact ev_newList (fun D2 hD2 => ⟨D2, _, _, rfl, rfl, rfl, hD2.tail, lstO_mk, .cons ⟨_, rfl⟩ .nil⟩) (by simp [sizeLine])
    rintro _ _ _ ⟨D2, o2, ws, rfl, rfl, rfl, hD2, ho2, hws⟩
    have hl2 : ws.length ≤ 1 := by
      rw [hws.length]
      cases r.sets with
      | none => exact Nat.zero_le _
      | some _ => exact Nat.le_refl _
    refine ev_addL (by walk_at "zmem") ho1 (.head _) ho2 (by rw [hus.length]; exact Nat.le_trans (Nat.add_le_add hg.many hl2) (by decide)) fun D3 o3 hD3 ho3 => ?_
    refine ev_sub (ν' := (D3, o3) :: ν) ?_ (sub_cons (.head _) fun p hp => .tail _ (.tail _ (.tail _ hp)))
    have hL : AllV IntV (r.uses ++ r.sets.toList) (us ++ ws) := hus.app hws
    have hD3' : Above D3 ν := hD3.tail.tail
    generalize us ++ ws = xs at ho3 hL
    refine ev_iterL (.head _) ho3 fun it oi hit hoi => ?_
    refine ev_forK (yldL ho3) (fun j m₁ ν₁ => ν₁ = (D3, o3) :: ν ∧ (∀ i ∈ (r.uses ++ r.sets.toList).take j, i < sl) ∧ m₁ "code" = some (.ref x) ∧ m₁ "at" = some (.int k u) ∧ m₁ "row" = some (.ref b)) ⟨oi, rfl, hoi⟩ (fun p hp => ltN' (hit p hp)) (.head _) ⟨rfl, (fun _ h => by cases h), by walk_at "zlk", by walk_at "zlk", by walk_at "zlk"⟩ (fun _ h => h) ?_ ?_
    · intro j m₁ ν₁ v δ b' hj zp1 hcl hsrc zp2 _ hB' K1 hK1 hR1
      with_reducible refine hide_goal fun _ toG => ?_
      obtain ⟨rfl, hdone, hm1, hm2, hm3⟩ := zp1
      obtain ⟨hv, rfl⟩ := zp2
      obtain ⟨i, hi, ti, rfl⟩ := hL.at hv
      refine toG ?_
      have hi0 := hg.regs i (List.mem_of_getElem? hi)
      refine ev_assignName ?_
      refine ev_store (h := ?_)
      refine ev_cons ?_
      refine ev_If ?_
      refine ev_isOr ?_
      refine ev_isNot ?_
      refine ev_isPlain (h := ?_)
      refine ev_Call (h := ?_)
      refine ev_bltn (h := ?_)
      refine ev_cwB_0 (h := ?_)
      refine ev_spl (h := ?_)
      refine ev_local (h := ?_)
      refine ev_spl (h := ?_)
      refine ev_bltn (h := ?_)
      refine ev_spl0 ?_
      refine ev_isiInt ?_
      refine ev_truthyB ?_
      refine ite_isF rfl ?_
      refine ev_isOr ?_
      refine ev_isNot ?_
      refine ev_isChain (h := ?_)
      refine ev_int (h := fun _ => ?_)
      refine ev_local (h := ?_)
      refine ev_le ?_
      refine ev_truthyB ?_
      refine ite_isT (decide_eq_true hi0) ?_
      refine ev_Attr (h := ?_)
      refine ev_local (h := ?_)
      refine ev_getAttr (h := ?_)
      refine ev_lt ?_
      refine ev_truthyB ?_
      refine ite_B (b := !decide (i < sl)) (fun hb => ?_) (fun hb => ?_)
      · have hb' : ¬ i < sl := by simpa using hb
        refine ite_T ?_
        refine ev_cons ?_
        refine ev_fault (ν₀ := ν) (by walk_at "zroom") (by walk_at "zbase") (fun _ _ x => ⟨fun ok => hb' (ok.regs i (List.mem_of_getElem? hi)), x⟩) rfl rfl (by with_unfolding_all rfl) (by with_unfolding_all rfl) (by with_unfolding_all rfl) ?_
        refine ev_BinOp ?_
        refine ev_str (h := fun _ => ?_)
        refine ev_Call (h := ?_)
        refine ev_bltn (h := ?_)
        refine ev_cwT_0 (h := ?_)
        refine ev_spl (h := ?_)
        refine ev_local (h := ?_)
        refine ev_spl0 ?_
        refine ev_strI hat fun _ => ?_
        exact ev_addS (by have e1 : ("no such register in row " : Str).length = 24 := rfl; omega) fun _ => ⟨_, _, rfl, by walk_at "zbase"⟩
      · have hb' : i < sl := by simpa using hb
        refine ev_isOr0 ?_
        refine ite_F ?_
        refine ev_nil ?_
        refine then_next ?_
        refine ev_nil ?_
        refine (hK1 ⟨(D3, o3) :: ν, by walk_at "zsub", hcl, hsrc, rfl, ?_, by walk_at "zlk", by walk_at "zlk", by walk_at "zlk"⟩).1
        intro i2 h2
        rw [List.take_add_one, hi] at h2
        rcases List.mem_append.mp h2 with h2 | h2
        · exact hdone i2 h2
        · simp at h2; subst h2; exact hb'
    rintro m₁ ν₁ ⟨rfl, hregs, hm1, hm2, hm3⟩ _ _
    rw [hL.length, List.take_length] at hregs
    refine then_next ?_
    refine ev_sub (ν' := ν) ?_ (fun p hp => .tail _ hp)
    refine ev_cons (ev_For ?_ (outSame henv) (hs := fun _ => rfl))
    refine ev_Call (h := ?_)
    refine ev_glob (h := ?_)
    refine ev_cwF_0 (h := ?_)
    refine ev_spl (h := ?_)
    refine ev_Attr (h := ?_)
    refine ev_local (h := ?_)
    refine ev_getAttr (h := ?_)
    refine ev_spl (h := ?_)
    refine ev_local (h := ?_)
    refine ev_spl0 ?_
    refine c_followers (by walk_at "zroom") hrt hrt' hrs hk hk2 hg.shaped fun D4 o4 gs hD4 ho4 hgs => ?_
    refine ev_iterL (.head _) ho4 fun it2 oi2 hit2 hoi2 => ?_
    refine ev_forK (yldL ho4) (fun j m₁ ν₁ => ν₁ = (D4, o4) :: ν ∧ (∀ i ∈ (fol r k).take j, i < rs.length) ∧ m₁ "code" = some (.ref x) ∧ m₁ "at" = some (.int k u) ∧ m₁ "row" = some (.ref b)) ⟨oi2, rfl, hoi2⟩ (fun p hp => ltN' (hit2 p hp)) (.head _) ⟨rfl, (fun _ h => by cases h), hm1, hm2, hm3⟩ (fun _ h => h) ?_ ?_
    · intro j m₂ ν₁ v δ b' hj zp3 hcl hsrc zp4 _ hB' K2 hK2 hR2
      with_reducible refine hide_goal fun _ toG => ?_
      obtain ⟨rfl, hdone, hm1, hm2, hm3⟩ := zp3
      obtain ⟨hv, rfl⟩ := zp4
      obtain ⟨i, hi, ti, rfl⟩ := hgs.at hv
      refine toG ?_
      have hi0 := hg.fol k i (List.mem_of_getElem? hi)
      refine ev_assignName ?_
      refine ev_store (h := ?_)
      refine ev_cons ?_
      refine ev_If ?_
      refine ev_isOr ?_
      refine ev_isNot ?_
      refine ev_isPlain (h := ?_)
      refine ev_Call (h := ?_)
      refine ev_bltn (h := ?_)
      refine ev_cwB_0 (h := ?_)
      refine ev_spl (h := ?_)
      refine ev_local (h := ?_)
      refine ev_spl (h := ?_)
      refine ev_bltn (h := ?_)
      refine ev_spl0 ?_
      refine ev_isiInt ?_
      refine ev_truthyB ?_
      refine ite_isF rfl ?_
      refine ev_isOr ?_
      refine ev_isNot ?_
      refine ev_isChain (h := ?_)
      refine ev_int (h := fun _ => ?_)
      refine ev_local (h := ?_)
      refine ev_le ?_
      refine ev_truthyB ?_
      refine ite_isT (decide_eq_true hi0) ?_
      refine ev_Call (h := ?_)
      refine ev_bltn (h := ?_)
      refine ev_cwB_0 (h := ?_)
      refine ev_spl (h := ?_)
      refine ev_Attr (h := ?_)
      refine ev_local (h := ?_)
      refine ev_getAttr (h := ?_)
      refine ev_spl0 ?_
      refine ev_lenT (h := fun _ => ?_)
      refine ev_lt ?_
      refine ev_truthyB ?_
      refine ite_B (b := !decide (i < vs.length)) (fun hb => ?_) (fun hb => ?_)
      · have hb' : ¬ i < rs.length := by rw [← hrs.length]; simpa using hb
        refine ite_T ?_
        refine ev_cons ?_
        refine ev_fault (ν₀ := ν) (by walk_at "zroom") (by walk_at "zbase") (fun _ _ x => ⟨fun ok => hb' (ok.fols i (List.mem_of_getElem? hi)), x⟩) rfl rfl (by with_unfolding_all rfl) (by with_unfolding_all rfl) (by with_unfolding_all rfl) ?_
        refine ev_BinOp ?_
        refine ev_str (h := fun _ => ?_)
        refine ev_Call (h := ?_)
        refine ev_bltn (h := ?_)
        refine ev_cwT_0 (h := ?_)
        refine ev_spl (h := ?_)
        refine ev_local (h := ?_)
        refine ev_spl0 ?_
        refine ev_strI hat fun _ => ?_
        exact ev_addS (by have e1 : ("no row to go to behind row " : Str).length = 27 := rfl; omega) fun _ => ⟨_, _, rfl, by walk_at "zbase"⟩
      · have hb' : i < rs.length := by rw [← hrs.length]; simpa using hb
        refine ev_isOr0 ?_
        refine ite_F ?_
        refine ev_nil ?_
        refine then_next ?_
        refine ev_nil ?_
        refine (hK2 ⟨(D4, o4) :: ν, by walk_at "zsub", hcl, hsrc, rfl, ?_, by walk_at "zlk", by walk_at "zlk", by walk_at "zlk"⟩).1
        intro i2 h2
        rw [List.take_add_one, hi] at h2
        rcases List.mem_append.mp h2 with h2 | h2
        · exact hdone i2 h2
        · simp at h2; subst h2; exact hb'
    rintro m₂ ν₁ ⟨rfl, hfols, hm1, hm2, hm3⟩ _ _
    rw [hgs.length, List.take_length] at hfols
    refine then_next ?_
    refine ev_sub (ν' := ν) ?_ (fun p hp => .tail _ hp)
    refine ev_consC (r.name = "static" → statB sts r = true) (fun _ hc => ?_) fun hstat => ev_consC (r.name = "capture" → captB nc r = true) (fun _ hc => ?_) fun hcapt => ev_consC (r.name = "splat" → splatB r = true) (fun _ hc => ?_) fun hspl => ev_consC (r.name = "kwcall" → kwB r = true) (fun _ hc => ?_) fun hkwb => ?_
    · refine ev_If ?_
      refine ev_isAnd ?_
      refine ev_isCompare (h := ?_)
      refine ev_Sub ?_
      refine ev_local (h := ?_)
      refine ev_int (h := fun _ => ?_)
      refine ev_itemTN (h := ?_)
      refine ev_str (h := fun _ => ?_)
      refine ev_eqS ?_
      refine ev_truthyB ?_
      refine ite_B (fun hb => ?_) (fun hb => ?_)
      · have hn1 : r.name = "static" := by simpa using hb
        with_reducible refine hide_goal fun _ toG => ?_
        obtain ⟨d, x2, hp, hxl⟩ := hg.stat hn1
        rw [hp] at ha
        obtain ⟨⟩ | ⟨x1, ⟨⟩ | ⟨x3, ⟨⟩⟩⟩ := ha
        obtain ⟨tt, rfl⟩ := x3
        refine toG ?_
        have est : statB sts r = sts.any (· == x2) := by unfold statB; rw [hp]
        refine ev_isAnd ?_
        refine ev_isCompare (h := ?_)
        refine ev_Sub ?_
        refine ev_local (h := ?_)
        refine ev_int (h := fun _ => ?_)
        refine ev_itemTN (h := ?_)
        refine ev_Attr (h := ?_)
        refine ev_local (h := ?_)
        refine ev_getAttr (h := ?_)
        refine ev_notInTupL (by walk_at "zmem") hst' hst2 ?_
        refine ev_truthyB ?_
        refine ite_B (fun hb2 => ?_) (fun hb2 => ?_)
        · have no : ¬ statB sts r = true := by rw [est]; intro q; rw [q] at hb2; cases hb2
          refine ev_isAnd0 ?_
          refine ite_T ?_
          refine ev_cons ?_
          refine ev_fault (ν₀ := ν) (by walk_at "zroom") (by walk_at "zbase") (fun _ _ x => ⟨fun ok => no (ok.stat hn1), x⟩) rfl rfl (by with_unfolding_all rfl) (by with_unfolding_all rfl) (by with_unfolding_all rfl) ?_
          refine ev_BinOp ?_
          refine ev_str (h := fun _ => ?_)
          refine ev_Call (h := ?_)
          refine ev_bltn (h := ?_)
          refine ev_cwT_0 (h := ?_)
          refine ev_spl (h := ?_)
          refine ev_Sub ?_
          refine ev_local (h := ?_)
          refine ev_int (h := fun _ => ?_)
          refine ev_itemTN (h := ?_)
          refine ev_spl0 ?_
          refine ev_strS ?_
          exact ev_addS (by have e1 : ("no static variable " : Str).length = 19 := rfl; omega) fun _ => ⟨_, _, rfl, by walk_at "zbase"⟩
        · refine ite_F ?_
          refine ev_nil ?_
          exact hc (fun _ => by rw [est]; simpa using hb2)
      · refine ite_F ?_
        refine ev_nil ?_
        exact hc (fun e => absurd hb (by simp [e]))
    · refine ev_If ?_
      refine ev_isAnd ?_
      refine ev_isCompare (h := ?_)
      refine ev_Sub ?_
      refine ev_local (h := ?_)
      refine ev_int (h := fun _ => ?_)
      refine ev_itemTN (h := ?_)
      refine ev_str (h := fun _ => ?_)
      refine ev_eqS ?_
      refine ev_truthyB ?_
      refine ite_B (fun hb => ?_) (fun hb => ?_)
      · have hn1 : r.name = "capture" := by simpa using hb
        with_reducible refine hide_goal fun _ toG => ?_
        obtain ⟨d, n2, hp, hn0, hn9⟩ := hg.capt hn1
        rw [hp] at ha
        obtain ⟨⟩ | ⟨x1, ⟨⟩ | ⟨x3, ⟨⟩⟩⟩ := ha
        obtain ⟨tt, rfl⟩ := x3
        refine toG ?_
        have est : captB nc r = decide (n2 < nc) := by unfold captB; rw [hp]
        refine ev_isAnd ?_
        refine ev_isNot ?_
        refine ev_isChain (h := ?_)
        refine ev_int (h := fun _ => ?_)
        refine ev_Sub ?_
        refine ev_local (h := ?_)
        refine ev_int (h := fun _ => ?_)
        refine ev_itemTN (h := ?_)
        refine ev_le ?_
        refine ev_truthyB ?_
        refine ite_isT (decide_eq_true hn0) ?_
        refine ev_Call (h := ?_)
        refine ev_bltn (h := ?_)
        refine ev_cwB_0 (h := ?_)
        refine ev_spl (h := ?_)
        refine ev_Attr (h := ?_)
        refine ev_local (h := ?_)
        refine ev_getAttr (h := ?_)
        refine ev_spl0 ?_
        refine ev_lenT (h := fun _ => ?_)
        refine ev_lt ?_
        refine ev_truthyB ?_
        refine ite_B (b := !decide (n2 < wcp.length)) (fun hb2 => ?_) (fun hb2 => ?_)
        · have no : ¬ captB nc r = true := by rw [est, ← hcp2]; simpa using hb2
          refine ev_isAnd0 ?_
          refine ite_T ?_
          refine ev_cons ?_
          refine ev_fault (ν₀ := ν) (by walk_at "zroom") (by walk_at "zbase") (fun _ _ x => ⟨fun ok => no (ok.capt hn1), x⟩) rfl rfl (by with_unfolding_all rfl) (by with_unfolding_all rfl) (by with_unfolding_all rfl) ?_
          refine ev_BinOp ?_
          refine ev_str (h := fun _ => ?_)
          refine ev_Call (h := ?_)
          refine ev_bltn (h := ?_)
          refine ev_cwT_0 (h := ?_)
          refine ev_spl (h := ?_)
          refine ev_Sub ?_
          refine ev_local (h := ?_)
          refine ev_int (h := fun _ => ?_)
          refine ev_itemTN (h := ?_)
          refine ev_spl0 ?_
          refine ev_strI (Nat.lt_of_le_of_lt (Nat.log2_le_self _) (by omega)) fun _ => ?_
          have hnl := len_str_of_int n2
          exact ev_addS (by have e1 : ("nothing is held at " : Str).length = 19 := rfl; omega) fun _ => ⟨_, _, rfl, by walk_at "zbase"⟩
        · refine ite_F ?_
          refine ev_nil ?_
          exact hc (fun _ => by rw [est, ← hcp2]; simpa using hb2)
      · refine ite_F ?_
        refine ev_nil ?_
        exact hc (fun e => absurd hb (by simp [e]))
    · refine ev_If ?_
      refine ev_isAnd ?_
      refine ev_isCompare (h := ?_)
      refine ev_Sub ?_
      refine ev_local (h := ?_)
      refine ev_int (h := fun _ => ?_)
      refine ev_itemTN (h := ?_)
      refine ev_str (h := fun _ => ?_)
      refine ev_eqS ?_
      refine ev_truthyB ?_
      refine ite_B (fun hb => ?_) (fun hb => ?_)
      · have hn1 : r.name = "splat" := by simpa using hb
        with_reducible refine hide_goal fun _ toG => ?_
        obtain ⟨d, sx, a1, b1, hp, la, lb⟩ := hg.splat hn1
        rw [hp] at ha
        obtain ⟨⟩ | ⟨x1, ⟨⟩ | ⟨x2, ⟨⟩ | ⟨x3, ⟨⟩ | ⟨x4, ⟨⟩⟩⟩⟩⟩ := ha
        obtain ⟨b3, o3', vs3, rfl, hm3', ho3', ha3⟩ := x3
        obtain ⟨b4, o4', vs4, rfl, hm4', ho4', ha4⟩ := x4
        refine toG ?_
        have l3 : vs3.length = a1.length := (ints_at ha3).length
        have l4 : vs4.length = b1.length := ha4.length
        have h3c : vs3.length < 2 ^ 40 := by omega
        have h4c : vs4.length < 2 ^ 40 := by omega
        have est : splatB r = (a1.length == b1.length) := by unfold splatB; rw [hp]
        refine ev_isAnd ?_
        refine ev_isCompare (h := ?_)
        refine ev_Call (h := ?_)
        refine ev_bltn (h := ?_)
        refine ev_cwB_0 (h := ?_)
        refine ev_spl (h := ?_)
        refine ev_Sub ?_
        refine ev_local (h := ?_)
        refine ev_int (h := fun _ => ?_)
        refine ev_itemTN (h := ?_)
        refine ev_spl0 ?_
        refine ev_lenT (h := fun _ => ?_)
        refine ev_Call (h := ?_)
        refine ev_bltn (h := ?_)
        refine ev_cwB_0 (h := ?_)
        refine ev_spl (h := ?_)
        refine ev_Sub ?_
        refine ev_local (h := ?_)
        refine ev_int (h := fun _ => ?_)
        refine ev_itemTN (h := ?_)
        refine ev_spl0 ?_
        refine ev_lenT (h := fun _ => ?_)
        refine ev_ne ?_
        refine ev_truthyB ?_
        refine ite_B (fun hb2 => ?_) (fun hb2 => ?_)
        · have no : ¬ splatB r = true := by rw [est, ← l3, ← l4]; simp at hb2 ⊢; omega
          refine ev_isAnd0 ?_
          refine ite_T ?_
          refine ev_cons ?_
          refine ev_fault (ν₀ := ν) (by walk_at "zroom") (by walk_at "zbase") (fun _ _ x => ⟨fun ok => no (ok.splat hn1), x⟩) rfl rfl (by with_unfolding_all rfl) (by with_unfolding_all rfl) (by with_unfolding_all rfl) ?_
          refine ev_BinOp ?_
          refine ev_str (h := fun _ => ?_)
          refine ev_Call (h := ?_)
          refine ev_bltn (h := ?_)
          refine ev_cwT_0 (h := ?_)
          refine ev_spl (h := ?_)
          refine ev_local (h := ?_)
          refine ev_spl0 ?_
          refine ev_strI hat fun _ => ?_
          exact ev_addS (by have e1 : ("marks of splatted arguments in row " : Str).length = 35 := rfl; omega) fun _ => ⟨_, _, rfl, by walk_at "zbase"⟩
        · refine ite_F ?_
          refine ev_nil ?_
          exact hc (fun _ => by rw [est, ← l3, ← l4]; simp at hb2 ⊢; omega)
      · refine ite_F ?_
        refine ev_nil ?_
        exact hc (fun e => absurd hb (by simp [e]))
    · refine ev_If ?_
      refine ev_isAnd ?_
      refine ev_isCompare (h := ?_)
      refine ev_Sub ?_
      refine ev_local (h := ?_)
      refine ev_int (h := fun _ => ?_)
      refine ev_itemTN (h := ?_)
      refine ev_str (h := fun _ => ?_)
      refine ev_eqS ?_
      refine ev_truthyB ?_
      refine ite_B (fun hb => ?_) (fun hb => ?_)
      · have hn1 : r.name = "kwcall" := by simpa using hb
        with_reducible refine hide_goal fun _ toG => ?_
        obtain ⟨d, sx, a1, b1, e1, hp, la, lb⟩ := hg.kw hn1
        rw [hp] at ha
        obtain ⟨⟩ | ⟨x1, ⟨⟩ | ⟨x2, ⟨⟩ | ⟨x3, ⟨⟩ | ⟨x4, ⟨⟩ | ⟨x5, ⟨⟩⟩⟩⟩⟩⟩ := ha
        obtain ⟨b3, o3', vs3, rfl, hm3', ho3', ha3⟩ := x3
        obtain ⟨b4, o4', vs4, rfl, hm4', ho4', ha4⟩ := x4
        refine toG ?_
        have l3 : vs3.length = a1.length := ha3.length
        have l4 : vs4.length = b1.length := (ints_at ha4).length
        have h3c : vs3.length < 2 ^ 40 := by omega
        have h4c : vs4.length < 2 ^ 40 := by omega
        have est : kwB r = (a1.length == b1.length) := by unfold kwB; rw [hp]
        refine ev_isAnd ?_
        refine ev_isCompare (h := ?_)
        refine ev_Call (h := ?_)
        refine ev_bltn (h := ?_)
        refine ev_cwB_0 (h := ?_)
        refine ev_spl (h := ?_)
        refine ev_Sub ?_
        refine ev_local (h := ?_)
        refine ev_int (h := fun _ => ?_)
        refine ev_itemTN (h := ?_)
        refine ev_spl0 ?_
        refine ev_lenT (h := fun _ => ?_)
        refine ev_Call (h := ?_)
        refine ev_bltn (h := ?_)
        refine ev_cwB_0 (h := ?_)
        refine ev_spl (h := ?_)
        refine ev_Sub ?_
        refine ev_local (h := ?_)
        refine ev_int (h := fun _ => ?_)
        refine ev_itemTN (h := ?_)
        refine ev_spl0 ?_
        refine ev_lenT (h := fun _ => ?_)
        refine ev_ne ?_
        refine ev_truthyB ?_
        refine ite_B (fun hb2 => ?_) (fun hb2 => ?_)
        · have no : ¬ kwB r = true := by rw [est, ← l3, ← l4]; simp at hb2 ⊢; omega
          refine ev_isAnd0 ?_
          refine ite_T ?_
          refine ev_cons ?_
          refine ev_fault (ν₀ := ν) (by walk_at "zroom") (by walk_at "zbase") (fun _ _ x => ⟨fun ok => no (ok.kw hn1), x⟩) rfl rfl (by with_unfolding_all rfl) (by with_unfolding_all rfl) (by with_unfolding_all rfl) ?_
          refine ev_BinOp ?_
          refine ev_str (h := fun _ => ?_)
          refine ev_Call (h := ?_)
          refine ev_bltn (h := ?_)
          refine ev_cwT_0 (h := ?_)
          refine ev_spl (h := ?_)
          refine ev_local (h := ?_)
          refine ev_spl0 ?_
          refine ev_strI hat fun _ => ?_
          exact ev_addS (by have e1 : ("names of arguments in row " : Str).length = 26 := rfl; omega) fun _ => ⟨_, _, rfl, by walk_at "zbase"⟩
        · refine ite_F ?_
          refine ev_nil ?_
          exact hc (fun _ => by rw [est, ← l3, ← l4]; simp at hb2 ⊢; omega)
      · refine ite_F ?_
        refine ev_nil ?_
        exact hc (fun e => absurd hb (by simp [e]))
    · refine ev_nil ?_
      exact ⟨_, fun p hp => hp, h ⟨hregs, hfols, hstat, hcapt, hspl, hkwb⟩⟩

/-- what a row of leave tells -/
def leaves (r : Row) : Int := match r.parts with | [.x (.one (.int n))] => n | _ => 0
def behindD (r : Row) (d : Int) : Int := if r.name = "enter" then d + 1 else if r.name = "leave" then d - leaves r else d
def toldD (r : Row) (k : Nat) (d g : Int) : Int := if r.name = "enter" ∧ g ≠ (k : Int) + 1 then d else behindD r d
/-- row k is reached with d handlers open -/
inductive RchD (rs : List Row) : Nat → Int → Prop
  | zero : RchD rs 0 0
  | step {k g : Nat} {d : Int} {r : Row} : RchD rs k d → rs[k]? = some r → (g : Int) ∈ fol r k → RchD rs g (toldD r k d g)
/-- the handlers are right -/
structure HOk (rs : List Row) : Prop where
  one : ∀ k d d', RchD rs k d → RchD rs k d' → d = d'
  leave : ∀ k d r, RchD rs k d → rs[k]? = some r → r.name = "leave" → leaves r ≤ d
theorem AllV.unsnoc {α : Type} {S : α → Value → Prop} : ∀ {as : List α} {vs : List Value}, AllV S as vs → as ≠ [] → ∃ as' a vs' v, as = as' ++ [a] ∧ vs = vs' ++ [v] ∧ AllV S as' vs' ∧ S a v
  | _, _, .nil, h => absurd rfl h
  | _, _, .cons (a := a) (v := v) (as := as) (vs := vs) x r, _ => by
    cases r with
    | nil => exact ⟨[], a, [], v, rfl, rfl, .nil, x⟩
    | cons y r' =>
      with_reducible refine hide_goal fun _ toG => ?_
      obtain ⟨as', a', vs', v', e1, e2, h1, h2⟩ := (AllV.cons y r').unsnoc (by simp)
      refine toG ?_
      exact ⟨a :: as', a', v :: vs', v', by rw [e1]; rfl, by rw [e2]; rfl, .cons x h1, h2⟩
/-- what stands at the head of depths_of's loop -/
structure DepI (rs : List Row) (kvs : List (Int × Value)) (W : List (Int × Int)) : Prop where
  sound : ∀ k v, valueAt kvs k = some v → ∃ (n : Nat) (d : Int) (t : Tok), k = n ∧ v = .int d t ∧ RchD rs n d
  wait : ∀ p ∈ W, ∃ n : Nat, p.1 = n ∧ n < rs.length ∧ RchD rs n p.2
  closed : ∀ (n : Nat) r d t, valueAt kvs n = some (.int d t) → rs[n]? = some r → (r.name = "leave" → leaves r ≤ d) ∧ ∀ g ∈ fol r n, (∃ t, valueAt kvs g = some (.int (toldD r n d g) t)) ∨ (g, toldD r n d g) ∈ W
  zero : (∃ t, valueAt kvs 0 = some (.int 0 t)) ∨ ((0 : Int), (0 : Int)) ∈ W
  size : kvs.length + unv rs.length kvs ≤ rs.length
theorem DepI.done {rs : List Row} {kvs : List (Int × Value)} (h : DepI rs kvs []) : HOk rs := by
  have all : ∀ k d, RchD rs k d → ∃ t, valueAt kvs k = some (.int d t) := by
    intro k d hk
    induction hk with
    | zero => rcases h.zero with x | x; exact x; cases x
    | step hk hr hg ih =>
      obtain ⟨t, ih⟩ := ih
      rcases (h.closed _ _ _ _ ih hr).2 _ hg with x | x
      · exact x
      · cases x
  refine ⟨fun k d d' h1 h2 => ?_, fun k d r h1 hr hn => ?_⟩
  · with_reducible refine hide_goal fun _ toG => ?_
    obtain ⟨t1, e1⟩ := all k d h1
    obtain ⟨t2, e2⟩ := all k d' h2
    refine toG ?_
    rw [e1] at e2
    cases e2
    rfl
  · obtain ⟨t1, e1⟩ := all k d h1
    exact (h.closed _ _ _ _ e1 hr).1 hn
theorem DepI.drop {rs : List Row} {kvs : List (Int × Value)} {W : List (Int × Int)} {a dd : Int} {t : Tok} (h : DepI rs kvs (W ++ [(a, dd)])) (hp : valueAt kvs a = some (.int dd t)) : DepI rs kvs W := by
  have back : ∀ g x, (∃ t, valueAt kvs g = some (.int x t)) ∨ (g, x) ∈ W ++ [(a, dd)] → (∃ t, valueAt kvs g = some (.int x t)) ∨ (g, x) ∈ W := by
    rintro g x (y | hq)
    · exact .inl y
    · rcases List.mem_append.mp hq with hq | hq
      · exact .inr hq
      · rw [List.mem_singleton] at hq; cases hq; exact .inl ⟨t, hp⟩
  exact ⟨h.sound, fun q hq => h.wait q (List.mem_append_left _ hq), fun n r d t e hr => ⟨(h.closed n r d t e hr).1, fun g hg => back g _ ((h.closed n r d t e hr).2 g hg)⟩, back 0 0 h.zero, h.size⟩
theorem DepI.visit {rs : List Row} {kvs : List (Int × Value)} {W : List (Int × Int)} {a : Nat} {dd : Int} {r : Row} {t : Tok} (h : DepI rs kvs (W ++ [((a : Int), dd)])) (hn : valueAt kvs a = none) (ha : rs[a]? = some r) (hra : RchD rs a dd) (hl : r.name = "leave" → leaves r ≤ dd) (hgs : ∀ g ∈ fol r a, 0 ≤ g ∧ g < rs.length) :
    DepI rs (kvs ++ [((a : Int), Value.int dd t)]) (W ++ (fol r a).map fun g => (g, toldD r a dd g)) ∧ unv rs.length (kvs ++ [((a : Int), Value.int dd t)]) < unv rs.length kvs := by
  have va := (valueAt_new (v := Value.int dd t) hn).2
  have lt := unv_lt (v := Value.int dd t) (List.getElem?_eq_some_iff.mp ha).1 hn
  have here : valueAt (kvs ++ [((a : Int), Value.int dd t)]) a = some (.int dd t) := by rw [va, if_pos rfl]
  have some1 : ∀ g v, valueAt kvs g = some v → valueAt (kvs ++ [((a : Int), Value.int dd t)]) g = some v := by
    intro g v hg
    rw [va, if_neg]
    · exact hg
    · rintro rfl; rw [hn] at hg; cases hg
  have back : ∀ g x, (∃ t, valueAt kvs g = some (.int x t)) ∨ (g, x) ∈ W ++ [((a : Int), dd)] → (∃ t', valueAt (kvs ++ [((a : Int), Value.int dd t)]) g = some (.int x t')) ∨ (g, x) ∈ W ++ (fol r a).map fun g => (g, toldD r a dd g) := by
    rintro g x (⟨t', y⟩ | hq)
    · exact .inl ⟨t', some1 g _ y⟩
    · rcases List.mem_append.mp hq with hq | hq
      · exact .inr (List.mem_append_left _ hq)
      · rw [List.mem_singleton] at hq; cases hq; exact .inl ⟨t, here⟩
  refine ⟨⟨fun k v e => ?_, fun q hq => ?_, fun n r' d t' e hr' => ?_, back 0 0 h.zero, ?_⟩, lt⟩
  · rw [va] at e
    split at e
    · rename_i hk
      cases e
      exact ⟨a, dd, _, hk, rfl, hra⟩
    · exact h.sound k v e
  · rcases List.mem_append.mp hq with hq | hq
    · exact h.wait q (List.mem_append_left _ hq)
    · with_reducible refine hide_goal fun _ toG => ?_
      obtain ⟨g, hg, rfl⟩ := List.mem_map.mp hq
      obtain ⟨h0, h1⟩ := hgs g hg
      obtain ⟨n, rfl⟩ := Int.eq_ofNat_of_zero_le h0
      refine toG ?_
      exact ⟨n, rfl, by omega, .step hra ha hg⟩
  · by_cases hna : n = a
    · subst hna
      rw [ha] at hr'
      cases hr'
      rw [here] at e
      cases e
      exact ⟨hl, fun g hg => .inr (List.mem_append_right _ (List.mem_map_of_mem hg))⟩
    · rw [va, if_neg (by omega)] at e
      exact ⟨(h.closed n r' d t' e hr').1, fun g hg => back g _ ((h.closed n r' d t' e hr').2 g hg)⟩
  · have := h.size
    simp only [List.length_append, List.length_singleton]
    omega
theorem behind_cases {r : Row} (hg : Fine r) {d : Int} (hl : r.name = "leave" → leaves r ≤ d) : (r.name = "enter" ∧ behindD r d = d + 1) ∨ (r.name ≠ "enter" ∧ r.name ≠ "leave" ∧ behindD r d = d) ∨ (r.name = "leave" ∧ ∃ n, r.parts = [.x (.one (.int n))] ∧ 1 ≤ n ∧ n ≤ d ∧ behindD r d = d - n) := by
  unfold behindD
  by_cases h1 : r.name = "enter"
  · exact .inl ⟨h1, by rw [if_pos h1]⟩
  · by_cases h2 : r.name = "leave"
    · obtain ⟨n, hp, hn⟩ := hg.leave h2
      have e : leaves r = n := by unfold leaves; rw [hp]
      exact .inr (.inr ⟨h2, n, hp, hn, e ▸ hl h2, by rw [if_neg h1, if_pos h2, e]⟩)
    · exact .inr (.inl ⟨h1, h2, by rw [if_neg h1, if_neg h2]⟩)
theorem fol_enter {r : Row} {k : Nat} {n : Int} (h : r.name = "enter") (hp : r.parts = [.g n]) : fol r k = [(k : Int) + 1, n] := by
  unfold fol Row.goals
  rw [h, hp]
  rfl
theorem c_depths_of {c : Cx} {m : Loc} {ν : Led} {P : Value → Loc → Led → Prop} {R : RX} {x rt st cp mk : Addr} {nm : Str} {ar sl : Int} {rs : List Row} {vs : List Value} {ort : Obj} (hr : Room c 14) (hx : CodeAt ν x nm ar sl rt st cp mk) (hrt : (rt, ort) ∈ ν) (hrt' : TupO ort vs) (hrs : RowsV ν rs vs)
    (hk1 : rs.length < 1000) (hk0 : 0 < rs.length) (hg : ∀ k r, rs[k]? = some r → Fine r ∧ ∀ g ∈ fol r k, 0 ≤ g ∧ g < rs.length)
    (h : HOk rs → ∀ d o, Above d ν → P (.ref d) m ((d, o) :: ν)) (hbad : ¬ HOk rs → ∀ e h', Rt c ν e h' → R e h') : EV c m ν (call (.ref 158) [.ref x]) P R := by
  with_reducible refine hide_goal fun _ toG => ?_
  obtain ⟨dx, es, n, hx1, hx2, hD⟩ := hx
  refine toG ?_
  have h40 : vs.length < 2 ^ 40 := by rw [hrs.length]; omega
  have hro := hD.rows
  refine ev_post ?_
  refine' ev_callX (¬ HOk rs) (n := 13) (binds := [("code", .ref x)]) ?ho ?hcd hr ?hb ?hl ?hk ?hc hbad ?h
  case ho => k_is
  case hcd => k_is
  case hb => exact fun s => BindsTo.of_eq rfl
  case hl => exact locs rfl
  case hk => exact rfl
  case hc => decide
  case h =>
    intro c' hr' hcw henv
    dsimp only [bnd]
    refine ev_cons ?_
    refine ev_AssignSwap2 (h := ?_)
    refine ev_Tuple ?_
    refine ev_spl (h := ?_)
    refine ev_newDict fun d od hd hlo hod => ?_
    refine ev_spl (h := ?_)
    refine ev_List ?_
    refine ev_spl (h := ?_)
    refine ev_Tuple ?_
    refine ev_spl (h := ?_)
    refine ev_int (h := fun _ => ?_)
    refine ev_spl (h := ?_)
    refine ev_int (h := fun _ => ?_)
    refine ev_spl0 ?_
    refine ev_newTuple (fun t0 ht0 => ?_) (by simp [sizeLine])
    refine ev_spl0 ?_
    refine ev_newList (fun wl hwl => ?_) (by simp [sizeLine])
    refine ev_spl0 ?_
    refine ev_newTuple (fun T hT => ?_) (by simp [sizeLine])
    refine ⟨T, _, _, _, rfl, .head _, tupO_mk, ?_⟩
    refine ev_store (h := ?_)
    refine ev_store (h := ?_)
    refine then_next ?_
    refine ev_cons ?_
    have hdn : ∀ p ∈ ν, p.1 ≠ d := hd.ne
    have hwd : wl ≠ d := gtN (hwl _ (.tail _ (.head _)))
    have hwn : ∀ p ∈ ν, p.1 ≠ wl := hwl.tail.tail.ne
    have hunv : unv rs.length [] ≤ rs.length := Nat.le_trans (List.length_filter_le _ _) (by rw [List.length_range]; exact Nat.le_refl _)
    refine ev_WhileK (fun j m₁ ν₁ => ∃ kvs od wo δ ws W, (∀ p ∈ (d, od) :: (wl, wo) :: (δ ++ ν), p ∈ ν₁) ∧ DicO c' od kvs ∧ LstO wo ws ∧ AllV (PairV δ) W ws ∧ (∀ p ∈ δ, p.1 ≠ d) ∧ (∀ p ∈ δ, p.1 ≠ wl) ∧ DepI rs kvs W ∧ j = W.length + 7 * unv rs.length kvs ∧ j ≤ 7 * rs.length + 1 ∧ m₁ "code" = some (.ref x) ∧ m₁ "found" = some (.ref d) ∧ m₁ "waiting" = some (.ref wl)) (1 + 7 * unv rs.length []) ?_ ?_ (outSame henv)
    · refine ⟨[], od, _, [(t0, _)], [.ref t0], [(0, 0)], by walk_at "zsub", hod, lstO_mk, .cons ⟨t0, _, _, _, rfl, .head _, tupO_mk⟩ .nil, ne_cons (gtN ht0.head) ne_nil, ne_cons (ltN' hwl.head) ne_nil, ⟨fun k v e => (by cases e), fun p hp => ?_, fun n r d t e => (by cases e), .inr (.head _), by simpa using hunv⟩, rfl, by omega, by walk_at "zlk", by walk_at "zlk", by walk_at "zlk"⟩
      rw [List.mem_singleton] at hp
      subst hp
      exact ⟨0, rfl, hk0, .zero⟩
    · intro j m₁ ν₁ zp1 K1 N1 hK1 hR1 hN1
      with_reducible refine hide_goal fun _ toG => ?_
      obtain ⟨kvs, od, wo, δ, ws, W, hsub, hod, hwo, hW, hδd, hδw, hI, hj, hj1, hm1, hm2, hm3⟩ := zp1
      refine toG ?_
      refine ev_sub ?_ hsub
      have hWl : W.length ≤ 7001 := by omega
      refine ev_isCompare (h := ?_)
      refine ev_local (h := ?_)
      refine ev_List ?_
      refine ev_spl0 ?_
      refine ev_newList (fun e0 he0 => ?_) (by decide)
      refine ev_neW (l := W) (by walk_at "zmem") hwo (hW.mono fun p v y => y.mono (KeepT.of (by walk_at "zsub"))) (.head _) lstO_mk (by walk_at "zroom") ?_
      refine ev_truthyB ?_
      refine ite_B (fun hb => ?_) (fun hb => ?_)
      · with_reducible refine hide_goal fun _ toG => ?_
        obtain ⟨W', ⟨a0, dd⟩, ws', v, rfl, rfl, hW', hv⟩ := hW.unsnoc (by rintro rfl; cases hb)
        obtain ⟨b, ob, ta, td, rfl, hmb, hob⟩ := hv
        obtain ⟨a, rfl, ha, hra⟩ := hI.wait _ (List.mem_append_right _ (.head _))
        refine toG ?_
        obtain ⟨r, har⟩ : ∃ r, rs[a]? = some r := ⟨_, List.getElem?_eq_getElem ha⟩
        obtain ⟨hfi, hgs⟩ := hg a r har
        have hsh := hfi.shaped
        have ha1 : a < 1000 := Nat.lt_trans ha hk1
        rw [List.length_append, List.length_singleton] at hj hWl
        refine ev_sub (ν' := (wl, wo) :: (d, od) :: (δ ++ ν)) ?_ (sub_cons (.tail _ (.tail _ (.head _))) (sub_cons (.tail _ (.head _)) fun p hp => .tail _ (.tail _ (.tail _ hp))))
        refine ev_cons ?_
        refine ev_AssignTup (h := ?_)
        refine ev_CallM (h := ?_)
        refine ev_local (h := ?_)
        refine ev_getPop (h := ?_)
        refine ev_cwB0_1 ?_
        refine ev_pop hwo (fun _ y => y) (ne_cons (Ne.symm hwd) (ne_app hδw hwn)) (by rw [hW'.length]; exact Nat.lt_of_le_of_lt (Nat.le_trans (Nat.le_add_right _ 1) hWl) (by decide)) fun wo' hwo' => ?_
        refine ev_assignT2 (h := ?_)
        refine ev_store (h := ?_)
        refine ev_store (h := ?_)
        refine then_next ?_
        refine ev_cons ?_
        refine ev_If ?_
        refine ev_isCompare (h := ?_)
        refine ev_local (h := ?_)
        refine ev_local (h := ?_)
        refine ev_inD (by walk_at "zmem") hod hlo ?_
        refine ev_truthyB ?_
        cases hva : valueAt kvs (a : Int) with
        | some v =>
          with_reducible refine hide_goal fun _ toG => ?_
          obtain ⟨n', d', tv, hn', rfl, hrd⟩ := hI.sound _ _ hva
          refine toG ?_
          obtain rfl : a = n' := by omega
          refine ite_isT rfl ?_
          refine ev_cons ?_
          refine ev_If ?_
          refine ev_isCompare (h := ?_)
          refine ev_Sub ?_
          refine ev_local (h := ?_)
          refine ev_local (h := ?_)
          refine ev_itemD (by walk_at "zmem") hod hva ?_ (by with_unfolding_all rfl)
          refine ev_local (h := ?_)
          refine ev_ne ?_
          refine ev_truthyB ?_
          refine ite_B (fun hb2 => ?_) (fun hb2 => ?_)
          · have no : ¬ HOk rs := fun ok => by
              have := ok.one _ _ _ hrd hra
              simp [this] at hb2
            have hal := len_str_of_int (a : Int)
            refine ev_cons ?_
            refine ev_fault (ν₀ := ν) (by walk_at "zroom") (by walk_at "zbase") (fun _ _ x => ⟨no, x⟩) rfl rfl (by with_unfolding_all rfl) (by with_unfolding_all rfl) (by with_unfolding_all rfl) ?_
            refine ev_BinOp ?_
            refine ev_BinOp ?_
            refine ev_str (h := fun _ => ?_)
            refine ev_Call (h := ?_)
            refine ev_bltn (h := ?_)
            refine ev_cwT_0 (h := ?_)
            refine ev_spl (h := ?_)
            refine ev_local (h := ?_)
            refine ev_spl0 ?_
            refine ev_strI (Nat.lt_of_le_of_lt (Nat.log2_le_self _) (by omega)) fun _ => ?_
            have e1 : ("two ways to row " : Str).length = 16 := rfl
            have e2 : (" with other handlers" : Str).length = 20 := rfl
            refine ev_addS (by dsimp only; omega) fun _ => ?_
            refine ev_str (h := fun _ => ?_)
            exact ev_addS (by rw [app_len]; dsimp only; omega) fun _ => ⟨_, _, rfl, by walk_at "zbase"⟩
          · obtain rfl : d' = dd := by simpa using hb2
            refine ev_nil ?_
            refine then_next ?_
            refine ev_cons ?_
            refine ev_Continue ?_
            refine then_cont ?_
            refine then_cont ?_
            refine (hK1 (k' := _) ?_ ⟨kvs, od, wo', δ, ws', W', by walk_at "zsub", hod, hwo', hW', hδd, hδw, hI.drop hva, rfl, by omega, by walk_at "zlk", by walk_at "zlk", by walk_at "zlk"⟩).2
            omega
        | none =>
          refine ite_isF rfl ?_
          refine ev_nil ?_
          refine then_next ?_
          refine ev_cons ?_
          refine ev_AssignSub (h := ?_)
          refine ev_local (h := ?_)
          refine ev_local (h := ?_)
          refine ev_local (h := ?_)
          have hkl : kvs.length ≤ 1000 := by have := hI.size; omega
          refine ev_setD (ν₁ := (wl, wo') :: (δ ++ ν)) hod (sub_cons (.tail _ (.head _)) (sub_cons (.head _) fun p hp => .tail _ (.tail _ hp))) (ne_cons hwd (ne_app hδd hdn)) hkl fun od' hod' => ?_
          rw [(valueAt_new hva).1] at hod'
          obtain ⟨v, hkv, hrv⟩ := hrs.get har
          refine then_next ?_
          refine ev_cons ?_
          refine ev_Assign (h := ?_)
          refine ev_Sub ?_
          refine ev_Attr (h := ?_)
          refine ev_local (h := ?_)
          refine ev_getAttr (h := ?_)
          refine ev_local (h := ?_)
          refine ev_itemTK (h := ?_)
          refine ev_store (h := ?_)
          refine then_next ?_
          refine ev_cons ?_
          refine ev_Assign (h := ?_)
          refine ev_Call (h := ?_)
          refine ev_glob (h := ?_)
          refine ev_cwF_0 (h := ?_)
          refine ev_spl (h := ?_)
          refine ev_local (h := ?_)
          refine ev_spl (h := ?_)
          refine ev_local (h := ?_)
          refine ev_spl0 ?_
          have hrv2 : RowV ((d, od') :: (wl, wo') :: (δ ++ ν)) r v := hrv.mono (KeepT.of (by walk_at "zbase"))
          have hrv3 := hrv
          with_reducible refine hide_goal fun _ toG => ?_
          obtain ⟨b3, ob3, tn3, ps3, rfl, hmb3, hob3, ha3⟩ := hrv3
          refine toG ?_
          by_cases hlv : r.name = "leave" ∧ dd < leaves r
          · have no : ¬ HOk rs := fun ok => by
              have := ok.leave _ _ _ hra har hlv.1
              omega
            obtain ⟨n9, hp9, h9⟩ := hfi.leave hlv.1
            have e9 : leaves r = n9 := by unfold leaves; rw [hp9]
            exact c_depth_bad (by walk_at "zroom") hrv2 hlv.1 hp9 h9 (by omega) fun e h' x => ⟨no, x.rz (by walk_at "zbase")⟩
          have hll : r.name = "leave" → leaves r ≤ dd := fun e => by
            by_cases q : dd < leaves r
            · exact absurd ⟨e, q⟩ hlv
            · omega
          obtain ⟨hI', hlt⟩ := hI.visit (t := td) hva har hra hll hgs
          refine c_depth_behind (e := behindD r dd) (by walk_at "zroom") hrv2 (behind_cases hfi hll) fun tb => ?_
          refine ev_store (h := ?_)
          refine then_next ?_
          refine ev_cons ?_
          refine ev_For ?_ (outNoX (R := Rx (¬ HOk rs) c' ν)) (Rb := NoX) (hs := fun _ => rfl)
          refine ev_Call (h := ?_)
          refine ev_glob (h := ?_)
          refine ev_cwF_0 (h := ?_)
          refine ev_spl (h := ?_)
          refine ev_Attr (h := ?_)
          refine ev_local (h := ?_)
          refine ev_getAttr (h := ?_)
          refine ev_spl (h := ?_)
          refine ev_local (h := ?_)
          refine ev_spl0 ?_
          refine c_followers (by walk_at "zroom") (by walk_at "zmem") hrt' (hrs.mono fun r v y => y.mono (KeepT.of (by walk_at "zbase"))) har ha1 hsh fun D4 o4 gs hD4 ho4 hgs4 => ?_
          have hfl := fol_len (k := a) hsh
          refine ev_iterL (.head _) ho4 fun it2 oi2 hit2 hoi2 => ?_
          have hD4d : D4 ≠ d := gtN hD4.head
          have hD4w : D4 ≠ wl := gtN hD4.tail.head
          refine ev_forK (yldL ho4) (fun i m₂ ν₂ => ∃ wo2 δ2 ws2, ν₂ = (D4, o4) :: (d, od') :: (wl, wo2) :: (δ2 ++ ν) ∧ LstO wo2 ws2 ∧ AllV (PairV δ2) (W' ++ ((fol r a).take i).map fun g => (g, toldD r a dd g)) ws2 ∧ (∀ p ∈ δ2, p.1 ≠ d) ∧ (∀ p ∈ δ2, p.1 ≠ wl) ∧ (∀ p ∈ δ2, p.1 ≠ it2) ∧ m₂ "code" = some (.ref x) ∧ m₂ "found" = some (.ref d) ∧ m₂ "waiting" = some (.ref wl) ∧ m₂ "at" = some (.int a ta) ∧ m₂ "depth" = some (.int dd td) ∧ m₂ "row" = some (.ref b3) ∧ m₂ "behind" = some (.int (behindD r dd) tb)) ⟨oi2, rfl, hoi2⟩ (fun p hp => ltN' (hit2 p hp)) (.head _)
            ⟨wo', δ, ws', rfl, hwo', by simpa using hW', hδd, hδw, fun p hp => ltN' (hit2 p (by walk_at "zmem")), by walk_at "zlk", by walk_at "zlk", by walk_at "zlk", by walk_at "zlk", by walk_at "zlk", by walk_at "zlk", by walk_at "zlk"⟩ (fun _ h => h) ?_ ?_
          · intro i m₂ ν₂ v δ3 b' hi zp2 hcl hsrc zp3 _ hB' K2 hK2 hR2
            with_reducible refine hide_goal fun _ toG => ?_
            obtain ⟨wo2, δ2, ws2, rfl, hwo2, hW2, hδd2, hδw2, hδi2, q1, q2, q3, q4, q5, q6, q7⟩ := zp2
            obtain ⟨hv, rfl⟩ := zp3
            obtain ⟨g, hgi, tg, rfl⟩ := hgs4.at hv
            refine toG ?_
            have htg : toldD r a dd g = if decide (r.name = "enter" ∧ g ≠ (a : Int) + 1) = true then dd else behindD r dd := by
              unfold toldD
              simp only [decide_eq_true_eq]
            generalize hbh : decide (r.name = "enter" ∧ g ≠ (a : Int) + 1) = bh at htg
            rw [List.nil_append]
            refine ev_assignName ?_
            refine ev_store (h := ?_)
            refine ev_cons (ev_imp (P := fun f m' ν' => f = .next ∧ m' = upd (upd m₂ "goal" (.int g tg)) "is_handler" (.bool bh) ∧ ν' = b' ++ ((D4, o4) :: (d, od') :: (wl, wo2) :: (δ2 ++ ν))) ?_ ?_)
            · refine ev_Assign (h := ?_)
              refine ev_BoolAnd3 ?_
              refine ev_Compare (h := ?_)
              refine ev_Sub ?_
              refine ev_local (h := ?_)
              refine ev_int (h := fun _ => ?_)
              refine ev_itemTN (h := ?_)
              refine ev_str (h := fun _ => ?_)
              refine ev_eqS ?_
              refine ev_truthyB ?_
              refine ite_B (fun hb1 => ?_) (fun hb1 => ?_)
              · have hne : r.name = "enter" := by simpa using hb1
                with_reducible refine hide_goal fun _ toG => ?_
                obtain ⟨n1, hp1⟩ := hfi.enter hne
                have hfe := fol_enter (k := a) hne hp1
                have hgm := List.mem_of_getElem? hgi
                rw [hfe] at hgm
                rw [hp1] at ha3
                obtain ⟨⟩ | ⟨x1, ⟨⟩⟩ := ha3
                obtain ⟨tn1, rfl⟩ := x1
                refine toG ?_
                refine ev_Compare (h := ?_)
                refine ev_local (h := ?_)
                refine ev_Sub ?_
                refine ev_local (h := ?_)
                refine ev_int (h := fun _ => ?_)
                refine ev_itemTN (h := ?_)
                refine ev_eq ?_
                refine ev_truthyB ?_
                refine ite_B (fun hb2 => ?_) (fun hb2 => ?_)
                · have h2 : g = n1 := by simpa using hb2
                  refine ev_Compare (h := ?_)
                  refine ev_local (h := ?_)
                  refine ev_BinOp ?_
                  refine ev_local (h := ?_)
                  refine ev_int (h := fun _ => ?_)
                  refine ev_add (h := fun _ => ?_)
                  refine ev_ne ?_
                  refine ev_store (h := ?_)
                  exact ⟨rfl, by rw [show (g != (a : Int) + 1) = bh by rw [← hbh, Bool.eq_iff_iff]; simp [hne]], rfl⟩
                · have h2 : ¬ g = n1 := by simpa using hb2
                  have h3 : g = (a : Int) + 1 := by
                    rcases hgm with _ | ⟨_, _ | ⟨_, h⟩⟩
                    · rfl
                    · exact absurd rfl h2
                    · cases h
                  refine ev_store (h := ?_)
                  exact ⟨rfl, by rw [show (g == n1) = bh by rw [show (g == n1) = false by simpa using h2, ← hbh, eq_comm]; simp [h3]], rfl⟩
              · have hne : ¬ r.name = "enter" := by simpa using hb1
                refine ev_store (h := ?_)
                exact ⟨rfl, by rw [show (r.name == "enter") = bh by rw [← hbh, Bool.eq_iff_iff]; simp [hne]], rfl⟩
            · rintro _ _ _ ⟨rfl, rfl, rfl⟩
              refine then_next ?_
              refine ev_cons ?_
              refine ev_ExprAny (h := ?_)
              refine ev_CallM (h := ?_)
              refine ev_local (h := ?_)
              refine ev_getAppend (h := ?_)
              refine ev_cwB_1 (h := ?_)
              refine ev_spl (h := ?_)
              refine ev_Tuple ?_
              refine ev_spl (h := ?_)
              refine ev_local (h := ?_)
              refine ev_spl (h := ?_)
              refine ev_IfExp ?_
              refine ev_isPlain (h := ?_)
              refine ev_local (h := ?_)
              refine ev_truthyB ?_
              refine kIf_join (fun v m' ν' => (∃ t, v = .int (toldD r a dd g) t) ∧ m' = upd (upd m₂ "goal" (.int g tg)) "is_handler" (.bool bh) ∧ ν' = b' ++ ((D4, o4) :: (d, od') :: (wl, wo2) :: (δ2 ++ ν))) ?_ ?_
              · cases bh with
                | true =>
                  refine ite_T ?_
                  refine ev_local (h := ?_)
                  exact ⟨⟨_, by rw [htg]; rfl⟩, rfl, rfl⟩
                | false =>
                  refine ite_F ?_
                  refine ev_local (h := ?_)
                  exact ⟨⟨_, by rw [htg]; rfl⟩, rfl, rfl⟩
              rintro _ _ _ ⟨⟨t5, rfl⟩, rfl, rfl⟩
              refine ev_spl0 ?_
              refine ev_newTuple (fun T5 hT5 => ?_) (by simp [sizeLine])
              have hab5 : ∀ q ∈ b' ++ ((D4, o4) :: (d, od') :: (wl, wo2) :: (δ2 ++ ν)), @LT.lt Nat _ q.1 T5 := hT5
              have n5d : T5 ≠ d := gtN (hab5 (d, od') (by walk_at "zmem"))
              have n5w : T5 ≠ wl := gtN (hab5 (wl, wo2) (by walk_at "zmem"))
              with_reducible refine hide_goal fun _ toG => ?_
              obtain ⟨oi3, rfl, hoi3⟩ := hB'
              refine toG ?_
              have n5i : T5 ≠ it2 := gtN (hab5 (it2, oi3) (.head _))
              have hiw : it2 ≠ wl := gtN (hit2 (wl, wo') (by walk_at "zmem"))
              refine ev_spl0 ?_
              refine ev_append (ν₁ := [(it2, oi3)] ++ ((D4, o4) :: (d, od') :: ((T5, _) :: δ2 ++ ν))) hwo2 (by walk_at "zsub") (ne_app (ne_cons hiw ne_nil) (ne_cons hD4w (ne_cons (Ne.symm hwd) (ne_app (ne_cons n5w hδw2) hwn)))) ?_ fun wo3 hwo3 => ?_
              · rw [hW2.length, List.length_append, List.length_map, List.length_take]
                exact Nat.le_trans (Nat.add_le_add (Nat.le_trans (Nat.le_add_right _ 1) hWl) (Nat.le_trans (Nat.min_le_right _ _) hfl)) (by decide)
              refine then_next ?_
              refine ev_nil ?_
              refine (hK2 ⟨(D4, o4) :: (d, od') :: (wl, wo3) :: ((T5, _) :: δ2 ++ ν), by walk_at "zsub", ?_, .head _, wo3, (T5, _) :: δ2, _, rfl, hwo3, ?_, ne_cons n5d hδd2, ne_cons n5w hδw2, ne_cons n5i hδi2, by walk_at "zlk", by walk_at "zlk", by walk_at "zlk", by walk_at "zlk", by walk_at "zlk", by walk_at "zlk", by walk_at "zlk"⟩).1
              · exact ne_cons (ltN' (hit2 (D4, o4) (.head _))) (ne_cons (ltN' (hit2 (d, od') (by walk_at "zmem"))) (ne_cons (Ne.symm hiw) (ne_app (ne_cons n5i hδi2) fun p hp => ltN' (hit2 p (by walk_at "zmem")))))
              · rw [List.take_add_one, hgi, List.map_append, ← List.append_assoc]
                exact (hW2.mono fun p v y => y.mono (KeepT.refl.cons _)).snoc ⟨T5, _, _, _, rfl, .head _, tupO_mk⟩
          · rintro m₂ ν₂ ⟨wo2, δ2, ws2, rfl, hwo2, hW2, hδd2, hδw2, hδi2, q1, q2, q3, q4, q5, q6, q7⟩ _ _
            refine then_next ?_
            refine ev_nil ?_
            rw [hgs4.length, List.take_length] at hW2
            refine (hK1 (k' := _) ?_ ⟨kvs ++ [((a : Int), Value.int dd td)], od', wo2, δ2, ws2, _, by walk_at "zbase", hod', hwo2, hW2, hδd2, hδw2, hI', rfl, ?_, q1, q2, q3⟩).1
            · rw [hj, List.length_append, List.length_map]
              omega
            · rw [List.length_append, List.length_map]
              omega
      · obtain rfl : W = [] := by cases W with | nil => rfl | cons _ _ => cases hb
        refine hN1 ?_
        refine then_next ?_
        refine ev_cons ?_
        refine ev_Return ?_
        refine ev_local (h := ?_)
        refine then_ret ?_
        refine ⟨_, ?_, h hI.done d od hd⟩
        walk_at "zsub"

/-- what checked_code asks -/
structure Right (ar sl : Int) (sts : List Str) (nc : Nat) (rs : List Row) : Prop where
  fits : ar ≤ sl
  rows : ∀ k r, rs[k]? = some r → Fine r ∧ RowOk sl rs.length k sts nc r
  handlers : HOk rs
theorem Odd.not_fine {r : Row} (h : Odd r) (f : Fine r) : False := h.2 _ f.shaped (Row.letters_len r)
theorem c_checked_code {c : Cx} {m : Loc} {ν : Led} {P : Value → Loc → Led → Prop} {R : RX} {x rt st cp mk : Addr} {nm : Str} {ar sl : Int} {sts : List Str} {nc : Nat} {rs : List Row} {vs : List Value} (hr : Room c 16) (hx : CodeIs ν x nm ar sl rt st cp mk sts nc rs vs) (h1 : 1 ≤ ar) (hany : 0 < rs.length) (few : rs.length < 1000) (hnc : nc < 1000) (hd : ∀ r ∈ rs, Fine r ∨ Odd r)
    (h : Right ar sl sts nc rs → P (.ref x) m ν) (hbad : ¬ Right ar sl sts nc rs → ∀ e h', Rt c ν e h' → R e h') : EV c m ν (call (.ref 165) [.ref x]) P R := by
  have hcode := hx.code
  with_reducible refine hide_goal fun _ toG => ?_
  obtain ⟨dx, es, n, hx1, hx2, hD⟩ := hx.code
  obtain ⟨ort, hrt, hrt'⟩ := hx.rows
  have hrs := hx.each
  have hlen := hrs.length
  have h40 : vs.length < 2 ^ 40 := by omega
  have hro := hD.rows
  obtain ⟨ta, har⟩ := hD.arity
  obtain ⟨ts, hsl⟩ := hD.slots
  refine toG ?_
  refine ev_post ?_
  refine' ev_callX (¬ Right ar sl sts nc rs) (n := 15) (binds := [("code", .ref x)]) ?ho ?hcd hr ?hb ?hl ?hk ?hc hbad ?h
  case ho => k_is
  case hcd => k_is
  case hb => exact fun s => BindsTo.of_eq rfl
  case hl => exact locs rfl
  case hk => exact rfl
  case hc => decide
  case h =>
    intro c' hr' _ henv
    dsimp only [bnd]
    refine ev_cons ?_
    refine ev_If ?_
    refine ev_isOr ?_
    refine ev_isNot ?_
    refine ev_isChain (h := ?_)
    refine ev_int (h := fun _ => ?_)
    refine ev_Attr (h := ?_)
    refine ev_local (h := ?_)
    refine ev_getAttr (h := ?_)
    refine ev_le ?_
    refine ev_truthyB ?_
    refine ite_isT (decide_eq_true h1) ?_
    refine ev_Attr (h := ?_)
    refine ev_local (h := ?_)
    refine ev_getAttr (h := ?_)
    refine ev_le ?_
    refine ev_truthyB ?_
    refine ite_B (b := !decide (ar ≤ sl)) (fun hb => ?_) (fun hb => ?_)
    · have no : ¬ Right ar sl sts nc rs := fun ok => by
        have := ok.fits
        simp [this] at hb
      refine ite_T ?_
      refine ev_cons ?_
      refine ev_fault (ν₀ := ν) (by walk_at "zroom") (by walk_at "zbase") (fun _ _ x => ⟨no, x⟩) rfl rfl (by with_unfolding_all rfl) (by with_unfolding_all rfl) (by with_unfolding_all rfl) ?_
      refine ev_str (h := fun _ => ?_)
      exact ⟨_, _, rfl, by walk_at "zbase"⟩
    have hfit : ar ≤ sl := by simpa using hb
    refine ev_isOr ?_
    refine ev_isCompare (h := ?_)
    refine ev_Attr (h := ?_)
    refine ev_local (h := ?_)
    refine ev_getAttr (h := ?_)
    refine ev_Tuple ?_
    refine ev_spl0 ?_
    refine ev_newTuple (fun e0 he0 => ?_) (by decide)
    refine ev_eqT0 (by walk_at "zmem") hrt' (.head _) tupO_mk (by walk_at "zroom") ?_
    refine ev_truthyB ?_
    refine ite_isF (beq_eq_false_iff_ne.mpr (by omega)) ?_
    refine ev_isOr0 ?_
    refine ite_F ?_
    refine ev_nil ?_
    refine then_next ?_
    refine ev_cons ?_
    refine ev_sub (ν' := ν) ?_ (fun p hp => .tail _ hp)
    refine ev_For ?_ (outSame henv) (hs := fun _ => rfl)
    refine ev_Call (h := ?_)
    refine ev_bltn (h := ?_)
    refine ev_cwT_0 (h := ?_)
    refine ev_spl (h := ?_)
    refine ev_Call (h := ?_)
    refine ev_bltn (h := ?_)
    refine ev_cwB_0 (h := ?_)
    refine ev_spl (h := ?_)
    refine ev_Attr (h := ?_)
    refine ev_local (h := ?_)
    refine ev_getAttr (h := ?_)
    refine ev_spl0 ?_
    refine ev_lenT (h := fun _ => ?_)
    refine ev_spl0 ?_
    refine ev_range1 fun r0 t1 t2 hr0 => ?_
    refine ev_iterR (.head _) (Int.natCast_nonneg _) (by omega) fun it oi hit hoi => ?_
    refine ev_forK (yldR (n := vs.length)) (fun j m₁ ν₁ => ν₁ = ν ∧ (∀ k r, k < j → rs[k]? = some r → Fine r ∧ RowOk sl rs.length k sts nc r) ∧ m₁ "code" = some (.ref x)) (ν₀ := ν) ⟨oi, rfl, by simpa using hoi⟩ (fun p hp => ltN' (hit p (.tail _ hp))) trivial ⟨rfl, (fun k r hk => absurd hk (Nat.not_lt_zero k)), by walk_at "zlk"⟩ (by walk_at "zsub") ?_ ?_
    · intro j m₁ ν₁ v δ b' hj zp1 hcl _ zp2 _ hB' K1 hK1 hR1
      with_reducible refine hide_goal fun _ toG => ?_
      obtain ⟨rfl, hdone, hm1⟩ := zp1
      obtain ⟨⟨tj, rfl⟩, rfl⟩ := zp2
      refine toG ?_
      obtain ⟨r, hjr⟩ : ∃ r, rs[j]? = some r := ⟨_, List.getElem?_eq_getElem (by omega)⟩
      refine ev_assignName ?_
      refine ev_store (h := ?_)
      refine ev_cons ?_
      refine ev_ExprAny (h := ?_)
      refine ev_Call (h := ?_)
      refine ev_glob (h := ?_)
      refine ev_cwF_0 (h := ?_)
      refine ev_spl (h := ?_)
      refine ev_local (h := ?_)
      refine ev_spl (h := ?_)
      refine ev_local (h := ?_)
      refine ev_spl0 ?_
      rcases hd r (List.mem_of_getElem? hjr) with hf | hf
      · refine c_check_row (by walk_at "zroom") (hx.mono (by walk_at "zbase")) hjr few hnc hf (fun ok => ?_) (fun nok e h' x => ⟨fun q => nok (q.rows j r hjr).2, x.rz (by walk_at "zbase")⟩)
        refine then_next ?_
        refine ev_nil ?_
        refine (hK1 ⟨ν₁, by walk_at "zsub", hcl, trivial, rfl, fun k r' hk hr' => ?_, by walk_at "zlk"⟩).1
        by_cases e : k = j
        · subst e
          rw [hjr] at hr'
          cases hr'
          exact ⟨hf, ok⟩
        · exact hdone k r' (by omega) hr'
      · exact c_check_odd (by walk_at "zroom") (hcode.mono (by walk_at "zbase")) (by walk_at "zmem") hrt' (hrs.mono fun r v y => y.mono (KeepT.of (by walk_at "zbase"))) hjr few hf fun e h' x => ⟨fun q => hf.not_fine (q.rows j r hjr).1, x.rz (by walk_at "zbase")⟩
    rintro m₁ ν₁ ⟨rfl, hall, hm1⟩ _ _
    have hall' : ∀ k r, rs[k]? = some r → Fine r ∧ RowOk sl rs.length k sts nc r := fun k r e => hall k r (by rw [hlen]; exact (List.getElem?_eq_some_iff.mp e).1) e
    refine then_next ?_
    refine ev_cons ?_
    refine ev_ExprAny (h := ?_)
    refine ev_Call (h := ?_)
    refine ev_glob (h := ?_)
    refine ev_cwF_0 (h := ?_)
    refine ev_spl (h := ?_)
    refine ev_local (h := ?_)
    refine ev_spl0 ?_
    refine c_depths_of (by walk_at "zroom") hcode hrt hrt' hrs few hany (fun k r e => ⟨(hall' k r e).1, fun g hg => ⟨(hall' k r e).1.fol k g hg, (hall' k r e).2.fols g hg⟩⟩) (fun ok d o _ => ?_) (fun nok e h' x => ⟨fun q => nok q.handlers, x.rz (by walk_at "zbase")⟩)
    refine then_next ?_
    refine ev_cons ?_
    refine ev_Return ?_
    refine ev_local (h := ?_)
    refine then_ret ?_
    exact ⟨_, fun p hp => .tail _ hp, h ⟨hfit, hall', ok⟩⟩
theorem c_law_checked {c : Cx} {m : Loc} {ν : Led} {P : Value → Loc → Led → Prop} {R : RX} {x rt st cp mk : Addr} {nm : Str} {ar sl : Int} {sts : List Str} {nc : Nat} {rs : List Row} {vs : List Value} (hout : c.outer = []) (hr : Room c 18) (hx : CodeIs ν x nm ar sl rt st cp mk sts nc rs vs) (h1 : 1 ≤ ar) (hany : 0 < rs.length) (few : rs.length < 1000) (hnc : nc < 1000) (hd : ∀ r ∈ rs, Fine r ∨ Odd r)
    (h : Right ar sl sts nc rs → P (.ref x) m ν) (h' : ¬ Right ar sl sts nc rs → P .none m ν) : EV c m ν (call (.ref 229) [.ref x]) P R := by
  refine ev_callU hout ?_
  refine' evu_call (n := 17) (binds := [("code", .ref x)]) ?ho ?hcd hr ?hb ?hl ?hk ?hc ?h
  case ho => k_is
  case hcd => k_is
  case hb => exact fun s => BindsTo.of_eq rfl
  case hl => exact locs rfl
  case hk => exact rfl
  case hc => decide
  case h =>
    intro c' hr' _ henv
    dsimp only [bnd]
    refine evu_last (evu_Try (v := .none) (¬ Right ar sl sts nc rs) henv ?_ (by with_unfolding_all rfl) (fun q => wpAny_pure q) fun no m' => ?_)
    · refine ev_cons ?_
      refine ev_Return ?_
      refine ev_Call (h := ?_)
      refine ev_glob (h := ?_)
      refine ev_cwF_0 (h := ?_)
      refine ev_spl (h := ?_)
      refine ev_local (h := ?_)
      refine ev_spl0 ?_
      refine c_checked_code (by walk_at "zroom") hx h1 hany few hnc hd (fun ok => ?_) (fun no e h'' x => ⟨no, x⟩)
      refine then_ret ?_
      exact ⟨Flow.noConfusion, Flow.noConfusion, fun _ q => q, h ok⟩
    · exact ⟨Flow.noConfusion, fun _ q => q, h' no⟩
theorem c_refused {c : Cx} {m : Loc} {ν : Led} {P : Value → Loc → Led → Prop} {r : Row} {v : Value} (hr : Room c 8) (hv : RowV ν r v) (hs : Odd r) (h : P (.bool true) m ν) : EVu c m ν (call (.ref 236) [v]) P := by
  have hv0 := hv
  with_reducible refine hide_goal fun _ toG => ?_
  obtain ⟨b, o, tn, vs, rfl, hm, ho, ha⟩ := hv
  refine toG ?_
  refine' evu_call (n := 7) (binds := [("row", .ref b)]) ?ho ?hcd hr ?hb ?hl ?hk ?hc ?h
  case ho => k_is
  case hcd => k_is
  case hb => exact fun s => BindsTo.of_eq rfl
  case hl => exact locs rfl
  case hk => exact rfl
  case hc => decide
  case h =>
    intro c' hr' _ henv
    dsimp only [bnd]
    refine evu_last (evu_Try (v := .bool true) True henv ?_ (by with_unfolding_all rfl) (fun q => wpAny_pure q) fun no m' => ?_)
    · refine ev_cons ?_
      refine ev_ExprAny (h := ?_)
      refine ev_Call (h := ?_)
      refine ev_glob (h := ?_)
      refine ev_cwF_0 (h := ?_)
      refine ev_spl (h := ?_)
      refine ev_local (h := ?_)
      refine ev_spl0 ?_
      exact c_uses_bad (by walk_at "zroom") hv0 hs fun e h' x => ⟨trivial, x⟩
    · exact ⟨Flow.noConfusion, fun _ q => q, h⟩

abbrev bowlKv (a b : Value) : List (Str × Value) := [("great", a), ("small", b)]
/-- the bowl -/
def BowlO (w : World) (o : Obj) : Prop := ∃ g k t1 t2, (o.IsDictOf (strKind Pg w) (bowlKv (.int g t1) (.int k t2))) ∧ 0 ≤ g ∧ 0 ≤ k ∧ k < 2147483647
theorem stored_great {a b x : Value} : stored (bowlKv a b) "great" x = bowlKv x b := by kernel_rfl
theorem stored_small {a b x : Value} : stored (bowlKv a b) "small" x = bowlKv a x := by kernel_rfl
theorem at_great {a b : Value} : valueAt (bowlKv a b) "great" = some a := by kernel_rfl
theorem at_small {a b : Value} : valueAt (bowlKv a b) "small" = some b := by kernel_rfl
theorem c_scoop {c : Cx} {m : Loc} {ν ν₁ : Led} {P : Value → Loc → Led → Prop} {R : RX} {t : Addr} {o : Obj} {many : Int} {u3 : Tok} (hr : Room c 102) (ho : BowlO c.w o) (hν : ∀ p ∈ (t, o) :: ν₁, p ∈ ν) (hne : ∀ p ∈ ν₁, p.1 ≠ t) (hm0 : 0 < many)
  (h : ∀ r tk o', 0 ≤ r → r < many → BowlO c.w o' → P (.int r tk) m ((t, o') :: ν₁)) :
  EV c m ν (call (.ref 179) [.ref t, .int many u3]) P R := by
  refine ev_sub ?_ hν
  with_reducible refine hide_goal fun _ toG => ?_
  obtain ⟨g, k, t1, t2, hd, hg, hk0, hk1⟩ := ho
  refine toG ?_
  refine' ev_call (n := 101) (Rb := NoX) (binds := [("bowl", .ref t), ("many", .int many u3)]) ?ho ?hcd hr ?hb ?hl ?hk ?hc ?h (fun _ _ x => x.elim)
  case ho => k_is
  case hcd => k_is
  case hb => exact fun s => BindsTo.of_eq rfl
  case hl => exact locs rfl
  case hk => exact rfl
  case hc => decide
  case h =>
    intro c' hr' hcw
    have hd' : DicS c' o (bowlKv (.int g t1) (.int k t2)) := by unfold DicS; rw [hcw.2]; exact hd
    dsimp only [bnd]
    refine ev_cons ?_
    refine ev_If ?_
    refine ev_isCompare (h := ?_)
    refine ev_Sub ?_
    refine ev_local (h := ?_)
    refine ev_str (h := fun _ => ?_)
    refine ev_itemS (.head _) hd' at_great ?_ (by with_unfolding_all rfl)
    refine ev_int (h := fun _ => ?_)
    refine ev_gt ?_
    refine ev_truthyB ?_
    refine ite_D (fun hb => ?_) (fun hb => ?_)
    · refine ev_cons ?_
      refine ev_Assign (h := ?_)
      refine ev_BinOp ?_
      refine ev_Sub ?_
      refine ev_local (h := ?_)
      refine ev_str (h := fun _ => ?_)
      refine ev_itemS (.head _) hd' at_great ?_ (by with_unfolding_all rfl)
      refine ev_local (h := ?_)
      refine ev_mod (h := fun _ => ?_)
      refine ev_store (h := ?_)
      refine then_next ?_
      refine ev_cons ?_
      refine ev_AssignSub (h := ?_)
      refine ev_BinOp ?_
      refine ev_Sub ?_
      refine ev_local (h := ?_)
      refine ev_str (h := fun _ => ?_)
      refine ev_itemS (.head _) hd' at_great ?_ (by with_unfolding_all rfl)
      refine ev_local (h := ?_)
      refine ev_fdiv (h := fun _ => ?_)
      refine ev_local (h := ?_)
      refine ev_str (h := fun _ => ?_)
      refine ev_setS hd' (fun _ x => x) hne (by simp) fun o' ho' => ?_
      rw [stored_great] at ho'
      refine then_next ?_
      refine ev_cons ?_
      refine ev_Return ?_
      refine ev_local (h := ?_)
      refine then_ret ?_
      refine then_ret ?_
      exact h _ _ o' (Int.fmod_nonneg_of_pos g hm0) (Int.fmod_lt_of_pos g hm0) ⟨_, k, _, _, by unfold DicS at ho'; rw [hcw.2] at ho'; exact ho', Int.fdiv_nonneg hg (Int.le_of_lt hm0), hk0, hk1⟩
    · refine ev_nil ?_
      refine then_next ?_
      refine ev_cons ?_
      refine ev_AssignSub (h := ?_)
      refine ev_BinOp ?_
      refine ev_BinOp ?_
      refine ev_BinOp ?_
      refine ev_Sub ?_
      refine ev_local (h := ?_)
      refine ev_str (h := fun _ => ?_)
      refine ev_itemS (.head _) hd' at_small ?_ (by with_unfolding_all rfl)
      refine ev_int (h := fun _ => ?_)
      refine ev_mul (h := fun _ => ?_)
      refine ev_int (h := fun _ => ?_)
      refine ev_add (h := fun _ => ?_)
      refine ev_int (h := fun _ => ?_)
      refine ev_mod (h := fun _ => ?_)
      refine ev_local (h := ?_)
      refine ev_str (h := fun _ => ?_)
      refine ev_setS hd' (fun _ x => x) hne (by simp) fun o' ho' => ?_
      rw [stored_small] at ho'
      refine then_next ?_
      refine ev_cons ?_
      refine ev_Return ?_
      refine ev_BinOp ?_
      refine ev_BinOp ?_
      refine ev_Sub ?_
      refine ev_local (h := ?_)
      refine ev_str (h := fun _ => ?_)
      refine ev_itemS (.head _) ho' at_small ?_ (by with_unfolding_all rfl)
      refine ev_int (h := fun _ => ?_)
      refine ev_fdiv (h := fun _ => ?_)
      refine ev_local (h := ?_)
      refine ev_mod (h := fun _ => ?_)
      refine then_ret ?_
      exact h _ _ o' (Int.fmod_nonneg_of_pos _ hm0) (Int.fmod_lt_of_pos _ hm0) ⟨g, _, _, _, by unfold DicS at ho'; rw [hcw.2] at ho'; exact ho', hg, Int.fmod_nonneg_of_pos _ (by decide), Int.fmod_lt_of_pos _ (by decide)⟩
theorem ev_neBase0 {c : Cx} {m : Loc} {ν : Led} {P : Value → Loc → Led → Prop} {R : RX} {a b : Addr} {ob : Obj} {vs : List Value} {l : List Int} (ha : c.base.IsList a vs.toArray) (ia : AllV IntV l vs) (hb : (b, ob) ∈ ν) (hob : LstO ob []) (hr : Room c 8) (h : P (.bool (!decide (l = []))) m ν) : EV c m ν (compareOp .NotEq (.ref a) (.ref b)) P R :=
  fun s Q E F N hQ hE => ke_ne_ints (stays_base F ha) (hob.at (N.get hb)) (intsAre ia) (intsAre .nil) (by have := hr.2; omega) (hQ _ _ _ s.heap s.toks h F N)
theorem c_bowl {c : Cx} {m : Loc} {ν : Led} {P : Value → Loc → Led → Prop} {R : RX} {sc : Addr} {vs : List Value} {l : List Int} (hr : Room c 12) (hs : c.base.IsList sc vs.toArray) (hi : AllV IntV l vs) (hl : vs.length ≤ 63)
    (h : ∀ t o, Above t ν → BowlO c.w o → P (.ref t) m ((t, o) :: ν)) : EV c m ν (call (.ref 172) [.ref sc]) P R := by
  refine ev_post ?_
  refine' ev_call (n := 11) (Rb := NoX) (binds := [("script", .ref sc)]) ?ho ?hcd hr ?hb ?hl ?hk ?hc ?h (fun _ _ x => x.elim)
  case ho => k_is
  case hcd => k_is
  case hb => exact fun s => BindsTo.of_eq rfl
  case hl => exact locs rfl
  case hk => exact rfl
  case hc => decide
  case h =>
    intro c' hr' hcw
    have hs' : c'.base.IsList sc vs.toArray := hcw.1 ▸ hs
    dsimp only [bnd]
    refine ev_cons ?_
    refine ev_Assign (h := ?_)
    refine ev_IfExp ?_
    refine ev_isCompare (h := ?_)
    refine ev_local (h := ?_)
    refine ev_List ?_
    refine ev_spl0 ?_
    refine ev_newList (fun e0 he0 => ?_) (by decide)
    refine ev_neBase0 hs' hi (.head _) lstO_mk (by walk_at "zroom") ?_
    refine ev_truthyB ?_
    refine kIf_join (fun v m' ν' => (∃ a t, v = .int a t) ∧ m' = upd noLoc "script" (.ref sc) ∧ ν' = (e0, lstO []) :: ν) ?_ ?_
    · cases hi with
      | nil =>
        refine ite_isF rfl ?_
        refine ev_int (h := fun _ => ?_)
        exact ⟨⟨_, _, rfl⟩, rfl, rfl⟩
      | cons x r =>
        refine ite_isT rfl ?_
        obtain ⟨t, rfl⟩ := x
        refine ev_Sub ?_
        refine ev_local (h := ?_)
        refine ev_int (h := fun _ => ?_)
        refine ev_itemBase hs' (by decide) (by decide) rfl ?_ (by with_unfolding_all rfl)
        exact ⟨⟨_, _, rfl⟩, rfl, rfl⟩
    rintro _ _ _ ⟨⟨a, ta, rfl⟩, rfl, rfl⟩
    refine ev_store (h := ?_)
    refine then_next ?_
    refine ev_cons ?_
    refine ev_Assign (h := ?_)
    refine ev_IfExp ?_
    refine ev_isCompare (h := ?_)
    refine ev_local (h := ?_)
    refine ev_int (h := fun _ => ?_)
    refine ev_ge ?_
    refine ev_truthyB ?_
    refine kIf_join (fun v m' ν' => (∃ d t, v = .int d t ∧ 0 ≤ d) ∧ m' = upd (upd noLoc "script" (.ref sc)) "first" (.int a ta) ∧ ν' = (e0, lstO []) :: ν) ?_ ?_
    · refine ite_D (fun hb => ?_) (fun hb => ?_)
      · refine ev_local (h := ?_)
        exact ⟨⟨_, _, rfl, hb⟩, rfl, rfl⟩
      · refine ev_BinOp ?_
        refine ev_UnaryOp ?_
        refine ev_int (h := fun _ => ?_)
        refine ev_neg (h := fun _ => ?_)
        refine ev_local (h := ?_)
        refine ev_sub' (h := fun _ => ?_)
        exact ⟨⟨_, _, rfl, by omega⟩, rfl, rfl⟩
    rintro _ _ _ ⟨⟨d, td, rfl, hd⟩, rfl, rfl⟩
    refine ev_store (h := ?_)
    refine then_next ?_
    refine ev_cons ?_
    refine ev_Return ?_
    refine ev_Dict2 (by decide) fun dd hdd => ?_
    refine ev_IfExp ?_
    refine ev_isCompare (h := ?_)
    refine ev_local (h := ?_)
    refine ev_BinOp ?_
    refine ev_int (h := fun _ => ?_)
    refine ev_int (h := fun _ => ?_)
    refine ev_pow (by decide) (by decide) (by decide) fun _ => ?_
    refine ev_ge ?_
    refine ev_truthyB ?_
    refine kIf_join (fun v m' ν' => (∃ g t, v = .int g t ∧ 0 ≤ g) ∧ m' = upd (upd (upd noLoc "script" (.ref sc)) "first" (.int a ta)) "size" (.int d td) ∧ ν' = (dd, emptyDict) :: (e0, lstO []) :: ν) ?_ ?_
    · refine ite_B (fun hb => ?_) (fun hb => ?_)
      · refine ev_local (h := ?_)
        exact ⟨⟨_, _, rfl, hd⟩, rfl, rfl⟩
      · refine ev_int (h := fun _ => ?_)
        exact ⟨⟨_, _, rfl, Int.le_refl _⟩, rfl, rfl⟩
    rintro _ _ _ ⟨⟨g, tg, rfl, hg⟩, rfl, rfl⟩
    refine ev_BinOp ?_
    refine ev_BinOp ?_
    refine ev_BinOp ?_
    refine ev_BinOp ?_
    refine ev_int (h := fun _ => ?_)
    refine ev_local (h := ?_)
    refine ev_mul (h := fun _ => ?_)
    refine ev_Call (h := ?_)
    refine ev_bltn (h := ?_)
    refine ev_cwT_0 (h := ?_)
    refine ev_spl (h := ?_)
    refine ev_Compare (h := ?_)
    refine ev_local (h := ?_)
    refine ev_int (h := fun _ => ?_)
    refine ev_lt ?_
    refine ev_spl0 ?_
    refine ev_intB fun _ => ?_
    refine ev_add (h := fun _ => ?_)
    refine ev_int (h := fun _ => ?_)
    refine ev_mod (h := fun _ => ?_)
    refine ev_int (h := fun _ => ?_)
    refine ev_add (h := fun _ => ?_)
    refine ⟨(e0, lstO []) :: ν, fun _ h => h, hdd.ne, fun o' ho' => ?_⟩
    refine then_ret ?_
    exact ⟨_, by walk_at "zsub", h dd o' hdd.tail ⟨g, _, _, _, by unfold DicS at ho'; rw [hcw.2] at ho'; exact ho', hg, by have := Int.fmod_nonneg_of_pos (2 * d + if (decide (a < 0)) = true then 1 else 0) (show (0 : Int) < 1999993 by decide); omega, by have := Int.fmod_lt_of_pos (2 * d + if (decide (a < 0)) = true then 1 else 0) (show (0 : Int) < 1999993 by decide); omega⟩⟩

theorem c_register {c : Cx} {m : Loc} {ν ν₁ : Led} {P : Value → Loc → Led → Prop} {R : RX} {t : Addr} {o : Obj} {sl : Int} {u3 : Tok} (hr : Room c 104) (ho : BowlO c.w o) (hν : ∀ p ∈ (t, o) :: ν₁, p ∈ ν) (hne : ∀ p ∈ ν₁, p.1 ≠ t) (hm0 : 0 < sl)
  (h : ∀ r tk o', 0 ≤ r → r ≤ sl → BowlO c.w o' → P (.int r tk) m ((t, o') :: ν₁)) : EV c m ν (call (.ref 186) [.ref t, .int sl u3]) P R := by
  refine ev_sub ?_ hν
  refine' ev_call (n := 103) (Rb := NoX) (binds := [("bowl", .ref t), ("slots", .int sl u3)]) ?ho ?hcd hr ?hb ?hl ?hk ?hc ?h (fun _ _ x => x.elim)
  case ho => k_is
  case hcd => k_is
  case hb => exact fun s => BindsTo.of_eq rfl
  case hl => exact locs rfl
  case hk => exact rfl
  case hc => decide
  case h =>
    intro c' hr' hcw
    dsimp only [bnd]
    refine ev_cons ?_
    refine ev_Return ?_
    refine ev_IfExp ?_
    refine ev_isCompare (h := ?_)
    refine ev_Call (h := ?_)
    refine ev_glob (h := ?_)
    refine ev_cwF_0 (h := ?_)
    refine ev_spl (h := ?_)
    refine ev_local (h := ?_)
    refine ev_spl (h := ?_)
    refine ev_int (h := fun _ => ?_)
    refine ev_spl0 ?_
    refine c_scoop (by walk_at "zroom") (hcw.2 ▸ ho) (fun _ h => h) hne (by decide) fun r tk o1 r0 r1 ho1 => ?_
    refine ev_int (h := fun _ => ?_)
    refine ev_eq ?_
    refine ev_truthyB ?_
    refine ite_B (fun hb => ?_) (fun hb => ?_)
    · refine ev_local (h := ?_)
      refine then_ret ?_
      exact h _ _ o1 (Int.le_of_lt hm0) (Int.le_refl _) (hcw.2 ▸ ho1)
    · refine ev_Call (h := ?_)
      refine ev_glob (h := ?_)
      refine ev_cwF_0 (h := ?_)
      refine ev_spl (h := ?_)
      refine ev_local (h := ?_)
      refine ev_spl (h := ?_)
      refine ev_local (h := ?_)
      refine ev_spl0 ?_
      refine c_scoop (by walk_at "zroom") ho1 (fun _ h => h) hne hm0 fun r tk o2 r0 r1 ho2 => ?_
      refine then_ret ?_
      exact h _ _ o2 r0 (Int.le_of_lt r1) (hcw.2 ▸ ho2)
theorem c_goal {c : Cx} {m : Loc} {ν ν₁ : Led} {P : Value → Loc → Led → Prop} {R : RX} {t : Addr} {o : Obj} {sl : Int} {u3 : Tok} (hr : Room c 104) (ho : BowlO c.w o) (hν : ∀ p ∈ (t, o) :: ν₁, p ∈ ν) (hne : ∀ p ∈ ν₁, p.1 ≠ t) (hm0 : 0 < sl)
  (h : ∀ r tk o', 0 ≤ r → r ≤ sl → BowlO c.w o' → P (.int r tk) m ((t, o') :: ν₁)) : EV c m ν (call (.ref 193) [.ref t, .int sl u3]) P R := by
  refine ev_sub ?_ hν
  refine' ev_call (n := 103) (Rb := NoX) (binds := [("bowl", .ref t), ("many", .int sl u3)]) ?ho ?hcd hr ?hb ?hl ?hk ?hc ?h (fun _ _ x => x.elim)
  case ho => k_is
  case hcd => k_is
  case hb => exact fun s => BindsTo.of_eq rfl
  case hl => exact locs rfl
  case hk => exact rfl
  case hc => decide
  case h =>
    intro c' hr' hcw
    dsimp only [bnd]
    refine ev_cons ?_
    refine ev_Return ?_
    refine ev_IfExp ?_
    refine ev_isCompare (h := ?_)
    refine ev_Call (h := ?_)
    refine ev_glob (h := ?_)
    refine ev_cwF_0 (h := ?_)
    refine ev_spl (h := ?_)
    refine ev_local (h := ?_)
    refine ev_spl (h := ?_)
    refine ev_int (h := fun _ => ?_)
    refine ev_spl0 ?_
    refine c_scoop (by walk_at "zroom") (hcw.2 ▸ ho) (fun _ h => h) hne (by decide) fun r tk o1 r0 r1 ho1 => ?_
    refine ev_int (h := fun _ => ?_)
    refine ev_eq ?_
    refine ev_truthyB ?_
    refine ite_B (fun hb => ?_) (fun hb => ?_)
    · refine ev_local (h := ?_)
      refine then_ret ?_
      exact h _ _ o1 (Int.le_of_lt hm0) (Int.le_refl _) (hcw.2 ▸ ho1)
    · refine ev_Call (h := ?_)
      refine ev_glob (h := ?_)
      refine ev_cwF_0 (h := ?_)
      refine ev_spl (h := ?_)
      refine ev_local (h := ?_)
      refine ev_spl (h := ?_)
      refine ev_local (h := ?_)
      refine ev_spl0 ?_
      refine c_scoop (by walk_at "zroom") ho1 (fun _ h => h) hne hm0 fun r tk o2 r0 r1 ho2 => ?_
      refine then_ret ?_
      exact h _ _ o2 r0 (Int.le_of_lt r1) (hcw.2 ▸ ho2)
/-- the new ones of a ledger -/
def newOf (B ν : Led) : Led := ν.filter fun p => decide (∀ q ∈ B, @LT.lt Nat _ q.1 p.1)
theorem mem_new {B ν ν1 : Led} {x : Addr} {o : Obj} (hm : (x, o) ∈ ν) (ha : Above x ν1) (hs : ∀ p ∈ B, p ∈ ν1) : (x, o) ∈ newOf B ν := List.mem_filter.mpr ⟨hm, decide_eq_true fun q hq => ha q (hs q hq)⟩
theorem new_mem {B ν : Led} {p : Addr × Obj} (h : p ∈ newOf B ν) : p ∈ ν ∧ Above p.1 B := ⟨(List.mem_filter.mp h).1, (of_decide_eq_true (List.mem_filter.mp h).2 : ∀ q ∈ B, @LT.lt Nat _ q.1 p.1)⟩
theorem mem_of_new {B ν : Led} {p : Addr × Obj} (h : p ∈ ν) (ha : Above p.1 B) : p ∈ newOf B ν := List.mem_filter.mpr ⟨h, decide_eq_true ha⟩
theorem above_swap {a t : Addr} {o o' : Obj} {B : Led} (h : Above a ((t, o) :: B)) : Above a ((t, o') :: B) := fun q hq => by
  rcases List.mem_cons.mp hq with rfl | hq
  · exact h (t, o) (.head _)
  · exact h q (.tail _ hq)
section
variable {ν : Led} {n : Int} {t : Tok} {x : Str} {b : Bool}
theorem pv_d : PartV ν (.d n) (.int n t) := ⟨t, rfl⟩
theorem pv_s : PartV ν (.s n) (.int n t) := ⟨t, rfl⟩
theorem pv_g : PartV ν (.g n) (.int n t) := ⟨t, rfl⟩
theorem pv_xi : PartV ν (.x (.one (.int n))) (.int n t) := ⟨t, rfl⟩
theorem pv_xs : PartV ν (.x (.one (.str x))) (.str x t) := ⟨t, rfl⟩
theorem pv_m {l : List Int} {a : Addr} {o : Obj} {vs : List Value} (hm : (a, o) ∈ ν) (ho : TupO o vs) (h : AllV AtV (l.map .int) vs) : PartV ν (.m l) (.ref a) := ⟨a, o, vs, rfl, hm, ho, h⟩
theorem pv_xt {l : List At} {a : Addr} {o : Obj} {vs : List Value} (hm : (a, o) ∈ ν) (ho : TupO o vs) (h : AllV AtV l vs) : PartV ν (.x (.tup l)) (.ref a) := ⟨a, o, vs, rfl, hm, ho, h⟩
theorem av_i : AtV (.int n) (.int n t) := ⟨t, rfl⟩
theorem av_s : AtV (.str x) (.str x t) := ⟨t, rfl⟩
theorem av_b : AtV (.bool b) (.bool b) := rfl
theorem row_mk {a : Addr} {o : Obj} {ps : List Part} {vs : List Value} (hm : (a, o) ∈ ν) (ho : TupO o (.str x t :: vs)) (h : AllV (PartV ν) ps vs) : RowV ν ⟨x, ps⟩ (.ref a) := ⟨a, o, t, vs, rfl, hm, ho, h⟩
end
theorem parts_cons {l : List Part} {k : Nat} {ks : List Nat} (h : l.map Part.letter = k :: ks) : ∃ p q, l = p :: q ∧ p.letter = k ∧ q.map Part.letter = ks := by
  cases l with
  | nil => cases h
  | cons p q => exact ⟨p, q, rfl, List.cons.inj h⟩
theorem parts_nil {l : List Part} (h : l.map Part.letter = []) : l = [] := List.map_eq_nil_iff.mp h
theorem let_d {p : Part} (h : p.letter = 100) : ∃ n, p = .d n := by cases p <;> first | exact ⟨_, rfl⟩ | exact absurd h (by simp [Part.letter])
theorem let_s {p : Part} (h : p.letter = 115) : ∃ n, p = .s n := by cases p <;> first | exact ⟨_, rfl⟩ | exact absurd h (by simp [Part.letter])
theorem let_m {p : Part} (h : p.letter = 109) : ∃ n, p = .m n := by cases p <;> first | exact ⟨_, rfl⟩ | exact absurd h (by simp [Part.letter])
theorem let_g {p : Part} (h : p.letter = 103) : ∃ n, p = .g n := by cases p <;> first | exact ⟨_, rfl⟩ | exact absurd h (by simp [Part.letter])
theorem let_x {p : Part} (h : p.letter = 120) : ∃ n, p = .x n := by cases p <;> first | exact ⟨_, rfl⟩ | exact absurd h (by simp [Part.letter])
theorem any_name {l : List Str} {x : Str} (h : l.any (· == x) = true) : x ∈ l := by
  obtain ⟨y, hy, e⟩ := List.any_eq_true.mp h
  rw [← beq_iff_eq.mp e]
  exact hy
theorem any_not {l : List Str} {x : Str} (h : l.any (· == x) = false) : x ∉ l := fun hm => by
  have : l.any (· == x) = true := List.any_eq_true.mpr ⟨x, hm, beq_self_eq_true x⟩
  rw [this] at h
  cases h
theorem look_pair {α β : Type} [BEq α] [LawfulBEq α] {k : α} {y : β} : ∀ {D : List (α × β)}, D.lookup k = some y → (k, y) ∈ D
  | [], h => by cases h
  | (x, z) :: D, h => by
    rw [List.lookup_cons] at h
    cases hb : k == x with
    | true => rw [hb] at h; rw [beq_iff_eq.mp hb, Option.some.inj h]; exact .head _
    | false => rw [hb] at h; exact .tail _ (look_pair h)
theorem look_mem {α β : Type} [BEq α] [LawfulBEq α] {k : α} {y : β} {D : List (α × β)} (h : D.lookup k = some y) : k ∈ D.map (·.1) := List.mem_map_of_mem (look_pair h)
theorem tail_x : ∀ {q : List Part}, (q.map Part.letter).all (· == 120) = true → q.flatMap usesP = [] ∧ q.flatMap goalsP = []
  | [], _ => ⟨rfl, rfl⟩
  | p :: q, h => by
    rw [List.map_cons, List.all_cons, Bool.and_eq_true] at h
    obtain ⟨n, rfl⟩ := let_x (beq_iff_eq.mp h.1)
    exact tail_x (q := q) h.2
/-- the letters of the named shapes begin so, and go on with x alone -/
def chk (pre : List Nat) (y : Str) : Bool := (y.cps.toList.take pre.length == pre) && (y.cps.toList.drop pre.length).all (· == 120)
theorem shp2 {r : Row} (h : Shaped r) {C : List Str} (hb : r.name ∈ C) (pre : List Nat) (hC : ∀ q ∈ shapesL, q.1 ∈ C → chk pre q.2 = true) : ∃ ps q, r.parts = ps ++ q ∧ ps.map Part.letter = pre ∧ (q.map Part.letter).all (· == 120) = true ∧ r.uses = ps.flatMap usesP ∧ r.goals = ps.flatMap goalsP := by
  have k := hC _ (look_pair h) hb
  unfold chk at k
  rw [Bool.and_eq_true, beq_iff_eq, show r.letters.cps.toList = r.parts.map Part.letter from by simp [Row.letters]] at k
  obtain ⟨k1, k2⟩ := k
  rw [← List.map_take] at k1
  rw [← List.map_drop] at k2
  obtain ⟨u, g⟩ := tail_x k2
  have e := (List.take_append_drop pre.length r.parts).symm
  refine ⟨_, _, e, k1, k2, ?_, ?_⟩
  · exact (congrArg (List.flatMap usesP) e).trans (by rw [List.flatMap_append, u, List.append_nil])
  · exact (congrArg (List.flatMap goalsP) e).trans (by rw [List.flatMap_append, g, List.append_nil])
theorem class1 {r : Row} (h : Shaped r) (hb : (["const", "global", "static", "capture", "box", "clear", "caught"] : List Str).any (· == r.name) = true) : ∃ n q, r.parts = .d n :: q ∧ r.uses = [] ∧ r.goals = [] := by
  obtain ⟨ps, q, e, hp0, hx, hu, hg⟩ := shp2 h (any_name hb) [100] (by decide +kernel)
  obtain ⟨p0, l0, rfl, q0, hp1⟩ := parts_cons hp0
  obtain ⟨n0, rfl⟩ := let_d q0
  obtain rfl := parts_nil hp1
  exact ⟨n0, q, e, hu, hg⟩
theorem class2 {r : Row} (h : Shaped r) (hb : (["move", "unbox"] : List Str).any (· == r.name) = true) : ∃ n k q, r.parts = .d n :: .s k :: q ∧ r.uses = [k] ∧ r.goals = [] := by
  obtain ⟨ps, q, e, hp0, hx, hu, hg⟩ := shp2 h (any_name hb) [100, 115] (by decide +kernel)
  obtain ⟨p0, l0, rfl, q0, hp1⟩ := parts_cons hp0
  obtain ⟨n0, rfl⟩ := let_d q0
  obtain ⟨p1, l1, rfl, q1, hp2⟩ := parts_cons hp1
  obtain ⟨n1, rfl⟩ := let_s q1
  obtain rfl := parts_nil hp2
  exact ⟨n0, n1, q, e, hu, hg⟩
theorem class3 {r : Row} (h : Shaped r) (hb : (["setglobal", "method"] : List Str).any (· == r.name) = true) : ∃ x k q, r.parts = .x x :: .s k :: q ∧ r.uses = [k] ∧ r.goals = [] := by
  obtain ⟨ps, q, e, hp0, hx, hu, hg⟩ := shp2 h (any_name hb) [120, 115] (by decide +kernel)
  obtain ⟨p0, l0, rfl, q0, hp1⟩ := parts_cons hp0
  obtain ⟨n0, rfl⟩ := let_x q0
  obtain ⟨p1, l1, rfl, q1, hp2⟩ := parts_cons hp1
  obtain ⟨n1, rfl⟩ := let_s q1
  obtain rfl := parts_nil hp2
  exact ⟨n0, n1, q, e, hu, hg⟩
theorem class4 {r : Row} (h : Shaped r) (hb : (["call", "splat"] : List Str).any (· == r.name) = true) : ∃ n k l q, r.parts = .d n :: .s k :: .m l :: q ∧ r.uses = k :: l ∧ r.goals = [] := by
  obtain ⟨ps, q, e, hp0, hx, hu, hg⟩ := shp2 h (any_name hb) [100, 115, 109] (by decide +kernel)
  obtain ⟨p0, l0, rfl, q0, hp1⟩ := parts_cons hp0
  obtain ⟨n0, rfl⟩ := let_d q0
  obtain ⟨p1, l1, rfl, q1, hp2⟩ := parts_cons hp1
  obtain ⟨n1, rfl⟩ := let_s q1
  obtain ⟨p2, l2, rfl, q2, hp3⟩ := parts_cons hp2
  obtain ⟨n2, rfl⟩ := let_m q2
  obtain rfl := parts_nil hp3
  exact ⟨n0, n1, n2, q, e, hu.trans (by simp [usesP]), hg⟩
theorem class6 {r : Row} (h : Shaped r) (hb : (["closure", "invoke"] : List Str).any (· == r.name) = true) : ∃ n x l q, r.parts = .d n :: .x x :: .m l :: q ∧ r.uses = l ∧ r.goals = [] := by
  obtain ⟨ps, q, e, hp0, hx, hu, hg⟩ := shp2 h (any_name hb) [100, 120, 109] (by decide +kernel)
  obtain ⟨p0, l0, rfl, q0, hp1⟩ := parts_cons hp0
  obtain ⟨n0, rfl⟩ := let_d q0
  obtain ⟨p1, l1, rfl, q1, hp2⟩ := parts_cons hp1
  obtain ⟨n1, rfl⟩ := let_x q1
  obtain ⟨p2, l2, rfl, q2, hp3⟩ := parts_cons hp2
  obtain ⟨n2, rfl⟩ := let_m q2
  obtain rfl := parts_nil hp3
  exact ⟨n0, n1, n2, q, e, hu.trans (by simp [usesP]), hg⟩
theorem class9 {r : Row} (h : Shaped r) (hb : (["return", "defined"] : List Str).any (· == r.name) = true) : ∃ k q, r.parts = .s k :: q ∧ r.uses = [k] ∧ r.goals = [] := by
  obtain ⟨ps, q, e, hp0, hx, hu, hg⟩ := shp2 h (any_name hb) [115] (by decide +kernel)
  obtain ⟨p0, l0, rfl, q0, hp1⟩ := parts_cons hp0
  obtain ⟨n0, rfl⟩ := let_s q0
  obtain rfl := parts_nil hp1
  exact ⟨n0, q, e, hu, hg⟩
theorem shl {r : Row} (h : Shaped r) {C : List Str} (hb : r.name ∈ C) {n : Nat} (hC : ∀ q ∈ shapesL, q.1 ∈ C → q.2.length = n) : r.parts.length = n := by
  have k := hC _ (look_pair h) hb
  dsimp only at k
  rw [Row.letters_len] at k
  exact k
theorem class5 {r : Row} (h : Shaped r) (hb : (r.name == "kwcall") = true) : ∃ n k x l l', r.parts = [.d n, .s k, .x x, .m l, .m l'] ∧ r.uses = (k :: l) ++ l' ∧ r.goals = [] := by
  obtain ⟨ps, q, e, hp0, hx, hu, hg⟩ := shp2 h (C := ["kwcall"]) (List.mem_singleton.mpr (beq_iff_eq.mp hb)) [100, 115, 120, 109, 109] (by decide +kernel)
  have hl : r.parts.length = 5 := shl h (C := ["kwcall"]) (List.mem_singleton.mpr (beq_iff_eq.mp hb)) (by decide +kernel)
  obtain ⟨p0, l0, rfl, q0, hp1⟩ := parts_cons hp0
  obtain ⟨n0, rfl⟩ := let_d q0
  obtain ⟨p1, l1, rfl, q1, hp2⟩ := parts_cons hp1
  obtain ⟨n1, rfl⟩ := let_s q1
  obtain ⟨p2, l2, rfl, q2, hp3⟩ := parts_cons hp2
  obtain ⟨n2, rfl⟩ := let_x q2
  obtain ⟨p3, l3, rfl, q3, hp4⟩ := parts_cons hp3
  obtain ⟨n3, rfl⟩ := let_m q3
  obtain ⟨p4, l4, rfl, q4, hp5⟩ := parts_cons hp4
  obtain ⟨n4, rfl⟩ := let_m q4
  obtain rfl := parts_nil hp5
  obtain rfl : q = [] := List.length_eq_zero_iff.mp (by rw [e, List.length_append] at hl; simp only [List.length_cons, List.length_nil] at hl; omega)
  exact ⟨n0, n1, n2, n3, n4, e, hu.trans (by simp [usesP]), hg⟩
theorem class7 {r : Row} (h : Shaped r) (hb : (r.name == "setbox") = true) : ∃ n k, r.parts = [.s n, .s k] ∧ r.uses = [n, k] ∧ r.goals = [] := by
  obtain ⟨ps, q, e, hp0, hx, hu, hg⟩ := shp2 h (C := ["setbox"]) (List.mem_singleton.mpr (beq_iff_eq.mp hb)) [115, 115] (by decide +kernel)
  have hl : r.parts.length = 2 := shl h (C := ["setbox"]) (List.mem_singleton.mpr (beq_iff_eq.mp hb)) (by decide +kernel)
  obtain ⟨p0, l0, rfl, q0, hp1⟩ := parts_cons hp0
  obtain ⟨n0, rfl⟩ := let_s q0
  obtain ⟨p1, l1, rfl, q1, hp2⟩ := parts_cons hp1
  obtain ⟨n1, rfl⟩ := let_s q1
  obtain rfl := parts_nil hp2
  obtain rfl : q = [] := List.length_eq_zero_iff.mp (by rw [e, List.length_append] at hl; simp only [List.length_cons, List.length_nil] at hl; omega)
  exact ⟨n0, n1, e, hu, hg⟩
theorem class8 {r : Row} (h : Shaped r) (hb : (r.name == "unless") = true) : ∃ n k, r.parts = [.s n, .g k] ∧ r.uses = [n] ∧ r.goals = [k] := by
  obtain ⟨ps, q, e, hp0, hx, hu, hg⟩ := shp2 h (C := ["unless"]) (List.mem_singleton.mpr (beq_iff_eq.mp hb)) [115, 103] (by decide +kernel)
  have hl : r.parts.length = 2 := shl h (C := ["unless"]) (List.mem_singleton.mpr (beq_iff_eq.mp hb)) (by decide +kernel)
  obtain ⟨p0, l0, rfl, q0, hp1⟩ := parts_cons hp0
  obtain ⟨n0, rfl⟩ := let_s q0
  obtain ⟨p1, l1, rfl, q1, hp2⟩ := parts_cons hp1
  obtain ⟨n1, rfl⟩ := let_g q1
  obtain rfl := parts_nil hp2
  obtain rfl : q = [] := List.length_eq_zero_iff.mp (by rw [e, List.length_append] at hl; simp only [List.length_cons, List.length_nil] at hl; omega)
  exact ⟨n0, n1, e, hu, hg⟩
theorem class10 {r : Row} (h : Shaped r) (hb : (["goto", "enter"] : List Str).any (· == r.name) = true) : ∃ n, r.parts = [.g n] ∧ r.uses = [] ∧ r.goals = [n] := by
  obtain ⟨ps, q, e, hp0, hx, hu, hg⟩ := shp2 h (any_name hb) [103] (by decide +kernel)
  have hl : r.parts.length = 1 := shl h (any_name hb) (by decide +kernel)
  obtain ⟨p0, l0, rfl, q0, hp1⟩ := parts_cons hp0
  obtain ⟨n0, rfl⟩ := let_g q0
  obtain rfl := parts_nil hp1
  obtain rfl : q = [] := List.length_eq_zero_iff.mp (by rw [e, List.length_append] at hl; simp only [List.length_cons, List.length_nil] at hl; omega)
  exact ⟨n0, e, hu, hg⟩
theorem class11 {r : Row} (h : Shaped r) (hb : (r.name == "guard") = true) : ∃ x n, r.parts = [.x x, .g n] ∧ r.uses = [] ∧ r.goals = [n] := by
  obtain ⟨ps, q, e, hp0, hx, hu, hg⟩ := shp2 h (C := ["guard"]) (List.mem_singleton.mpr (beq_iff_eq.mp hb)) [120, 103] (by decide +kernel)
  have hl : r.parts.length = 2 := shl h (C := ["guard"]) (List.mem_singleton.mpr (beq_iff_eq.mp hb)) (by decide +kernel)
  obtain ⟨p0, l0, rfl, q0, hp1⟩ := parts_cons hp0
  obtain ⟨n0, rfl⟩ := let_x q0
  obtain ⟨p1, l1, rfl, q1, hp2⟩ := parts_cons hp1
  obtain ⟨n1, rfl⟩ := let_g q1
  obtain rfl := parts_nil hp2
  obtain rfl : q = [] := List.length_eq_zero_iff.mp (by rw [e, List.length_append] at hl; simp only [List.length_cons, List.length_nil] at hl; omega)
  exact ⟨n0, n1, e, hu, hg⟩
theorem class12 {r : Row} (h : Shaped r) (h1 : (["const", "global", "static", "capture", "box", "clear", "caught"] : List Str).any (· == r.name) = false) (h2 : (["move", "unbox"] : List Str).any (· == r.name) = false) (h3 : (["setglobal", "method"] : List Str).any (· == r.name) = false) (h4 : (["call", "splat"] : List Str).any (· == r.name) = false) (h5 : (r.name == "kwcall") = false) (h6 : (["closure", "invoke"] : List Str).any (· == r.name) = false) (h7 : (r.name == "setbox") = false) (h8 : (r.name == "unless") = false) (h9 : (["return", "defined"] : List Str).any (· == r.name) = false) (h10 : (["goto", "enter"] : List Str).any (· == r.name) = false) (h11 : (r.name == "guard") = false) : r.sets = none ∧ r.uses = [] ∧ r.goals = [] := by
  have hn : r.name ∈ (["leave", "rethrow"] : List Str) := (show ∀ x ∈ shapesL.map (·.1), (["const", "global", "static", "capture", "box", "clear", "caught"] : List Str).any (· == x) = false → (["move", "unbox"] : List Str).any (· == x) = false → (["setglobal", "method"] : List Str).any (· == x) = false → (["call", "splat"] : List Str).any (· == x) = false → (x == "kwcall") = false → (["closure", "invoke"] : List Str).any (· == x) = false → (x == "setbox") = false → (x == "unless") = false → (["return", "defined"] : List Str).any (· == x) = false → (["goto", "enter"] : List Str).any (· == x) = false → (x == "guard") = false → x ∈ (["leave", "rethrow"] : List Str) from by decide +kernel) _ (look_mem h) h1 h2 h3 h4 h5 h6 h7 h8 h9 h10 h11
  obtain ⟨ps, q, e, hp0, hx, hu, hg⟩ := shp2 h hn [] (by decide +kernel)
  obtain rfl := parts_nil hp0
  refine ⟨?_, hu, hg⟩
  unfold Row.sets
  rw [e]
  cases q with
  | nil => rfl
  | cons p q =>
    rw [List.map_cons, List.all_cons, Bool.and_eq_true] at hx
    obtain ⟨n, rfl⟩ := let_x (beq_iff_eq.mp hx.1)
    rfl

local macro_rules | `(tactic| walk_at "zstrs") => `(tactic| (repeat' (first | exact StrsAre.nil | apply StrsAre.cons)))
theorem AllV.uncons {α : Type} {S : α → Value → Prop} {a : α} {as : List α} {vs : List Value} (h : AllV S (a :: as) vs) : ∃ x xs, vs = x :: xs ∧ S a x ∧ AllV S as xs := by cases h with | cons x xs => exact ⟨_, _, rfl, x, xs⟩
theorem above_of {a : Addr} {ν ν' : Led} (h : Above a ν) (hs : ∀ p ∈ ν', p ∈ ν) : Above a ν' := fun q hq => h q (hs q hq)
local macro_rules | `(tactic| walk_at "zend") => `(tactic| ((case sub => walk_at "zsub"); (case l1 => walk_at "zo"); (case l2 => walk_at "zo"); (case a1 => exact above_of (by assumption) (by walk_at "zsub")); (case a2 => exact above_of (by assumption) (by walk_at "zsub")); (case a3 => exact above_of (by assumption) (by walk_at "zsub"))))
def sizesL : List (Str × Int) := [("const", 3), ("move", 3), ("global", 3), ("setglobal", 3), ("static", 3), ("capture", 3), ("call", 4), ("splat", 5), ("kwcall", 6), ("closure", 4), ("box", 2), ("unbox", 4), ("setbox", 3), ("clear", 2), ("goto", 2), ("unless", 3), ("return", 2), ("enter", 2), ("leave", 2), ("caught", 2), ("rethrow", 1), ("defined", 3), ("method", 4), ("invoke", 4), ("guard", 3)]
theorem sizes_shapes : sizesL = shapesL.map fun p => (p.1, (p.2.length : Int) + 1) := by decide +kernel
theorem look_map {β γ : Type} (f : β → γ) (k : Str) : ∀ D : List (Str × β), (D.map fun p => (p.1, f p.2)).lookup k = (D.lookup k).map f
  | [] => rfl
  | (x, z) :: D => by
    rw [List.map_cons, List.lookup_cons, List.lookup_cons]
    cases k == x with
    | true => rfl
    | false => exact look_map f k D
theorem sizes_look (k : Str) : sizesL.lookup k = (shapesL.lookup k).map fun y => (y.length : Int) + 1 := by rw [sizes_shapes]; exact look_map (fun y : Str => (y.length : Int) + 1) k shapesL
theorem c_law_parts {c : Cx} {m : Loc} {ν : Led} {P : Value → Loc → Led → Prop} {R : RX} {r : Row} {v : Value} (hr : Room c 1) (hv : RowV ν r v) (hs : Shaped r) (hu : r.uses.length ≤ 100)
    (h : ∀ T S1 S2 sv o1 o2 us gs, OptV r.sets sv → LstO o1 us → LstO o2 gs → AllV IntV r.uses us → AllV IntV r.goals gs → Above T ν → Above S1 ν → Above S2 ν → P (.ref T) m ((T, tupO [sv, .ref S1, .ref S2]) :: (S2, o2) :: (S1, o1) :: ν)) : EV c m ν (call (.ref 205) [v]) P R := by
  have hv0 := hv
  with_reducible refine hide_goal fun _ toG => ?_
  obtain ⟨b, o, tn, vs, rfl, hm, ho, ha⟩ := hv
  refine toG ?_
  have hn := ha.length
  have h5l := shaped_len hs
  refine ev_post ?_
  refine' ev_call (n := 0) (Rb := NoX) (binds := [("row", .ref b)]) ?ho ?hcd hr ?hb ?hl ?hk ?hc ?h (fun _ _ x => x.elim)
  case ho => k_is
  case hcd => k_is
  case hb => exact fun s => BindsTo.of_eq rfl
  case hl => exact locs rfl
  case hk => exact rfl
  case hc => decide
  case h =>
    intro c' hr' _
    dsimp only [bnd]
    refine ev_hide fun K hK => ?_
    have h41 : (Value.str r.name tn :: vs).length < 2 ^ 40 := by simp only [List.length_cons]; omega
    refine ev_cons ?_
    refine ev_AssignSwap2 (h := ?_)
    refine ev_Tuple ?_
    refine ev_spl (h := ?_)
    refine ev_Sub ?_
    refine ev_local (h := ?_)
    refine ev_int (h := fun _ => ?_)
    refine ev_itemTN (h := ?_)
    refine ev_spl (h := ?_)
    refine ev_Call (h := ?_)
    refine ev_bltn (h := ?_)
    refine ev_cwB_0 (h := ?_)
    refine ev_spl (h := ?_)
    refine ev_local (h := ?_)
    refine ev_spl0 ?_
    refine ev_lenT (h := fun _ => ?_)
    refine ev_spl0 ?_
    refine ev_newTuple (h := fun _ _ => ?_)
    refine ⟨_, _, _, _, rfl, .head _, tupO_mk, ?_⟩
    refine ev_sub (ν' := ν) ?_ (fun p hp => .tail _ hp)
    refine ev_store (h := ?_)
    refine ev_store (h := ?_)
    refine then_next ?_
    refine ev_cons ?_
    with_reducible refine' ev_Assign ?_ ?hs
    rotate_left
    · with_unfolding_all rfl
    with_reducible refine' ev_DictCI [⟨"const", 3, _, _, _, _⟩, ⟨"move", 3, _, _, _, _⟩, ⟨"global", 3, _, _, _, _⟩, ⟨"setglobal", 3, _, _, _, _⟩, ⟨"static", 3, _, _, _, _⟩, ⟨"capture", 3, _, _, _, _⟩, ⟨"call", 4, _, _, _, _⟩, ⟨"splat", 5, _, _, _, _⟩, ⟨"kwcall", 6, _, _, _, _⟩, ⟨"closure", 4, _, _, _, _⟩, ⟨"box", 2, _, _, _, _⟩, ⟨"unbox", 4, _, _, _, _⟩, ⟨"setbox", 3, _, _, _, _⟩, ⟨"clear", 2, _, _, _, _⟩, ⟨"goto", 2, _, _, _, _⟩, ⟨"unless", 3, _, _, _, _⟩] ⟨"return", 2, _, _, _, _⟩ [⟨"enter", 2, _, _, _, _⟩, ⟨"leave", 2, _, _, _, _⟩, ⟨"caught", 2, _, _, _, _⟩, ⟨"rethrow", 1, _, _, _, _⟩, ⟨"defined", 3, _, _, _, _⟩, ⟨"method", 4, _, _, _, _⟩, ⟨"invoke", 4, _, _, _, _⟩, ⟨"guard", 3, _, _, _, _⟩] ?hk ?hv ?hA ?hB ?hB0 ?hnd ?hh
    case hk => exact rfl
    case hv => exact rfl
    case hA => exact rfl
    case hB => exact Nat.le_of_ble_eq_true rfl
    case hB0 => exact List.cons_ne_nil _ _
    case hnd => decide +kernel
    intro d od kvs hd hlo hod hkv
    refine ev_store (h := ?_)
    refine then_next ?_
    refine ev_cons ?_
    refine ev_If ?_
    refine ev_isCompare (h := ?_)
    refine ev_CallM (h := ?_)
    refine ev_local (h := ?_)
    refine ev_getSm (h := ?_)
    refine ev_cwB_1 (h := ?_)
    refine ev_spl (h := ?_)
    refine ev_local (h := ?_)
    refine ev_spl0 ?_
    refine ev_getS1 (h := ?_)
    refine ev_local (h := ?_)
    have hkv2 : KVs sizesL kvs := hkv
    have hlk := hkv2.look r.name
    rw [sizes_look, hs] at hlk
    rcases hlk with ⟨e, _⟩ | ⟨n, tk, e, hva⟩
    · cases e
    obtain rfl := Option.some.inj e
    rw [hva, Option.getD_some]
    refine ev_ne ?_
    refine ev_truthyB ?_
    refine ite_isF ?_ ?_
    · dsimp only
      rw [Row.letters_len, bne_eq_false_iff_eq, List.length_cons, hn]
      omega
    refine ev_sub (ν' := ν) ?_ (fun p hp => .tail _ hp)
    clear hkv hkv2 hva hod hd hlo e
    refine ev_nil ?_
    refine then_next ?_
    refine ev_cons ?_
    refine ev_If ?_
    refine ev_isCompare (h := ?_)
    refine ev_local (h := ?_)
    refine ev_Tuple ?_
    refine ev_spl (h := ?_)
    refine ev_str (h := fun _ => ?_)
    refine ev_spl (h := ?_)
    refine ev_str (h := fun _ => ?_)
    refine ev_spl (h := ?_)
    refine ev_str (h := fun _ => ?_)
    refine ev_spl (h := ?_)
    refine ev_str (h := fun _ => ?_)
    refine ev_spl (h := ?_)
    refine ev_str (h := fun _ => ?_)
    refine ev_spl (h := ?_)
    refine ev_str (h := fun _ => ?_)
    refine ev_spl (h := ?_)
    refine ev_str (h := fun _ => ?_)
    refine ev_spl0 ?_
    refine ev_newTuple (h := fun _ _ => ?_)
    refine ev_inTupL (h := ?_)
    refine ev_truthyB ?_
    refine ite_B (fun hb => ?_) fun h1 => ?_
    · with_reducible refine hide_goal fun _ toG => ?_
      obtain ⟨n, q, hp, hus, hgs⟩ := class1 hs hb
      rw [hp] at ha
      obtain ⟨x1, xs, rfl, hx1, ha⟩ := ha.uncons
      obtain ⟨t1, rfl⟩ := hx1
      refine toG ?_
      refine ev_cons ?_
      refine ev_Return ?_
      refine ev_Tuple ?_
      refine ev_spl (h := ?_)
      refine ev_Sub ?_
      refine ev_local (h := ?_)
      refine ev_int (h := fun _ => ?_)
      refine ev_itemTN (h := ?_)
      refine ev_spl (h := ?_)
      refine ev_List ?_
      refine ev_spl0 ?_
      refine ev_newList (h := fun _ _ => ?_)
      refine ev_spl (h := ?_)
      refine ev_List ?_
      refine ev_spl0 ?_
      refine ev_newList (h := fun _ _ => ?_)
      refine ev_spl0 ?_
      refine ev_newTuple (h := fun _ _ => ?_)
      refine then_ret ?_
      refine then_ret ?_
      refine hK _ _ _ ?_
      refine' ⟨_, ?sub, h _ _ _ _ _ _ _ _ ?sv ?l1 ?l2 ?u ?g ?a1 ?a2 ?a3⟩
      walk_at "zend"
      case sv => unfold Row.sets; rw [hp]; exact ⟨t1, rfl⟩
      case u => rw [hus]; exact .nil
      case g => rw [hgs]; exact .nil
    refine ev_sub (ν' := ν) ?_ (by walk_at "zbase")
    refine ev_nil ?_
    refine then_next ?_
    refine ev_cons ?_
    refine ev_If ?_
    refine ev_isCompare (h := ?_)
    refine ev_local (h := ?_)
    refine ev_Tuple ?_
    refine ev_spl (h := ?_)
    refine ev_str (h := fun _ => ?_)
    refine ev_spl (h := ?_)
    refine ev_str (h := fun _ => ?_)
    refine ev_spl0 ?_
    refine ev_newTuple (h := fun _ _ => ?_)
    refine ev_inTupL (h := ?_)
    refine ev_truthyB ?_
    refine ite_B (fun hb => ?_) fun h2 => ?_
    · with_reducible refine hide_goal fun _ toG => ?_
      obtain ⟨n, k, q, hp, hus, hgs⟩ := class2 hs hb
      rw [hp] at ha
      obtain ⟨x1, xs, rfl, hx1, ha⟩ := ha.uncons
      obtain ⟨x2, xs, rfl, hx2, ha⟩ := ha.uncons
      obtain ⟨t1, rfl⟩ := hx1
      obtain ⟨t2, rfl⟩ := hx2
      refine toG ?_
      refine ev_cons ?_
      refine ev_Return ?_
      refine ev_Tuple ?_
      refine ev_spl (h := ?_)
      refine ev_Sub ?_
      refine ev_local (h := ?_)
      refine ev_int (h := fun _ => ?_)
      refine ev_itemTN (h := ?_)
      refine ev_spl (h := ?_)
      refine ev_List ?_
      refine ev_spl (h := ?_)
      refine ev_Sub ?_
      refine ev_local (h := ?_)
      refine ev_int (h := fun _ => ?_)
      refine ev_itemTN (h := ?_)
      refine ev_spl0 ?_
      refine ev_newList (h := fun _ _ => ?_)
      refine ev_spl (h := ?_)
      refine ev_List ?_
      refine ev_spl0 ?_
      refine ev_newList (h := fun _ _ => ?_)
      refine ev_spl0 ?_
      refine ev_newTuple (h := fun _ _ => ?_)
      refine then_ret ?_
      refine then_ret ?_
      refine hK _ _ _ ?_
      refine' ⟨_, ?sub, h _ _ _ _ _ _ _ _ ?sv ?l1 ?l2 ?u ?g ?a1 ?a2 ?a3⟩
      walk_at "zend"
      case sv => unfold Row.sets; rw [hp]; exact ⟨t1, rfl⟩
      case u => rw [hus]; exact .cons ⟨t2, rfl⟩ .nil
      case g => rw [hgs]; exact .nil
    refine ev_sub (ν' := ν) ?_ (by walk_at "zbase")
    refine ev_nil ?_
    refine then_next ?_
    refine ev_cons ?_
    refine ev_If ?_
    refine ev_isCompare (h := ?_)
    refine ev_local (h := ?_)
    refine ev_Tuple ?_
    refine ev_spl (h := ?_)
    refine ev_str (h := fun _ => ?_)
    refine ev_spl (h := ?_)
    refine ev_str (h := fun _ => ?_)
    refine ev_spl0 ?_
    refine ev_newTuple (h := fun _ _ => ?_)
    refine ev_inTupL (h := ?_)
    refine ev_truthyB ?_
    refine ite_B (fun hb => ?_) fun h3 => ?_
    · with_reducible refine hide_goal fun _ toG => ?_
      obtain ⟨x, k, q, hp, hus, hgs⟩ := class3 hs hb
      rw [hp] at ha
      obtain ⟨x1, xs, rfl, hx1, ha⟩ := ha.uncons
      obtain ⟨x2, xs, rfl, hx2, ha⟩ := ha.uncons
      obtain ⟨t2, rfl⟩ := hx2
      refine toG ?_
      refine ev_cons ?_
      refine ev_Return ?_
      refine ev_Tuple ?_
      refine ev_spl (h := ?_)
      refine ev_none ?_
      refine ev_spl (h := ?_)
      refine ev_List ?_
      refine ev_spl (h := ?_)
      refine ev_Sub ?_
      refine ev_local (h := ?_)
      refine ev_int (h := fun _ => ?_)
      refine ev_itemTN (h := ?_)
      refine ev_spl0 ?_
      refine ev_newList (h := fun _ _ => ?_)
      refine ev_spl (h := ?_)
      refine ev_List ?_
      refine ev_spl0 ?_
      refine ev_newList (h := fun _ _ => ?_)
      refine ev_spl0 ?_
      refine ev_newTuple (h := fun _ _ => ?_)
      refine then_ret ?_
      refine then_ret ?_
      refine hK _ _ _ ?_
      refine' ⟨_, ?sub, h _ _ _ _ _ _ _ _ ?sv ?l1 ?l2 ?u ?g ?a1 ?a2 ?a3⟩
      walk_at "zend"
      case sv => unfold Row.sets; rw [hp]
      case u => rw [hus]; exact .cons ⟨t2, rfl⟩ .nil
      case g => rw [hgs]; exact .nil
    refine ev_sub (ν' := ν) ?_ (by walk_at "zbase")
    refine ev_nil ?_
    refine then_next ?_
    refine ev_cons ?_
    refine ev_If ?_
    refine ev_isCompare (h := ?_)
    refine ev_local (h := ?_)
    refine ev_Tuple ?_
    refine ev_spl (h := ?_)
    refine ev_str (h := fun _ => ?_)
    refine ev_spl (h := ?_)
    refine ev_str (h := fun _ => ?_)
    refine ev_spl0 ?_
    refine ev_newTuple (h := fun _ _ => ?_)
    refine ev_inTupL (h := ?_)
    refine ev_truthyB ?_
    refine ite_B (fun hb => ?_) fun h4 => ?_
    · with_reducible refine hide_goal fun _ toG => ?_
      obtain ⟨n, k, l, q, hp, hus, hgs⟩ := class4 hs hb
      rw [hp] at ha
      obtain ⟨x1, xs, rfl, hx1, ha⟩ := ha.uncons
      obtain ⟨x2, xs, rfl, hx2, ha⟩ := ha.uncons
      obtain ⟨x3, xs, rfl, hx3, ha⟩ := ha.uncons
      obtain ⟨t1, rfl⟩ := hx1
      obtain ⟨t2, rfl⟩ := hx2
      obtain ⟨tb3, tob3, tvs3, rfl, htm3, hto3, hta3⟩ := hx3
      refine toG ?_
      have hz3 := hta3.length
      rw [List.length_map] at hz3
      rw [hus, List.length_cons] at hu
      refine ev_cons ?_
      refine ev_Return ?_
      refine ev_Tuple ?_
      refine ev_spl (h := ?_)
      refine ev_Sub ?_
      refine ev_local (h := ?_)
      refine ev_int (h := fun _ => ?_)
      refine ev_itemTN (h := ?_)
      refine ev_spl (h := ?_)
      refine ev_BinOp ?_
      refine ev_List ?_
      refine ev_spl (h := ?_)
      refine ev_Sub ?_
      refine ev_local (h := ?_)
      refine ev_int (h := fun _ => ?_)
      refine ev_itemTN (h := ?_)
      refine ev_spl0 ?_
      refine ev_newList (h := fun _ _ => ?_)
      refine ev_Call (h := ?_)
      refine ev_bltn (h := ?_)
      refine ev_cwT_0 (h := ?_)
      refine ev_spl (h := ?_)
      refine ev_Sub ?_
      refine ev_local (h := ?_)
      refine ev_int (h := fun _ => ?_)
      refine ev_itemTN (h := ?_)
      refine ev_spl0 ?_
      refine ev_listOfT (by walk_at "zmem") hto3 (Nat.le_trans (by omega) (show 100 ≤ sizeLine by decide)) fun L1 ol1 hL1 hol1 => ?_
      refine ev_addL (by walk_at "zmem") lstO_mk (.head _) hol1 (Nat.le_trans (by simp only [List.length_cons, List.length_nil]; omega) (show 101 ≤ sizeLine by decide)) fun L2 ol2 hL2 hol2 => ?_
      refine ev_spl (h := ?_)
      refine ev_List ?_
      refine ev_spl0 ?_
      refine ev_newList (h := fun _ _ => ?_)
      refine ev_spl0 ?_
      refine ev_newTuple (h := fun _ _ => ?_)
      refine then_ret ?_
      refine then_ret ?_
      refine hK _ _ _ ?_
      refine' ⟨_, ?sub, h _ _ _ _ _ _ _ _ ?sv ?l1 ?l2 ?u ?g ?a1 ?a2 ?a3⟩
      walk_at "zend"
      case sv => unfold Row.sets; rw [hp]; exact ⟨t1, rfl⟩
      case u => rw [hus]; exact (show AllV IntV [k] _ from .cons ⟨t2, rfl⟩ .nil).app (ints_at hta3)
      case g => rw [hgs]; exact .nil
    refine ev_sub (ν' := ν) ?_ (by walk_at "zbase")
    refine ev_nil ?_
    refine then_next ?_
    refine ev_cons ?_
    refine ev_If ?_
    refine ev_isCompare (h := ?_)
    refine ev_local (h := ?_)
    refine ev_str (h := fun _ => ?_)
    refine ev_eqS ?_
    refine ev_truthyB ?_
    refine ite_B (fun hb => ?_) fun h5 => ?_
    · with_reducible refine hide_goal fun _ toG => ?_
      obtain ⟨n, k, x, l, l', hp, hus, hgs⟩ := class5 hs hb
      rw [hp] at ha
      obtain ⟨x1, xs, rfl, hx1, ha⟩ := ha.uncons
      obtain ⟨x2, xs, rfl, hx2, ha⟩ := ha.uncons
      obtain ⟨x3, xs, rfl, hx3, ha⟩ := ha.uncons
      obtain ⟨x4, xs, rfl, hx4, ha⟩ := ha.uncons
      obtain ⟨x5, xs, rfl, hx5, ha⟩ := ha.uncons
      obtain ⟨t1, rfl⟩ := hx1
      obtain ⟨t2, rfl⟩ := hx2
      obtain ⟨tb4, tob4, tvs4, rfl, htm4, hto4, hta4⟩ := hx4
      obtain ⟨tb5, tob5, tvs5, rfl, htm5, hto5, hta5⟩ := hx5
      refine toG ?_
      have hz4 := hta4.length
      have hz5 := hta5.length
      rw [List.length_map] at hz4 hz5
      rw [hus, List.length_append, List.length_cons] at hu
      refine ev_cons ?_
      refine ev_Return ?_
      refine ev_Tuple ?_
      refine ev_spl (h := ?_)
      refine ev_Sub ?_
      refine ev_local (h := ?_)
      refine ev_int (h := fun _ => ?_)
      refine ev_itemTN (h := ?_)
      refine ev_spl (h := ?_)
      refine ev_BinOp ?_
      refine ev_BinOp ?_
      refine ev_List ?_
      refine ev_spl (h := ?_)
      refine ev_Sub ?_
      refine ev_local (h := ?_)
      refine ev_int (h := fun _ => ?_)
      refine ev_itemTN (h := ?_)
      refine ev_spl0 ?_
      refine ev_newList (h := fun _ _ => ?_)
      refine ev_Call (h := ?_)
      refine ev_bltn (h := ?_)
      refine ev_cwT_0 (h := ?_)
      refine ev_spl (h := ?_)
      refine ev_Sub ?_
      refine ev_local (h := ?_)
      refine ev_int (h := fun _ => ?_)
      refine ev_itemTN (h := ?_)
      refine ev_spl0 ?_
      refine ev_listOfT (by walk_at "zmem") hto4 (Nat.le_trans (by omega) (show 100 ≤ sizeLine by decide)) fun L1 ol1 hL1 hol1 => ?_
      refine ev_addL (by walk_at "zmem") lstO_mk (.head _) hol1 (Nat.le_trans (by simp only [List.length_cons, List.length_nil]; omega) (show 101 ≤ sizeLine by decide)) fun L2 ol2 hL2 hol2 => ?_
      refine ev_Call (h := ?_)
      refine ev_bltn (h := ?_)
      refine ev_cwT_0 (h := ?_)
      refine ev_spl (h := ?_)
      refine ev_Sub ?_
      refine ev_local (h := ?_)
      refine ev_int (h := fun _ => ?_)
      refine ev_itemTN (h := ?_)
      refine ev_spl0 ?_
      refine ev_listOfT (by walk_at "zmem") hto5 (Nat.le_trans (by omega) (show 100 ≤ sizeLine by decide)) fun L3 ol3 hL3 hol3 => ?_
      refine ev_addL (by walk_at "zmem") hol2 (.head _) hol3 (Nat.le_trans (by simp only [List.length_append, List.length_cons, List.length_nil]; omega) (show 201 ≤ sizeLine by decide)) fun L4 ol4 hL4 hol4 => ?_
      refine ev_spl (h := ?_)
      refine ev_List ?_
      refine ev_spl0 ?_
      refine ev_newList (h := fun _ _ => ?_)
      refine ev_spl0 ?_
      refine ev_newTuple (h := fun _ _ => ?_)
      refine then_ret ?_
      refine then_ret ?_
      refine hK _ _ _ ?_
      refine' ⟨_, ?sub, h _ _ _ _ _ _ _ _ ?sv ?l1 ?l2 ?u ?g ?a1 ?a2 ?a3⟩
      walk_at "zend"
      case sv => unfold Row.sets; rw [hp]; exact ⟨t1, rfl⟩
      case u => rw [hus]; exact ((show AllV IntV [k] _ from .cons ⟨t2, rfl⟩ .nil).app (ints_at hta4)).app (ints_at hta5)
      case g => rw [hgs]; exact .nil
    refine ev_sub (ν' := ν) ?_ (by walk_at "zbase")
    refine ev_nil ?_
    refine then_next ?_
    refine ev_cons ?_
    refine ev_If ?_
    refine ev_isCompare (h := ?_)
    refine ev_local (h := ?_)
    refine ev_Tuple ?_
    refine ev_spl (h := ?_)
    refine ev_str (h := fun _ => ?_)
    refine ev_spl (h := ?_)
    refine ev_str (h := fun _ => ?_)
    refine ev_spl0 ?_
    refine ev_newTuple (h := fun _ _ => ?_)
    refine ev_inTupL (h := ?_)
    refine ev_truthyB ?_
    refine ite_B (fun hb => ?_) fun h6 => ?_
    · with_reducible refine hide_goal fun _ toG => ?_
      obtain ⟨n, x, l, q, hp, hus, hgs⟩ := class6 hs hb
      rw [hp] at ha
      obtain ⟨x1, xs, rfl, hx1, ha⟩ := ha.uncons
      obtain ⟨x2, xs, rfl, hx2, ha⟩ := ha.uncons
      obtain ⟨x3, xs, rfl, hx3, ha⟩ := ha.uncons
      obtain ⟨t1, rfl⟩ := hx1
      obtain ⟨tb3, tob3, tvs3, rfl, htm3, hto3, hta3⟩ := hx3
      refine toG ?_
      have hz3 := hta3.length
      rw [List.length_map] at hz3
      rw [hus] at hu
      refine ev_cons ?_
      refine ev_Return ?_
      refine ev_Tuple ?_
      refine ev_spl (h := ?_)
      refine ev_Sub ?_
      refine ev_local (h := ?_)
      refine ev_int (h := fun _ => ?_)
      refine ev_itemTN (h := ?_)
      refine ev_spl (h := ?_)
      refine ev_Call (h := ?_)
      refine ev_bltn (h := ?_)
      refine ev_cwT_0 (h := ?_)
      refine ev_spl (h := ?_)
      refine ev_Sub ?_
      refine ev_local (h := ?_)
      refine ev_int (h := fun _ => ?_)
      refine ev_itemTN (h := ?_)
      refine ev_spl0 ?_
      refine ev_listOfT (by walk_at "zmem") hto3 (Nat.le_trans (by omega) (show 100 ≤ sizeLine by decide)) fun L1 ol1 hL1 hol1 => ?_
      refine ev_spl (h := ?_)
      refine ev_List ?_
      refine ev_spl0 ?_
      refine ev_newList (h := fun _ _ => ?_)
      refine ev_spl0 ?_
      refine ev_newTuple (h := fun _ _ => ?_)
      refine then_ret ?_
      refine then_ret ?_
      refine hK _ _ _ ?_
      refine' ⟨_, ?sub, h _ _ _ _ _ _ _ _ ?sv ?l1 ?l2 ?u ?g ?a1 ?a2 ?a3⟩
      walk_at "zend"
      case sv => unfold Row.sets; rw [hp]; exact ⟨t1, rfl⟩
      case u => rw [hus]; exact ints_at hta3
      case g => rw [hgs]; exact .nil
    refine ev_sub (ν' := ν) ?_ (by walk_at "zbase")
    refine ev_nil ?_
    refine then_next ?_
    refine ev_cons ?_
    refine ev_If ?_
    refine ev_isCompare (h := ?_)
    refine ev_local (h := ?_)
    refine ev_str (h := fun _ => ?_)
    refine ev_eqS ?_
    refine ev_truthyB ?_
    refine ite_B (fun hb => ?_) fun h7 => ?_
    · with_reducible refine hide_goal fun _ toG => ?_
      obtain ⟨n, k, hp, hus, hgs⟩ := class7 hs hb
      rw [hp] at ha
      obtain ⟨x1, xs, rfl, hx1, ha⟩ := ha.uncons
      obtain ⟨x2, xs, rfl, hx2, ha⟩ := ha.uncons
      obtain ⟨t1, rfl⟩ := hx1
      obtain ⟨t2, rfl⟩ := hx2
      refine toG ?_
      refine ev_cons ?_
      refine ev_Return ?_
      refine ev_Tuple ?_
      refine ev_spl (h := ?_)
      refine ev_none ?_
      refine ev_spl (h := ?_)
      refine ev_List ?_
      refine ev_spl (h := ?_)
      refine ev_Sub ?_
      refine ev_local (h := ?_)
      refine ev_int (h := fun _ => ?_)
      refine ev_itemTN (h := ?_)
      refine ev_spl (h := ?_)
      refine ev_Sub ?_
      refine ev_local (h := ?_)
      refine ev_int (h := fun _ => ?_)
      refine ev_itemTN (h := ?_)
      refine ev_spl0 ?_
      refine ev_newList (h := fun _ _ => ?_)
      refine ev_spl (h := ?_)
      refine ev_List ?_
      refine ev_spl0 ?_
      refine ev_newList (h := fun _ _ => ?_)
      refine ev_spl0 ?_
      refine ev_newTuple (h := fun _ _ => ?_)
      refine then_ret ?_
      refine then_ret ?_
      refine hK _ _ _ ?_
      refine' ⟨_, ?sub, h _ _ _ _ _ _ _ _ ?sv ?l1 ?l2 ?u ?g ?a1 ?a2 ?a3⟩
      walk_at "zend"
      case sv => unfold Row.sets; rw [hp]
      case u => rw [hus]; exact .cons ⟨t1, rfl⟩ (.cons ⟨t2, rfl⟩ .nil)
      case g => rw [hgs]; exact .nil
    refine ev_sub (ν' := ν) ?_ (by walk_at "zbase")
    refine ev_nil ?_
    refine then_next ?_
    refine ev_cons ?_
    refine ev_If ?_
    refine ev_isCompare (h := ?_)
    refine ev_local (h := ?_)
    refine ev_str (h := fun _ => ?_)
    refine ev_eqS ?_
    refine ev_truthyB ?_
    refine ite_B (fun hb => ?_) fun h8 => ?_
    · with_reducible refine hide_goal fun _ toG => ?_
      obtain ⟨n, k, hp, hus, hgs⟩ := class8 hs hb
      rw [hp] at ha
      obtain ⟨x1, xs, rfl, hx1, ha⟩ := ha.uncons
      obtain ⟨x2, xs, rfl, hx2, ha⟩ := ha.uncons
      obtain ⟨t1, rfl⟩ := hx1
      obtain ⟨t2, rfl⟩ := hx2
      refine toG ?_
      refine ev_cons ?_
      refine ev_Return ?_
      refine ev_Tuple ?_
      refine ev_spl (h := ?_)
      refine ev_none ?_
      refine ev_spl (h := ?_)
      refine ev_List ?_
      refine ev_spl (h := ?_)
      refine ev_Sub ?_
      refine ev_local (h := ?_)
      refine ev_int (h := fun _ => ?_)
      refine ev_itemTN (h := ?_)
      refine ev_spl0 ?_
      refine ev_newList (h := fun _ _ => ?_)
      refine ev_spl (h := ?_)
      refine ev_List ?_
      refine ev_spl (h := ?_)
      refine ev_Sub ?_
      refine ev_local (h := ?_)
      refine ev_int (h := fun _ => ?_)
      refine ev_itemTN (h := ?_)
      refine ev_spl0 ?_
      refine ev_newList (h := fun _ _ => ?_)
      refine ev_spl0 ?_
      refine ev_newTuple (h := fun _ _ => ?_)
      refine then_ret ?_
      refine then_ret ?_
      refine hK _ _ _ ?_
      refine' ⟨_, ?sub, h _ _ _ _ _ _ _ _ ?sv ?l1 ?l2 ?u ?g ?a1 ?a2 ?a3⟩
      walk_at "zend"
      case sv => unfold Row.sets; rw [hp]
      case u => rw [hus]; exact .cons ⟨t1, rfl⟩ .nil
      case g => rw [hgs]; exact .cons ⟨t2, rfl⟩ .nil
    refine ev_sub (ν' := ν) ?_ (by walk_at "zbase")
    refine ev_nil ?_
    refine then_next ?_
    refine ev_cons ?_
    refine ev_If ?_
    refine ev_isCompare (h := ?_)
    refine ev_local (h := ?_)
    refine ev_Tuple ?_
    refine ev_spl (h := ?_)
    refine ev_str (h := fun _ => ?_)
    refine ev_spl (h := ?_)
    refine ev_str (h := fun _ => ?_)
    refine ev_spl0 ?_
    refine ev_newTuple (h := fun _ _ => ?_)
    refine ev_inTupL (h := ?_)
    refine ev_truthyB ?_
    refine ite_B (fun hb => ?_) fun h9 => ?_
    · with_reducible refine hide_goal fun _ toG => ?_
      obtain ⟨k, q, hp, hus, hgs⟩ := class9 hs hb
      rw [hp] at ha
      obtain ⟨x1, xs, rfl, hx1, ha⟩ := ha.uncons
      obtain ⟨t1, rfl⟩ := hx1
      refine toG ?_
      refine ev_cons ?_
      refine ev_Return ?_
      refine ev_Tuple ?_
      refine ev_spl (h := ?_)
      refine ev_none ?_
      refine ev_spl (h := ?_)
      refine ev_List ?_
      refine ev_spl (h := ?_)
      refine ev_Sub ?_
      refine ev_local (h := ?_)
      refine ev_int (h := fun _ => ?_)
      refine ev_itemTN (h := ?_)
      refine ev_spl0 ?_
      refine ev_newList (h := fun _ _ => ?_)
      refine ev_spl (h := ?_)
      refine ev_List ?_
      refine ev_spl0 ?_
      refine ev_newList (h := fun _ _ => ?_)
      refine ev_spl0 ?_
      refine ev_newTuple (h := fun _ _ => ?_)
      refine then_ret ?_
      refine then_ret ?_
      refine hK _ _ _ ?_
      refine' ⟨_, ?sub, h _ _ _ _ _ _ _ _ ?sv ?l1 ?l2 ?u ?g ?a1 ?a2 ?a3⟩
      walk_at "zend"
      case sv => unfold Row.sets; rw [hp]
      case u => rw [hus]; exact .cons ⟨t1, rfl⟩ .nil
      case g => rw [hgs]; exact .nil
    refine ev_sub (ν' := ν) ?_ (by walk_at "zbase")
    refine ev_nil ?_
    refine then_next ?_
    refine ev_cons ?_
    refine ev_If ?_
    refine ev_isCompare (h := ?_)
    refine ev_local (h := ?_)
    refine ev_Tuple ?_
    refine ev_spl (h := ?_)
    refine ev_str (h := fun _ => ?_)
    refine ev_spl (h := ?_)
    refine ev_str (h := fun _ => ?_)
    refine ev_spl0 ?_
    refine ev_newTuple (h := fun _ _ => ?_)
    refine ev_inTupL (h := ?_)
    refine ev_truthyB ?_
    refine ite_B (fun hb => ?_) fun h10 => ?_
    · with_reducible refine hide_goal fun _ toG => ?_
      obtain ⟨n, hp, hus, hgs⟩ := class10 hs hb
      rw [hp] at ha
      obtain ⟨x1, xs, rfl, hx1, ha⟩ := ha.uncons
      obtain ⟨t1, rfl⟩ := hx1
      refine toG ?_
      refine ev_cons ?_
      refine ev_Return ?_
      refine ev_Tuple ?_
      refine ev_spl (h := ?_)
      refine ev_none ?_
      refine ev_spl (h := ?_)
      refine ev_List ?_
      refine ev_spl0 ?_
      refine ev_newList (h := fun _ _ => ?_)
      refine ev_spl (h := ?_)
      refine ev_List ?_
      refine ev_spl (h := ?_)
      refine ev_Sub ?_
      refine ev_local (h := ?_)
      refine ev_int (h := fun _ => ?_)
      refine ev_itemTN (h := ?_)
      refine ev_spl0 ?_
      refine ev_newList (h := fun _ _ => ?_)
      refine ev_spl0 ?_
      refine ev_newTuple (h := fun _ _ => ?_)
      refine then_ret ?_
      refine then_ret ?_
      refine hK _ _ _ ?_
      refine' ⟨_, ?sub, h _ _ _ _ _ _ _ _ ?sv ?l1 ?l2 ?u ?g ?a1 ?a2 ?a3⟩
      walk_at "zend"
      case sv => unfold Row.sets; rw [hp]
      case u => rw [hus]; exact .nil
      case g => rw [hgs]; exact .cons ⟨t1, rfl⟩ .nil
    refine ev_sub (ν' := ν) ?_ (by walk_at "zbase")
    refine ev_nil ?_
    refine then_next ?_
    refine ev_cons ?_
    refine ev_Return ?_
    refine ev_Tuple ?_
    refine ev_spl (h := ?_)
    refine ev_none ?_
    refine ev_spl (h := ?_)
    refine ev_List ?_
    refine ev_spl0 ?_
    refine ev_newList (h := fun _ _ => ?_)
    refine ev_spl (h := ?_)
    refine ev_IfExp ?_
    refine ev_isCompare (h := ?_)
    refine ev_local (h := ?_)
    refine ev_str (h := fun _ => ?_)
    refine ev_eqS ?_
    refine ev_truthyB ?_
    refine ite_B (fun hb => ?_) fun h11 => ?_
    · with_reducible refine hide_goal fun _ toG => ?_
      obtain ⟨x, n, hp, hus, hgs⟩ := class11 hs hb
      rw [hp] at ha
      obtain ⟨x1, xs, rfl, hx1, ha⟩ := ha.uncons
      obtain ⟨x2, xs, rfl, hx2, ha⟩ := ha.uncons
      obtain ⟨t2, rfl⟩ := hx2
      refine toG ?_
      refine ev_List ?_
      refine ev_spl (h := ?_)
      refine ev_Sub ?_
      refine ev_local (h := ?_)
      refine ev_int (h := fun _ => ?_)
      refine ev_itemTN (h := ?_)
      refine ev_spl0 ?_
      refine ev_newList (h := fun _ _ => ?_)
      refine ev_spl0 ?_
      refine ev_newTuple (h := fun _ _ => ?_)
      refine then_ret ?_
      refine hK _ _ _ ?_
      refine' ⟨_, ?sub, h _ _ _ _ _ _ _ _ ?sv ?l1 ?l2 ?u ?g ?a1 ?a2 ?a3⟩
      walk_at "zend"
      case sv => unfold Row.sets; rw [hp]
      case u => rw [hus]; exact .nil
      case g => rw [hgs]; exact .cons ⟨t2, rfl⟩ .nil
    · obtain ⟨hset, hus, hgs⟩ := class12 hs h1 h2 h3 h4 h5 h6 h7 h8 h9 h10 h11
      refine ev_List ?_
      refine ev_spl0 ?_
      refine ev_newList (h := fun _ _ => ?_)
      refine ev_spl0 ?_
      refine ev_newTuple (h := fun _ _ => ?_)
      refine then_ret ?_
      refine hK _ _ _ ?_
      refine' ⟨_, ?sub, h _ _ _ _ _ _ _ _ ?sv ?l1 ?l2 ?u ?g ?a1 ?a2 ?a3⟩
      walk_at "zend"
      case sv => rw [hset]
      case u => rw [hus]; exact .nil
      case g => rw [hgs]; exact .nil

local macro_rules | `(tactic| walk_at "zstrs") => `(tactic| (repeat' (first | exact StrsAre.nil | apply StrsAre.cons)))
local macro_rules | `(tactic| walk_at "zend") => `(tactic| ((case sub => walk_at "zsub"); (case l1 => walk_at "zo"); (case l2 => walk_at "zo"); (case a1 => exact above_of (by assumption) (by walk_at "zsub")); (case a2 => exact above_of (by assumption) (by walk_at "zsub")); (case a3 => exact above_of (by assumption) (by walk_at "zsub"))))
theorem c_law_parts_odd {c : Cx} {m : Loc} {ν : Led} {P : Value → Loc → Led → Prop} {R : RX} {r : Row} {v : Value} (hr : Room c 1) (hv : RowV ν r v) (hs : Odd r) (h : P .none m ν) : EV c m ν (call (.ref 205) [v]) P R := by
  refine ev_post ?_
  have hv0 := hv
  with_reducible refine hide_goal fun _ toG => ?_
  obtain ⟨b, o, tn, vs, rfl, hm, ho, ha⟩ := hv
  refine toG ?_
  have hn := ha.length
  refine' ev_call (n := 0) (Rb := NoX) (binds := [("row", .ref b)]) ?ho ?hcd hr ?hb ?hl ?hk ?hc ?h (fun _ _ x => x.elim)
  case ho => k_is
  case hcd => k_is
  case hb => exact fun s => BindsTo.of_eq rfl
  case hl => exact locs rfl
  case hk => exact rfl
  case hc => decide
  case h =>
    intro c' hr' _
    dsimp only [bnd]
    have h41 : (Value.str r.name tn :: vs).length < 2 ^ 40 := by have := hs.1.1; simp only [List.length_cons]; omega
    refine ev_cons ?_
    refine ev_AssignSwap2 (h := ?_)
    refine ev_Tuple ?_
    refine ev_spl (h := ?_)
    refine ev_Sub ?_
    refine ev_local (h := ?_)
    refine ev_int (h := fun _ => ?_)
    refine ev_itemTN (h := ?_)
    refine ev_spl (h := ?_)
    refine ev_Call (h := ?_)
    refine ev_bltn (h := ?_)
    refine ev_cwB_0 (h := ?_)
    refine ev_spl (h := ?_)
    refine ev_local (h := ?_)
    refine ev_spl0 ?_
    refine ev_lenT (h := fun _ => ?_)
    refine ev_spl0 ?_
    refine ev_newTuple (h := fun _ _ => ?_)
    refine ⟨_, _, _, _, rfl, .head _, tupO_mk, ?_⟩
    refine ev_sub (ν' := ν) ?_ (fun p hp => .tail _ hp)
    refine ev_store (h := ?_)
    refine ev_store (h := ?_)
    refine then_next ?_
    refine ev_cons ?_
    with_reducible refine' ev_Assign ?_ ?hs
    rotate_left
    · with_unfolding_all rfl
    with_reducible refine' ev_DictCI [⟨"const", 3, _, _, _, _⟩, ⟨"move", 3, _, _, _, _⟩, ⟨"global", 3, _, _, _, _⟩, ⟨"setglobal", 3, _, _, _, _⟩, ⟨"static", 3, _, _, _, _⟩, ⟨"capture", 3, _, _, _, _⟩, ⟨"call", 4, _, _, _, _⟩, ⟨"splat", 5, _, _, _, _⟩, ⟨"kwcall", 6, _, _, _, _⟩, ⟨"closure", 4, _, _, _, _⟩, ⟨"box", 2, _, _, _, _⟩, ⟨"unbox", 4, _, _, _, _⟩, ⟨"setbox", 3, _, _, _, _⟩, ⟨"clear", 2, _, _, _, _⟩, ⟨"goto", 2, _, _, _, _⟩, ⟨"unless", 3, _, _, _, _⟩] ⟨"return", 2, _, _, _, _⟩ [⟨"enter", 2, _, _, _, _⟩, ⟨"leave", 2, _, _, _, _⟩, ⟨"caught", 2, _, _, _, _⟩, ⟨"rethrow", 1, _, _, _, _⟩, ⟨"defined", 3, _, _, _, _⟩, ⟨"method", 4, _, _, _, _⟩, ⟨"invoke", 4, _, _, _, _⟩, ⟨"guard", 3, _, _, _, _⟩] ?hk ?hv ?hA ?hB ?hB0 ?hnd ?hh
    case hk => exact rfl
    case hv => exact rfl
    case hA => exact rfl
    case hB => exact Nat.le_of_ble_eq_true rfl
    case hB0 => exact List.cons_ne_nil _ _
    case hnd => decide +kernel
    intro d od kvs hd hlo hod hkv
    refine ev_store (h := ?_)
    refine then_next ?_
    refine ev_cons ?_
    refine ev_If ?_
    refine ev_isCompare (h := ?_)
    refine ev_CallM (h := ?_)
    refine ev_local (h := ?_)
    refine ev_getSm (h := ?_)
    refine ev_cwB_1 (h := ?_)
    refine ev_spl (h := ?_)
    refine ev_local (h := ?_)
    refine ev_spl0 ?_
    refine ev_getS1 (h := ?_)
    refine ev_local (h := ?_)
    have hkv2 : KVs sizesL kvs := hkv
    have hlk := hkv2.look r.name
    rw [sizes_look] at hlk
    rcases hlk with ⟨e, hva⟩ | ⟨n, tk, e, hva⟩
    · rw [hva, Option.getD_none]
      refine ev_neNI ?_
      refine ev_truthyB ?_
      refine ite_T ?_
      refine ev_cons ?_
      refine ev_Return ?_
      refine ev_none ?_
      refine then_ret ?_
      refine then_ret ?_
      exact ⟨_, fun p hp => .tail _ hp, h⟩
    · rw [hva, Option.getD_some]
      refine ev_ne ?_
      refine ev_truthyB ?_
      refine ite_isT ?_ ?_
      · cases hl : shapesL.lookup r.name with
        | none => rw [hl] at e; cases e
        | some y =>
          rw [hl] at e
          cases e
          have hne := hs.2 y hl
          refine bne_iff_ne.mpr ?_
          dsimp only
          rw [List.length_cons, hn]
          omega
      refine ev_cons ?_
      refine ev_Return ?_
      refine ev_none ?_
      refine then_ret ?_
      refine then_ret ?_
      exact ⟨_, fun p hp => .tail _ hp, h⟩
def behind (r : Row) (k : Nat) : List Int := if isEnd r.name then r.goals else r.goals ++ [(k : Int) + 1]
theorem c_law_behind {c : Cx} {m : Loc} {ν : Led} {P : Value → Loc → Led → Prop} {R : RX} {rs : List Row} {r : Row} {vs : List Value} {t : Addr} {o : Obj} {k : Nat} {u : Tok} (hr : Room c 2) (hm : (t, o) ∈ ν) (ho : TupO o vs) (hrs : RowsV ν rs vs) (hk : rs[k]? = some r) (hk1 : rs.length < 1000) (hs : Shaped r) (hu : r.uses.length ≤ 100)
    (h : ∀ D o2 gs, Above D ν → LstO o2 gs → AllV IntV (behind r k) gs → P (.ref D) m ((D, o2) :: ν)) : EV c m ν (call (.ref 212) [.ref t, .int k u]) P R := by
  with_reducible refine hide_goal fun _ toG => ?_
  obtain ⟨v, hkv, hrv⟩ := hrs.get hk
  have hrv0 := hrv
  obtain ⟨b, ob, tn, ps, rfl, hmb, hob, ha⟩ := hrv
  refine toG ?_
  have hk2 : k < 1000 := Nat.lt_trans (List.getElem?_eq_some_iff.mp hk).1 hk1
  refine ev_post ?_
  refine' ev_call (n := 1) (Rb := NoX) (binds := [("rows", .ref t), ("at", .int k u)]) ?ho ?hcd hr ?hb ?hl ?hk ?hc ?h (fun _ _ x => x.elim)
  case ho => k_is
  case hcd => k_is
  case hb => exact fun s => BindsTo.of_eq rfl
  case hl => exact locs rfl
  case hk => exact rfl
  case hc => decide
  case h =>
    intro c' hr' _
    dsimp only [bnd]
    refine ev_cons ?_
    refine ev_Assign (h := ?_)
    refine ev_Sub ?_
    refine ev_Call (h := ?_)
    refine ev_glob (h := ?_)
    refine ev_cwF_0 (h := ?_)
    refine ev_spl (h := ?_)
    refine ev_Sub ?_
    refine ev_local (h := ?_)
    refine ev_local (h := ?_)
    refine ev_itemTK (h := ?_)
    refine ev_spl0 ?_
    refine c_law_parts (by walk_at "zroom") hrv0 hs hu fun T S1 S2 sv o1 o2 us gs hsv ho1 ho2 hus hgs a1 a2 a3 => ?_
    refine ev_int (h := fun _ => ?_)
    refine ev_itemTN (h := ?_)
    refine ev_store (h := ?_)
    refine then_next ?_
    refine ev_cons ?_
    refine ev_Return ?_
    refine ev_IfExp ?_
    refine ev_isCompare (h := ?_)
    refine ev_Sub ?_
    refine ev_Sub ?_
    refine ev_local (h := ?_)
    refine ev_local (h := ?_)
    refine ev_itemTK (h := ?_)
    refine ev_int (h := fun _ => ?_)
    refine ev_itemTN (h := ?_)
    refine ev_Tuple ?_
    refine ev_spl (h := ?_)
    refine ev_str (h := fun _ => ?_)
    refine ev_spl (h := ?_)
    refine ev_str (h := fun _ => ?_)
    refine ev_spl (h := ?_)
    refine ev_str (h := fun _ => ?_)
    refine ev_spl0 ?_
    refine ev_newTuple (h := fun _ _ => ?_)
    refine ev_inTupL (h := ?_)
    refine ev_truthyB ?_
    refine ite_B (fun hb => ?_) fun hb => ?_
    · refine ev_local (h := ?_)
      refine then_ret ?_
      exact ⟨_, by walk_at "zsub", h S2 o2 gs a3 ho2 (by unfold behind; rw [show isEnd r.name = true from hb]; exact hgs)⟩
    · refine ev_BinOp ?_
      refine ev_local (h := ?_)
      refine ev_List ?_
      refine ev_spl (h := ?_)
      refine ev_BinOp ?_
      refine ev_local (h := ?_)
      refine ev_int (h := fun _ => ?_)
      refine ev_add (h := fun _ => ?_)
      refine ev_spl0 ?_
      refine ev_newList (h := fun _ _ => ?_)
      have hgl := goals_len hs
      have hgl2 := hgs.length
      refine ev_addL (by walk_at "zmem") ho2 (.head _) lstO_mk (Nat.le_trans (by simp only [List.length_cons, List.length_nil]; omega) (show 6 ≤ sizeLine by decide)) fun D o3 hD ho3 => ?_
      refine then_ret ?_
      exact ⟨_, by walk_at "zsub", h D o3 _ (above_of hD (by walk_at "zsub")) ho3 (by unfold behind; rw [show isEnd r.name = false from hb]; exact hgs.app (.cons ⟨_, rfl⟩ .nil))⟩

theorem valueAt_cons {k j : Int} {v : Value} {kvs : List (Int × Value)} : valueAt ((k, v) :: kvs) j = if k = j then some v else valueAt kvs j := by
  unfold valueAt
  rw [List.find?_cons]
  by_cases e : k = j <;> simp [e]
def setK (k : Int) (ds : List Int) : List (Int × List Int) → List (Int × List Int)
  | [] => [(k, ds)]
  | (x, y) :: T => if x = k then (x, ds) :: T else (x, y) :: setK k ds T
def lk : List (Int × List Int) → Int → Option (List Int)
  | [], _ => none
  | (x, y) :: T, k => if x = k then some y else lk T k
def dAt (T : List (Int × List Int)) (k : Int) : List Int := (lk T k).getD []
theorem lk_set {k : Int} {ds : List Int} (j : Int) : ∀ T, lk (setK k ds T) j = if k = j then some ds else lk T j
  | [] => rfl
  | (x, y) :: T => by
    unfold setK
    by_cases e : x = k
    · subst e
      rw [if_pos rfl]
      unfold lk
      by_cases e2 : x = j
      · rw [if_pos e2, if_pos e2]
      · rw [if_neg e2, if_neg e2, if_neg e2]
    · rw [if_neg e]
      unfold lk
      rw [lk_set j T]
      by_cases e2 : x = j
      · rw [if_pos e2, if_pos e2, if_neg (by omega)]
      · rw [if_neg e2, if_neg e2]
theorem dAt_set {k j : Int} {ds : List Int} {T : List (Int × List Int)} : dAt (setK k ds T) j = if k = j then ds else dAt T j := by
  unfold dAt
  rw [lk_set]
  by_cases e : k = j
  · rw [if_pos e, if_pos e]; rfl
  · rw [if_neg e, if_neg e]
theorem set_len {k : Int} {ds : List Int} : ∀ T, (setK k ds T).length = if lk T k = none then T.length + 1 else T.length
  | [] => rfl
  | (x, y) :: T => by
    unfold setK lk
    by_cases e : x = k
    · rw [if_pos e, if_pos e, if_neg (by simp)]; rfl
    · rw [if_neg e, if_neg e, List.length_cons, set_len T]
      split <;> simp
/-- the dict of lists, as the ledger tells it -/
inductive Tab : Led → List (Int × Value) → List (Int × List Int) → Prop
  | nil : Tab [] [] []
  | cons {a : Addr} {o : Obj} {us : List Value} {k : Int} {ds : List Int} {δ : Led} {kvs : List (Int × Value)} {T : List (Int × List Int)} : LstO o us → AllV IntV ds us → (∀ p ∈ δ, p.1 ≠ a) → Tab δ kvs T → Tab ((a, o) :: δ) ((k, .ref a) :: kvs) ((k, ds) :: T)
theorem Tab.none_iff {δ : Led} {kvs : List (Int × Value)} {T : List (Int × List Int)} (h : Tab δ kvs T) (k : Int) : lk T k = none ↔ valueAt kvs k = none := by
  induction h with
  | nil => exact ⟨fun _ => rfl, fun _ => rfl⟩
  | cons q1 q2 q3 q4 ih =>
    rename_i a o us k' ds δ kvs T
    rw [valueAt_cons]
    unfold lk
    by_cases e : k' = k
    · rw [if_pos e, if_pos e]; simp
    · rw [if_neg e, if_neg e]; exact ih
theorem Tab.keys {δ : Led} {kvs : List (Int × Value)} {T : List (Int × List Int)} (h : Tab δ kvs T) : kvs.map (·.1) = T.map (·.1) := by
  induction h with
  | nil => rfl
  | cons _ _ _ _ ih => simp [ih]
theorem Tab.len {δ : Led} {kvs : List (Int × Value)} {T : List (Int × List Int)} (h : Tab δ kvs T) : kvs.length = T.length := by
  have := congrArg List.length h.keys
  simpa using this
theorem Tab.upd {δ : Led} {kvs : List (Int × Value)} {T : List (Int × List Int)} (h : Tab δ kvs T) : ∀ {k : Int} {ds : List Int}, lk T k = some ds → ∃ a o us δ', valueAt kvs k = some (.ref a) ∧ LstO o us ∧ AllV IntV ds us ∧ (∀ p ∈ (a, o) :: δ', p ∈ δ) ∧ (∀ p ∈ δ', p.1 ≠ a) ∧
    ∀ o2 us2 ds2, LstO o2 us2 → AllV IntV ds2 us2 → ∃ δ2, (∀ p ∈ δ2, p ∈ (a, o2) :: δ') ∧ (∀ p ∈ δ2, ∃ q ∈ δ, q.1 = p.1) ∧ Tab δ2 kvs (setK k ds2 T) := by
  induction h with
  | nil => intro k ds e; cases e
  | cons ho hd hne ht ih =>
    rename_i a o us k0 ds0 δ kvs T
    intro k ds e
    unfold lk at e
    rw [valueAt_cons]
    by_cases hk : k0 = k
    · rw [if_pos hk] at e
      cases e
      rw [if_pos hk]
      refine ⟨a, o, us, δ, rfl, ho, hd, fun p hp => hp, hne, fun o2 us2 ds2 h2 h3 => ⟨(a, o2) :: δ, fun p hp => hp, fun p hp => ?_, ?_⟩⟩
      · rcases List.mem_cons.mp hp with rfl | hp
        · exact ⟨(a, o), .head _, rfl⟩
        · exact ⟨p, .tail _ hp, rfl⟩
      · unfold setK
        rw [if_pos hk]
        exact .cons h2 h3 hne ht
    · rw [if_neg hk] at e
      rw [if_neg hk]
      with_reducible refine hide_goal fun _ toG => ?_
      obtain ⟨a1, o1, us1, δ1, e1, h1, h2, h3, h4, h5⟩ := ih e
      refine toG ?_
      have hmem := h3 _ (.head _)
      have ha1 : a1 ≠ a := hne _ hmem
      refine ⟨a1, o1, us1, (a, o) :: δ1, e1, h1, h2, fun p hp => ?_, fun p hp => ?_, fun o2 us2 ds2 q1 q2 => ?_⟩
      · rcases List.mem_cons.mp hp with rfl | hp
        · exact .tail _ hmem
        · rcases List.mem_cons.mp hp with rfl | hp
          · exact .head _
          · exact .tail _ (h3 _ (.tail _ hp))
      · rcases List.mem_cons.mp hp with rfl | hp
        · exact Ne.symm ha1
        · exact h4 p hp
      · with_reducible refine hide_goal fun _ toG => ?_
        obtain ⟨δ2, r1, r2, r3⟩ := h5 o2 us2 ds2 q1 q2
        refine toG ?_
        refine ⟨(a, o) :: δ2, fun p hp => ?_, fun p hp => ?_, ?_⟩
        · rcases List.mem_cons.mp hp with rfl | hp
          · exact .tail _ (.head _)
          · rcases List.mem_cons.mp (r1 p hp) with e | hp'
            · rw [e]; exact .head _
            · exact .tail _ (.tail _ hp')
        · rcases List.mem_cons.mp hp with rfl | hp
          · exact ⟨(a, o), .head _, rfl⟩
          · obtain ⟨q, hq, e⟩ := r2 p hp
            exact ⟨q, .tail _ hq, e⟩
        · unfold setK
          rw [if_neg hk]
          refine .cons ho hd (fun p hp => ?_) r3
          obtain ⟨q, hq, e⟩ := r2 p hp
          rw [← e]
          exact hne q hq
theorem Tab.add {δ : Led} {kvs : List (Int × Value)} {T : List (Int × List Int)} (h : Tab δ kvs T) {k : Int} {ds : List Int} {a : Addr} {o : Obj} {us : List Value} (hk : lk T k = none) (ha : ∀ p ∈ δ, p.1 ≠ a) (ho : LstO o us) (hd : AllV IntV ds us) : Tab (δ ++ [(a, o)]) (kvs ++ [(k, .ref a)]) (setK k ds T) := by
  induction h with
  | nil => exact .cons ho hd (fun _ h => nomatch h) .nil
  | cons ho0 hd0 hne ht ih =>
    rename_i a0 o0 us0 k0 ds0 δ kvs T
    unfold lk at hk
    by_cases e : k0 = k
    · rw [if_pos e] at hk; cases hk
    · rw [if_neg e] at hk
      unfold setK
      rw [if_neg e]
      refine .cons ho0 hd0 (fun p hp => ?_) (ih hk fun p hp => ha p (.tail _ hp))
      rcases List.mem_append.mp hp with hp | hp
      · exact hne p hp
      · rw [List.mem_singleton] at hp
        subst hp
        exact fun e => ha (a0, o0) (.head _) e.symm
/-- rows not told yet -/
def uK (N : Nat) (T : List (Int × List Int)) : Nat := ((List.range N).filter fun n : Nat => (lk T (n : Int)).isNone).length
theorem uK_lt {N a : Nat} {T : List (Int × List Int)} {ds : List Int} (ha : a < N) (h : lk T a = none) : uK N (setK a ds T) < uK N T := by
  refine filter_lt _ _ a (fun x hx => ?_) (by rw [h]; rfl) (by rw [lk_set]; simp) _ (List.mem_range.mpr ha)
  rw [lk_set] at hx
  by_cases e : (a : Int) = x
  · rw [if_pos e] at hx; cases hx
  · rw [if_neg e] at hx; exact hx
theorem filter_le {α : Type} (p q : α → Bool) (hq : ∀ x, q x = true → p x = true) : ∀ l : List α, (l.filter q).length ≤ (l.filter p).length := by
  intro l
  induction l with
  | nil => exact Nat.le_refl _
  | cons x l ih =>
    cases hx : q x with
    | true => simp [List.filter_cons, hx, hq x hx, ih]
    | false =>
      cases hp : p x with
      | true => simp [List.filter_cons, hx, hp]; omega
      | false => simp [List.filter_cons, hx, hp, ih]
structure Ext (T0 T : List (Int × List Int)) : Prop where
  key : ∀ k, lk T k = none → lk T0 k = none
  len : ∀ k, (dAt T0 k).length ≤ (dAt T k).length
  mem : ∀ k x, x ∈ dAt T0 k → x ∈ dAt T k
theorem Ext.refl {T : List (Int × List Int)} : Ext T T := ⟨fun _ h => h, fun _ => Nat.le_refl _, fun _ _ h => h⟩
theorem Ext.trans {A B C : List (Int × List Int)} (h : Ext A B) (h' : Ext B C) : Ext A C := ⟨fun k e => h.key k (h'.key k e), fun k => Nat.le_trans (h.len k) (h'.len k), fun k x e => h'.mem k x (h.mem k x e)⟩
theorem Ext.uK {N : Nat} {A B : List (Int × List Int)} (h : Ext A B) : uK N B ≤ uK N A := filter_le _ _ (fun x hx => by
  rw [Option.isNone_iff_eq_none] at hx ⊢
  exact h.key _ hx) _
/-- a depth told of a goal -/
def stepT (T : List (Int × List Int)) (g x : Int) : List (Int × List Int) := if x ∈ dAt T g then T else setK g (dAt T g ++ [x]) T
theorem Ext.step {T : List (Int × List Int)} {g x : Int} : Ext T (stepT T g x) := by
  unfold stepT
  split
  · exact .refl
  · refine ⟨fun k e => ?_, fun k => ?_, fun k y hy => ?_⟩
    · rw [lk_set] at e
      split at e
      · cases e
      · exact e
    · rw [dAt_set]
      split
      · rename_i h; subst h; simp
      · exact Nat.le_refl _
    · rw [dAt_set]
      split
      · rename_i h; subst h; exact List.mem_append_left _ hy
      · exact hy
theorem step_mem {T : List (Int × List Int)} {g x : Int} : x ∈ dAt (stepT T g x) g := by
  unfold stepT
  split
  · assumption
  · rw [dAt_set, if_pos rfl]; simp
structure HI (rs : List Row) (T : List (Int × List Int)) : Prop where
  sound : ∀ k ds, lk T k = some ds → ∃ n : Nat, k = n ∧ n < rs.length ∧ ds ≠ [] ∧ ds.Nodup ∧ ∀ x ∈ ds, RchD rs n x
  zero : (0 : Int) ∈ dAt T 0
  size : T.length + uK rs.length T ≤ rs.length
theorem dAt_none {T : List (Int × List Int)} {k : Int} (h : lk T k = none) : dAt T k = [] := by unfold dAt; rw [h]; rfl
theorem dAt_some {T : List (Int × List Int)} {k : Int} {ds : List Int} (h : lk T k = some ds) : dAt T k = ds := by unfold dAt; rw [h]; rfl
theorem lk_of {T : List (Int × List Int)} {k x : Int} (h : x ∈ dAt T k) : lk T k = some (dAt T k) := by
  cases e : lk T k with
  | none => rw [dAt_none e] at h; cases h
  | some ds => rw [dAt_some e]
theorem HI.step {rs : List Row} {T : List (Int × List Int)} (h : HI rs T) {n : Nat} {x : Int} (hn : n < rs.length) (hx : RchD rs n x) : HI rs (stepT T n x) := by
  unfold stepT
  split
  · exact h
  · rename_i hnew
    refine ⟨fun k ds e => ?_, ?_, ?_⟩
    · rw [lk_set] at e
      split at e
      · rename_i hk
        cases e
        subst hk
        refine ⟨n, rfl, hn, by simp, ?_, fun y hy => ?_⟩
        · cases e : lk T n with
          | none => rw [dAt_none e]; simp
          | some ds =>
            with_reducible refine hide_goal fun _ toG => ?_
            obtain ⟨_, _, _, _, hd, _⟩ := h.sound _ _ e
            refine toG ?_
            rw [dAt_some e] at hnew ⊢
            rw [List.nodup_append]
            exact ⟨hd, by simp, fun a ha b hb => by rw [List.mem_singleton] at hb; subst hb; exact fun e => hnew (e ▸ ha)⟩
        · rcases List.mem_append.mp hy with hy | hy
          · with_reducible refine hide_goal fun _ toG => ?_
            obtain ⟨n', e1, _, _, _, hr⟩ := h.sound _ _ (lk_of hy)
            refine toG ?_
            obtain rfl : n = n' := by omega
            exact hr y hy
          · rw [List.mem_singleton] at hy; subst hy; exact hx
      · exact h.sound k ds e
    · exact Ext.mem (by have := Ext.step (T := T) (g := n) (x := x); unfold stepT at this; rw [if_neg hnew] at this; exact this) 0 0 h.zero
    · have hz := h.size
      rw [set_len]
      split
      · rename_i hk
        have := uK_lt (ds := dAt T n ++ [x]) hn hk
        omega
      · have hx2 : Ext T (setK n (dAt T n ++ [x]) T) := by have := Ext.step (T := T) (g := n) (x := x); unfold stepT at this; rw [if_neg hnew] at this; exact this
        have := hx2.uK (N := rs.length)
        omega
def LB (B : Nat) (T : List (Int × List Int)) : Prop := ∀ k, (dAt T k).length ≤ B
theorem LB.step {B : Nat} {T : List (Int × List Int)} {g x : Int} (h : LB B T) : LB (B + 1) (stepT T g x) := by
  intro k
  unfold stepT
  split
  · exact Nat.le_succ_of_le (h k)
  · rw [dAt_set]
    split
    · rename_i e; subst e
      rw [List.length_append, List.length_singleton]
      exact Nat.succ_le_succ (h g)
    · exact Nat.le_succ_of_le (h k)
structure Prog (N : Nat) (T0 T : List (Int × List Int)) (b : Bool) : Prop where
  still : b = true → T = T0
  went : b = false → uK N T < uK N T0 ∨ ∃ k, 1 < (dAt T k).length
theorem Prog.step {rs : List Row} {T0 T : List (Int × List Int)} {n : Nat} {x : Int} (hi : HI rs T) (he : Ext T0 T) (hn : n < rs.length) (hx : x ∉ dAt T n) : Prog rs.length T0 (stepT T n x) false := by
  refine ⟨fun e => (by cases e), fun _ => ?_⟩
  unfold stepT
  rw [if_neg hx]
  cases e : lk T n with
  | none => exact .inl (Nat.lt_of_lt_of_le (uK_lt hn e) he.uK)
  | some ds =>
    with_reducible refine hide_goal fun _ toG => ?_
    obtain ⟨_, _, _, hne, _, _⟩ := hi.sound _ _ e
    refine toG ?_
    refine .inr ⟨n, ?_⟩
    rw [dAt_set, if_pos rfl, dAt_some e, List.length_append, List.length_singleton]
    have := List.length_pos_iff.mpr hne
    omega
/-- row n, reached at depth x, has told all -/
def Cl (T : List (Int × List Int)) (r : Row) (n : Nat) (x : Int) : Prop := (r.name = "leave" → leaves r ≤ x) ∧ ∀ g ∈ fol r n, toldD r n x g ∈ dAt T g
theorem Cl.mono {T T' : List (Int × List Int)} {r : Row} {n : Nat} {x : Int} (h : Cl T r n x) (e : Ext T T') : Cl T' r n x := ⟨h.1, fun g hg => e.mem _ _ (h.2 g hg)⟩
theorem round_ok {rs : List Row} {T : List (Int × List Int)} (h : HI rs T) (hc : ∀ (n : Nat) r x, rs[n]? = some r → x ∈ dAt T n → Cl T r n x) (h1 : ∀ k, (dAt T k).length ≤ 1) : HOk rs := by
  have all : ∀ n x, RchD rs n x → x ∈ dAt T n := by
    intro n x hx
    induction hx with
    | zero => exact h.zero
    | step _ hr hg ih => exact (hc _ _ _ hr ih).2 _ hg
  refine ⟨fun k d d' a b => ?_, fun k d r a hr hn => (hc k r d hr (all k d a)).1 hn⟩
  have ha := all k d a
  have hb := all k d' b
  have hl := h1 k
  match dAt T k, ha, hb, hl with
  | [y], ha, hb, _ => rw [List.mem_singleton] at ha hb; rw [ha, hb]
  | _ :: _ :: _, _, _, hl => simp at hl
theorem round_bad {rs : List Row} {T : List (Int × List Int)} {k : Int} (h : HI rs T) (h1 : 1 < (dAt T k).length) : ¬ HOk rs := by
  intro ok
  cases e : lk T k with
  | none => rw [dAt_none e] at h1; simp at h1
  | some ds =>
    rw [dAt_some e] at h1
    with_reducible refine hide_goal fun _ toG => ?_
    obtain ⟨n, _, _, _, hd, hr⟩ := h.sound _ _ e
    refine toG ?_
    match ds, h1, hd, hr with
    | a :: b :: l, _, hd, hr =>
      have := ok.one n a b (hr a (.head _)) (hr b (.tail _ (.head _)))
      rw [List.nodup_cons] at hd
      exact hd.1 (this ▸ .head _)
    | [a], h1, _, _ => simp at h1
    | [], h1, _, _ => simp at h1
theorem mem_behind {r : Row} {k : Nat} {g : Int} : g ∈ behind r k ↔ g ∈ fol r k := by
  unfold behind fol
  cases isEnd r.name with
  | true => simp
  | false => simp [or_comm]
theorem lk_key {k : Int} : ∀ {T : List (Int × List Int)}, k ∈ T.map (·.1) → ∃ ds, lk T k = some ds
  | [], h => by cases h
  | (x, y) :: T, h => by
    unfold lk
    by_cases e : x = k
    · exact ⟨y, by rw [if_pos e]⟩
    · rw [if_neg e]
      refine lk_key ?_
      rcases List.mem_cons.mp h with q | q
      · exact absurd q.symm e
      · exact q
theorem LB.le {B C : Nat} {T : List (Int × List Int)} (h : LB B T) (e : B ≤ C) : LB C T := fun k => Nat.le_trans (h k) e
theorem Prog.same {N : Nat} {T0 T : List (Int × List Int)} {b : Bool} (h : Prog N T0 T b) {g x : Int} (hx : x ∈ dAt T g) : Prog N T0 (stepT T g x) b := by unfold stepT; rw [if_pos hx]; exact h
theorem key_lk {k : Int} {ds : List Int} : ∀ {T : List (Int × List Int)}, lk T k = some ds → k ∈ T.map (·.1)
  | [], h => by cases h
  | (x, y) :: T, h => by
    unfold lk at h
    by_cases e : x = k
    · rw [← e]; exact .head _
    · rw [if_neg e] at h
      exact .tail _ (key_lk h)

theorem any_notI {l : List Int} {x : Int} (h : ∀ y ∈ l, ¬ y = x) : x ∉ l := fun hm => h x hm rfl
theorem any_inI {l : List Int} {x : Int} (h : ∃ y, y ∈ l ∧ y = x) : x ∈ l := by
  with_reducible refine hide_goal fun _ toG => ?_
  obtain ⟨y, hy, rfl⟩ := h
  refine toG ?_
  exact hy
structure HL (F : Led) (d : Addr) (δ : Led) : Prop where
  dF : ∀ q ∈ F, q.1 ≠ d
  dδ : ∀ p ∈ δ, p.1 ≠ d
  δF : ∀ p ∈ δ, ∀ q ∈ F, q.1 ≠ p.1
/-- the dict of lists stands in the ledger, beside what stays -/
structure St (c' : Cx) (rs : List Row) (d : Addr) (F : Led) (T : List (Int × List Int)) (ν : Led) : Prop where
  ex : ∃ od kvs δ, ν = (d, od) :: (δ ++ F) ∧ DicO c' od kvs ∧ Tab δ kvs T ∧ HL F d δ
  hi : HI rs T
theorem St.push {c' : Cx} {rs : List Row} {d a : Addr} {F ν : Led} {T : List (Int × List Int)} {o : Obj} (h : St c' rs d F T ν) (ha : ∀ p ∈ ν, p.1 ≠ a) : ∃ ν', (∀ p ∈ ν', p ∈ (a, o) :: ν) ∧ St c' rs d ((a, o) :: F) T ν' := by
  with_reducible refine hide_goal fun _ toG => ?_
  obtain ⟨⟨od, kvs, δ, rfl, h1, h2, h3⟩, h4⟩ := h
  refine toG ?_
  refine ⟨(d, od) :: (δ ++ (a, o) :: F), sub_cons (.tail _ (.head _)) (sub_app (fun p hp => .tail _ (.tail _ (List.mem_append_left _ hp))) (sub_cons (.head _) fun p hp => .tail _ (.tail _ (List.mem_append_right _ hp)))), ⟨od, kvs, δ, rfl, h1, h2, ⟨fun q hq => ?_, h3.dδ, fun p hp q hq => ?_⟩⟩, h4⟩
  · rcases List.mem_cons.mp hq with rfl | hq
    · exact Ne.symm (ha _ (.head _))
    · exact h3.dF q hq
  · rcases List.mem_cons.mp hq with rfl | hq
    · exact Ne.symm (ha _ (.tail _ (List.mem_append_left _ hp)))
    · exact h3.δF p hp q hq
theorem St.pop {c' : Cx} {rs : List Row} {d a : Addr} {F ν : Led} {T : List (Int × List Int)} {o : Obj} (h : St c' rs d ((a, o) :: F) T ν) (ha : ∀ p ∈ F, p.1 ≠ a) : ∃ ν', (∀ p ∈ (a, o) :: ν', p ∈ ν) ∧ (∀ p ∈ ν', p.1 ≠ a) ∧ St c' rs d F T ν' := by
  with_reducible refine hide_goal fun _ toG => ?_
  obtain ⟨⟨od, kvs, δ, rfl, h1, h2, h3⟩, h4⟩ := h
  refine toG ?_
  refine ⟨(d, od) :: (δ ++ F), sub_cons (.tail _ (List.mem_append_right _ (.head _))) (sub_cons (.head _) (sub_app (fun p hp => .tail _ (List.mem_append_left _ hp)) fun p hp => .tail _ (List.mem_append_right _ (.tail _ hp)))), fun p hp => ?_, ⟨od, kvs, δ, rfl, h1, h2, ⟨fun q hq => h3.dF q (.tail _ hq), h3.dδ, fun p hp q hq => h3.δF p hp q (.tail _ hq)⟩⟩, h4⟩
  rcases List.mem_cons.mp hp with rfl | hp
  · exact Ne.symm (h3.dF _ (.head _))
  · rcases List.mem_append.mp hp with hp | hp
    · exact Ne.symm (h3.δF p hp _ (.head _))
    · exact ha p hp
theorem St.sub {c' : Cx} {rs : List Row} {d : Addr} {F ν : Led} {T : List (Int × List Int)} (h : St c' rs d F T ν) : ∀ p ∈ F, p ∈ ν := by
  with_reducible refine hide_goal fun _ toG => ?_
  obtain ⟨⟨od, kvs, δ, rfl, _⟩, _⟩ := h
  refine toG ?_
  exact fun p hp => .tail _ (List.mem_append_right _ hp)
theorem ev_consVal {c : Cx} {m : Loc} {ν : Led} {R : RX} {env : Env} {PF : Flow → Loc → Led → Prop} {st : Stmt} {rest : List Stmt} (x : Str) (val : Int) (h : ∀ K : Flow → Loc → Led → Prop, (∀ {v : Int} {u : Tok} {ν' : Led}, v = val → (∀ p ∈ ν, p ∈ ν') → K .next (upd m x (.int v u)) ν') → EV c m ν (exec st env) K R) (h' : ∀ u, EV c (upd m x (.int val u)) ν (execs rest env) PF R) : EV c m ν (execs (st :: rest) env) PF R :=
  ev_cons (ev_imp (h (fun f m' ν' => f = .next ∧ (∀ p ∈ ν, p ∈ ν') ∧ ∃ u, m' = upd m x (.int val u)) fun {v u _} e a => ⟨rfl, a, u, by rw [e]⟩) fun f m₁ ν₁ g => by
    with_reducible refine hide_goal fun _ toG => ?_
    obtain ⟨rfl, hs, u, rfl⟩ := g
    refine toG ?_
    exact then_next (ev_sub (h' u) hs))
theorem ev_consRet {c : Cx} {m : Loc} {ν : Led} {R : RX} {env : Env} {PF : Flow → Loc → Led → Prop} {st : Stmt} {rest : List Stmt} (C : Prop) (h : ∀ K : Flow → Loc → Led → Prop, (∀ {ν' : Led}, (∀ p ∈ ν, p ∈ ν') → C → K .next m ν') → (∀ {v : Value} {m' : Loc} {ν' : Led}, PF (.ret v) m' ν' → K (.ret v) m' ν') → EV c m ν (exec st env) K R) (h' : C → EV c m ν (execs rest env) PF R) : EV c m ν (execs (st :: rest) env) PF R :=
  ev_cons (ev_imp (h (fun f m' ν' => (f = .next ∧ m' = m ∧ (∀ p ∈ ν, p ∈ ν') ∧ C) ∨ (∃ v, f = .ret v ∧ PF (.ret v) m' ν')) (fun a b => .inl ⟨rfl, rfl, a, b⟩) fun a => .inr ⟨_, rfl, a⟩) fun f m₁ ν₁ g => by
    rcases g with ⟨rfl, rfl, hs, hC⟩ | ⟨v, rfl, g⟩
    · exact then_next (ev_sub (h' hC) hs)
    · exact then_ret g)
theorem c_law_handlers {c : Cx} {m : Loc} {ν : Led} {P : Value → Loc → Led → Prop} {R : RX} {rs : List Row} {vs : List Value} {t : Addr} {ot : Obj} (hr : Room c 9) (hm : (t, ot) ∈ ν) (hot : TupO ot vs) (hrs : RowsV ν rs vs) (hk1 : rs.length ≤ 7) (hk0 : 0 < rs.length)
    (hg : ∀ k r, rs[k]? = some r → Fine r ∧ ∀ g ∈ fol r k, 0 ≤ g ∧ g < rs.length) (h : ∀ b : Bool, (b = true ↔ HOk rs) → P (.bool b) m ν) : EV c m ν (call (.ref 217) [.ref t]) P R := by
  have few : rs.length < 1000 := by omega
  refine ev_post ?_
  refine' ev_callC (n := 8) (Rb := NoX) (binds := [("rows", .ref t)]) (m₀ := bnd noLoc [("rows", .ref t)]) (cs := fun L => [("open_now", L + 1)]) (cm := fun _ => none) ?ho ?hcd hr ?hb ?hkd ?hnd ?hm ?hcm ?hcs ?hck ?h (fun _ _ x => x.elim)
  case ho => k_is
  case hcd => k_is
  case hb => exact fun s => BindsTo.of_eq rfl
  case hkd => exact rfl
  case hnd => decide
  case hm => exact fun _ => rfl
  case hcm => exact fun _ => rfl
  case hcs => exact fun _ => rfl
  case hck => exact rfl
  case h =>
    intro c' cells hr' hcw hY lt
    with_reducible refine hide_goal fun _ toG => ?_
    obtain ⟨oc, rfl, hoc⟩ := hY.one
    refine toG ?_
    have hcν : ∀ p ∈ ν, p.1 ≠ c'.L + 1 := fun p hp => ltN' (Nat.lt_trans (lt p hp) (Nat.lt_succ_self _))
    dsimp only [bnd]
    refine ev_cons ?_
    refine ev_AssignTup (h := ?_)
    refine ev_Tuple ?_
    refine ev_spl (h := ?_)
    refine ev_DictI1 fun d hd hlo => ?_
    refine ev_List ?_
    refine ev_spl (h := ?_)
    refine ev_int (h := fun _ => ?_)
    refine ev_spl0 ?_
    refine ev_newList (h := fun _ _ => ?_)
    rename_i u0 l0 hl0
    refine ⟨(l0, lstO [.int 0 u0]) :: (c'.L + 1, oc) :: ν, by walk_at "zsub", ne_cons (gtN (hl0 _ (.head _))) hd.ne, fun od hod => ?_⟩
    refine ev_spl (h := ?_)
    refine ev_bool ?_
    refine ev_spl0 ?_
    refine ev_newTuple (h := fun _ _ => ?_)
    refine ev_assignT2 (h := ?_)
    have hcd : c'.L + 1 ≠ d := ltN' (hd _ (.head _))
    have hcl : c'.L + 1 ≠ l0 := ltN' (hl0 _ (.tail _ (.head _)))
    refine ev_storeCell (cc := c'.L + 1) (o := oc) (ν₁ := (d, od) :: (l0, lstO [.int 0 u0]) :: ν) (by with_unfolding_all rfl) hoc (by walk_at "zsub") (ne_cons (gtN (hd _ (.head _))) (ne_cons (gtN (hl0 _ (.tail _ (.head _)))) hcν)) (fun oc hoc => ?_) rfl (by with_unfolding_all rfl)
    refine ev_store (h := ?_)
    refine then_next ?_
    refine ev_cons ?_
    have hT0 : St c' rs d ((c'.L + 1, oc) :: ν) [(0, [0])] ((d, od) :: ([(l0, lstO [.int 0 u0])] ++ (c'.L + 1, oc) :: ν)) := by
      refine ⟨⟨od, _, _, rfl, hod, .cons lstO_mk (.cons ⟨u0, rfl⟩ .nil) (fun _ h => nomatch h) .nil, ⟨ne_cons hcd fun p hp => ltN' (hd p (.tail _ hp)), ne_cons (gtN (hl0 _ (.head _))) ne_nil, fun p hp q hq => ?_⟩⟩, fun k ds e => ?_, by decide, ?_⟩
      · rw [List.mem_singleton] at hp
        subst hp
        rcases List.mem_cons.mp hq with rfl | hq
        · exact hcl
        · exact ltN' (hl0 q (.tail _ (.tail _ hq)))
      · unfold lk at e
        split at e
        · rename_i hk
          cases e
          exact ⟨0, by omega, hk0, by simp, by simp, fun x hx => by rw [List.mem_singleton] at hx; subst hx; exact .zero⟩
        · cases e
      · have := uK_lt (T := []) (ds := [0]) (a := 0) hk0 rfl
        have h2 : uK rs.length [] ≤ rs.length := Nat.le_trans (List.length_filter_le _ _) (by rw [List.length_range]; exact Nat.le_refl _)
        show 1 + uK rs.length (setK 0 [0] []) ≤ rs.length
        have e0 : ((0 : Nat) : Int) = 0 := rfl
        rw [e0] at this
        omega
    have one0 : ∀ k, (dAt [(0, [0])] k).length ≤ 1 := fun k => by
      unfold dAt lk
      split
      · decide
      · unfold lk; decide
    refine ev_WhileK (fun j m₁ ν₁ => ∃ T b ν', (∀ p ∈ ν', p ∈ ν₁) ∧ St c' rs d ((c'.L + 1, oc) :: ν) T ν' ∧ (∀ k, (dAt T k).length ≤ 1) ∧ m₁ "rows" = some (.ref t) ∧ m₁ "is_still" = some (.bool b) ∧ j = (if b then 0 else uK rs.length T + 1) ∧ (b = true → HOk rs)) (uK rs.length [(0, [0])] + 1) ?_ ?_ (outNoX (R := NoX)) (Rb := NoX)
    · exact ⟨_, false, _, by walk_at "zsub", hT0, one0, by walk_at "zlk", by walk_at "zlk", rfl, fun e => (by cases e)⟩
    · clear hT0 one0 hl0 hcl
      intro j m₁ ν₁ zp1 K1 N1 hK1 hR1 hN1
      with_reducible refine hide_goal fun _ toG => ?_
      obtain ⟨T0, b0, ν', hsub, hS, hone, hm1, hm2, hj, hb0⟩ := zp1
      refine toG ?_
      refine ev_sub ?_ hsub
      clear hsub
      refine ev_isNot ?_
      refine ev_isPlain (h := ?_)
      refine ev_local (h := ?_)
      refine ev_truthyB ?_
      cases b0 with
      | true =>
        refine ite_isF rfl ?_
        refine hN1 ?_
        refine then_next ?_
        refine ev_cons ?_
        refine ev_Return ?_
        refine ev_bool ?_
        refine then_ret ?_
        exact ⟨_, fun p hp => (hS.sub p (.tail _ hp)), h true ⟨fun _ => hb0 rfl, fun _ => rfl⟩⟩
      | false =>
        refine ite_isT rfl ?_
        refine ev_cons ?_
        refine ev_Assign (h := ?_)
        refine ev_bool ?_
        refine ev_store (h := ?_)
        refine then_next ?_
        refine ev_cons ?_
        have hSx := hS
        with_reducible refine hide_goal fun _ toG => ?_
        obtain ⟨⟨od, kvs, δ, rfl, hod, hT, hL⟩, hi⟩ := hS
        refine toG ?_
        have hk64 : kvs.length < 64 := by have := hi.size; rw [hT.len]; omega
        refine ev_For ?_ (outNoX (R := NoX)) (Rb := NoX) (hs := fun _ => rfl)
        refine ev_Call (h := ?_)
        refine ev_bltn (h := ?_)
        refine ev_cwB_0 (h := ?_)
        refine ev_spl (h := ?_)
        refine ev_cell (h := ?_)
        refine ev_spl0 ?_
        refine ev_sortedD (.head _) hod hlo hk64 fun D oD us ks hD hoD hks hperm => ?_
        refine ev_iterL (.head _) hoD fun it oi hit hoi => ?_
        obtain ⟨ν1, hs1, hS1⟩ := hSx.push (a := D) (o := oD) hD.ne
        rw [hT.keys] at hperm
        clear hSx hod hT hL hk64
        refine ev_forK (yldL hoD) (fun i m₁ ν₁ => ∃ T b, St c' rs d ((D, oD) :: (c'.L + 1, oc) :: ν) T ν₁ ∧ Ext T0 T ∧ Prog rs.length T0 T b ∧ LB (7 ^ i) T ∧ (∀ key ∈ ks.take i, ∀ (n : Nat) r x, key = n → rs[n]? = some r → x ∈ dAt T0 key → Cl T r n x) ∧ m₁ "rows" = some (.ref t) ∧ m₁ "is_still" = some (.bool b)) (ν₀ := ν1) ⟨oi, rfl, hoi⟩ (fun p hp => ltN' (hit p (hs1 p hp))) (hS1.sub _ (.head _)) ⟨T0, true, hS1, .refl, ⟨fun _ => rfl, fun e => (by cases e)⟩, hone, (fun key hk => by cases hk), by walk_at "zlk", by walk_at "zlk"⟩ (sub_cons (.head _) fun p hp => .tail _ (hs1 p hp)) ?_ ?_
        · clear hs1 hS1 hD hit
          intro i m₁ ν₁ v δ' b' hi' zp2 hcl hsrc zp3 _ zp4 K2 hK2 hR2
          with_reducible refine hide_goal fun _ toG => ?_
          obtain ⟨T, b, hS2, hext, hprog, hlb, hdone, hm1, hm2⟩ := zp2
          obtain ⟨hv, rfl⟩ := zp3
          obtain ⟨oi2, rfl, hoi2⟩ := zp4
          obtain ⟨key, hkey, tk, rfl⟩ := hks.at hv
          obtain ⟨ds0, hds0⟩ := lk_key (hperm.mem_iff.mp (List.mem_of_getElem? hkey))
          obtain ⟨n, rfl, hn, _, _, _⟩ := hi.sound _ _ hds0
          refine toG ?_
          obtain ⟨r, hnr⟩ : ∃ r, rs[n]? = some r := ⟨_, List.getElem?_eq_getElem hn⟩
          obtain ⟨hfi, hgs⟩ := hg n r hnr
          obtain ⟨ds, hds⟩ : ∃ ds, lk T n = some ds := by
            cases e : lk T n with
            | none => rw [hext.key _ e] at hds0; cases hds0
            | some ds => exact ⟨ds, rfl⟩
          have hFit : ∀ p ∈ (D, oD) :: (c'.L + 1, oc) :: ν, p.1 ≠ it := fun p hp => hcl p (hS2.sub p hp)
          obtain ⟨ν2, hs2, hS3⟩ := hS2.push (a := it) (o := oi2) hcl
          refine ev_sub (ν' := ν2) ?_ hs2
          have hS3x := hS3
          with_reducible refine hide_goal fun _ toG => ?_
          obtain ⟨⟨od, kvs2, δ2, rfl, hod2, hT2, hL2⟩, hi2⟩ := hS3
          refine toG ?_
          refine ev_assignName ?_
          refine ev_store (h := ?_)
          refine ev_cons ?_
          refine ev_For ?_ (outNoX (R := NoX)) (Rb := NoX) (hs := fun _ => rfl)
          refine ev_Call (h := ?_)
          refine ev_bltn (h := ?_)
          refine ev_cwT_0 (h := ?_)
          refine ev_spl (h := ?_)
          refine ev_Sub ?_
          refine ev_cell (h := ?_)
          refine ev_local (h := ?_)
          with_reducible refine hide_goal fun _ toG => ?_
          obtain ⟨a, oa, ua, δa, hva, hoa, hda, hsa, hna, hupd⟩ := hT2.upd hds
          refine toG ?_
          have hmem := hsa _ (.head _)
          refine ev_itemD (.head _) hod2 hva ?_ (by with_unfolding_all rfl)
          have h7 : 7 ^ i ≤ 823543 := Nat.le_trans (Nat.pow_le_pow_right (by decide) (show i ≤ 7 by have := hperm.length_eq; have := hks.length; have := hi.size; rw [List.length_map] at *; omega)) (by decide)
          have hdl : ds.length ≤ 7 ^ i := by have := hlb n; rw [dAt_some hds] at this; exact this
          refine ev_spl0 ?_
          refine ev_listOfL (.tail _ (List.mem_append_left _ hmem)) hoa (by rw [hda.length]; exact Nat.le_trans (Nat.le_trans hdl h7) (by decide)) fun D2 oD2 hD2 hoD2 => ?_
          refine ev_iterL (.head _) hoD2 fun it2 oj hit2 hoj => ?_
          obtain ⟨ν3, hs3, hS4⟩ := hS3x.push (a := D2) (o := oD2) hD2.ne
          have hFD2 : ∀ p ∈ (it, oi2) :: (D, oD) :: (c'.L + 1, oc) :: ν, p.1 ≠ D2 := fun p hp => hD2.ne p (hS3x.sub p hp)
          refine ev_forK (yldL hoD2) (fun j m₂ ν₂ => ∃ T' b, St c' rs d ((D2, oD2) :: (it, oi2) :: (D, oD) :: (c'.L + 1, oc) :: ν) T' ν₂ ∧ Ext T T' ∧ Prog rs.length T0 T' b ∧ LB (7 ^ i + 6 * j) T' ∧ (∀ x ∈ ds.take j, Cl T' r n x) ∧ m₂ "rows" = some (.ref t) ∧ m₂ "is_still" = some (.bool b) ∧ m₂ "at" = some (.int n tk)) (ν₀ := ν3) ⟨oj, rfl, hoj⟩ (fun p hp => ltN' (hit2 p (hs3 p hp))) (hS4.sub _ (.head _)) ⟨T, b, hS4, .refl, hprog, hlb, (fun x hx => by cases hx), by walk_at "zlk", by walk_at "zlk", by walk_at "zlk"⟩ (sub_cons (.head _) fun p hp => .tail _ (hs3 p hp)) ?_ ?_
          · clear hs3 hS4 hD2 hit2 hS3x hupd hva hoa hsa hna hmem hod2 hT2 hL2 hi2
            intro j m₂ ν₂ w δ' b' hj' zp5 hcl2 hsrc2 zp6 _ zp7 K3 hK3 hR3
            with_reducible refine hide_goal fun _ toG => ?_
            obtain ⟨T', b2, hS5, hext', hprog', hlb', hdone', hm1', hm2', hm3'⟩ := zp5
            obtain ⟨hw, rfl⟩ := zp6
            obtain ⟨oj2, rfl, hoj2⟩ := zp7
            obtain ⟨x, hx, tx, rfl⟩ := hda.at hw
            refine toG ?_
            have hxr : RchD rs n x := by
              with_reducible refine hide_goal fun _ toG => ?_
              obtain ⟨n', e1, _, _, _, hr2⟩ := hS2.hi.sound _ _ hds
              refine toG ?_
              obtain rfl : n = n' := by omega
              exact hr2 x (List.mem_of_getElem? hx)
            have hFit2 : ∀ p ∈ (D2, oD2) :: (it, oi2) :: (D, oD) :: (c'.L + 1, oc) :: ν, p.1 ≠ it2 := fun p hp => hcl2 p (hS5.sub p hp)
            obtain ⟨ν6, hs6, hS8⟩ := hS5.push (a := it2) (o := oj2) hcl2
            refine ev_sub (ν' := ν6) ?_ hs6
            clear hs6
            have hS8x := hS8
            with_reducible refine hide_goal fun _ toG => ?_
            obtain ⟨⟨od3, kvs3, δ3, rfl, hod3, hT3, hL3⟩, hi3⟩ := hS8
            obtain ⟨vr, hvr, hrv⟩ := hrs.get hnr
            have hrv0 := hrv
            obtain ⟨br, obr, tnr, psr, rfl, hmbr, hobr, har⟩ := hrv
            refine toG ?_
            have hn2 : n < 1048576 := by omega
            refine ev_assignName ?_
            refine ev_store (h := ?_)
            refine ev_consRet (r.name = "leave" → leaves r ≤ x) (fun _ hc hrc => ?_) fun hle => ?_
            · refine ev_If ?_
              refine ev_isAnd ?_
              refine ev_isCompare (h := ?_)
              refine ev_Sub ?_
              refine ev_Sub ?_
              refine ev_local (h := ?_)
              refine ev_local (h := ?_)
              refine ev_itemTK (h := ?_)
              refine ev_int (h := fun _ => ?_)
              refine ev_itemTN (h := ?_)
              refine ev_str (h := fun _ => ?_)
              refine ev_eqS ?_
              refine ev_truthyB ?_
              refine ite_B (fun hb => ?_) fun hb => ?_
              · with_reducible refine hide_goal fun _ toG => ?_
                obtain ⟨n9, hp9, h9⟩ := hfi.leave (beq_iff_eq.mp hb)
                have e9 : leaves r = n9 := by unfold leaves; rw [hp9]
                rw [hp9] at har
                obtain ⟨x1, xs1, rfl, ⟨t9, rfl⟩, _⟩ := har.uncons
                refine toG ?_
                refine ev_isAnd ?_
                refine ev_isCompare (h := ?_)
                refine ev_Sub ?_
                refine ev_Sub ?_
                refine ev_local (h := ?_)
                refine ev_local (h := ?_)
                refine ev_itemTK (h := ?_)
                refine ev_int (h := fun _ => ?_)
                refine ev_itemTN (h := ?_)
                refine ev_local (h := ?_)
                refine ev_gt ?_
                refine ev_truthyB ?_
                refine ite_B (fun hb2 => ?_) fun hb2 => ?_
                · refine ev_isAnd0 ?_
                  refine ite_T ?_
                  refine ev_cons ?_
                  refine ev_Return ?_
                  refine ev_bool ?_
                  refine then_ret ?_
                  refine hrc (hR3 (then_ret (hR2 (then_ret (hR1 (then_ret ⟨ν, by walk_at "zbase", h false ⟨fun e => (by cases e), fun ok => ?_⟩⟩))))))
                  have := ok.leave _ _ _ hxr hnr (beq_iff_eq.mp hb)
                  rw [e9] at this
                  have h3 := of_decide_eq_true hb2
                  omega
                · refine ite_F ?_
                  refine ev_nil ?_
                  refine hc (fun p hp => hp) (fun _ => ?_)
                  rw [e9]
                  have h3 := of_decide_eq_false hb2
                  omega
              · refine ite_F ?_
                refine ev_nil ?_
                exact hc (fun p hp => hp) (fun e => absurd hb (by rw [e]; decide))
            refine ev_consVal "later" (behindD r x) (fun _ hc => ?_) fun ul => ?_
            · refine ev_Assign (h := ?_)
              refine ev_BinOp ?_
              refine ev_BinOp ?_
              refine ev_local (h := ?_)
              refine ev_Call (h := ?_)
              refine ev_bltn (h := ?_)
              refine ev_cwT_0 (h := ?_)
              refine ev_spl (h := ?_)
              refine ev_Compare (h := ?_)
              refine ev_Sub ?_
              refine ev_Sub ?_
              refine ev_local (h := ?_)
              refine ev_local (h := ?_)
              refine ev_itemTK (h := ?_)
              refine ev_int (h := fun _ => ?_)
              refine ev_itemTN (h := ?_)
              refine ev_str (h := fun _ => ?_)
              refine ev_eqS ?_
              refine ev_spl0 ?_
              refine ev_intB fun _ => ?_
              refine ev_add (h := fun _ => ?_)
              refine ev_IfExp ?_
              refine ev_isCompare (h := ?_)
              refine ev_Sub ?_
              refine ev_Sub ?_
              refine ev_local (h := ?_)
              refine ev_local (h := ?_)
              refine ev_itemTK (h := ?_)
              refine ev_int (h := fun _ => ?_)
              refine ev_itemTN (h := ?_)
              refine ev_str (h := fun _ => ?_)
              refine ev_eqS ?_
              refine ev_truthyB ?_
              refine ite_B (fun hb => ?_) fun hb => ?_
              · with_reducible refine hide_goal fun _ toG => ?_
                obtain ⟨n9, hp9, h9⟩ := hfi.leave (beq_iff_eq.mp hb)
                rw [hp9] at har
                obtain ⟨x1, xs1, rfl, ⟨t9, rfl⟩, _⟩ := har.uncons
                refine toG ?_
                refine ev_Sub ?_
                refine ev_Sub ?_
                refine ev_local (h := ?_)
                refine ev_local (h := ?_)
                refine ev_itemTK (h := ?_)
                refine ev_int (h := fun _ => ?_)
                refine ev_itemTN (h := ?_)
                refine ev_sub' (h := fun _ => ?_)
                refine ev_store (h := ?_)
                have e9 : behindD r x = (x + if (r.name == "enter") = true then 1 else 0) - n9 := by
                  unfold behindD leaves
                  rw [beq_iff_eq.mp hb, hp9]
                  have ne1 : ¬ (("leave" : Str) = "enter") := by decide
                  simp [ne1]
                exact hc e9.symm fun p hp => hp
              · refine ev_int (h := fun _ => ?_)
                refine ev_sub' (h := fun _ => ?_)
                refine ev_store (h := ?_)
                have e9 : behindD r x = (x + if (r.name == "enter") = true then 1 else 0) - 0 := by
                  unfold behindD
                  by_cases e : r.name = "enter"
                  · simp [e]
                  · have hl : r.name ≠ "leave" := by intro q; rw [q] at hb; exact absurd hb (by decide)
                    simp [e, hl]
                exact hc e9.symm fun p hp => hp
            refine ev_cons ?_
            refine ev_For ?_ (outNoX (R := NoX)) (Rb := NoX) (hs := fun _ => rfl)
            refine ev_Call (h := ?_)
            refine ev_glob (h := ?_)
            refine ev_cwF_0 (h := ?_)
            refine ev_spl (h := ?_)
            refine ev_local (h := ?_)
            refine ev_spl (h := ?_)
            refine ev_local (h := ?_)
            refine ev_spl0 ?_
            refine c_law_behind (by walk_at "zroom") (by walk_at "zmem") hot (hrs.mono fun _ _ y => y.mono (KeepT.of (by walk_at "zbase"))) hnr few hfi.shaped hfi.many fun D3 oD3 gv hD3 hoD3 hgv => ?_
            refine ev_iterL (.head _) hoD3 fun it3 ok hit3 hok => ?_
            obtain ⟨ν7, hs7, hS9⟩ := hS8x.push (a := D3) (o := oD3) hD3.ne
            have hFD3 : ∀ p ∈ (it2, oj2) :: (D2, oD2) :: (it, oi2) :: (D, oD) :: (c'.L + 1, oc) :: ν, p.1 ≠ D3 := fun p hp => hD3.ne p (hS8x.sub p hp)
            have hfl : (behind r n).length ≤ 6 := by
              have := goals_len hfi.shaped
              unfold behind
              split
              · omega
              · rw [List.length_append, List.length_singleton]; omega
            refine ev_forK (yldL hoD3) (fun q m₃ ν₃ => ∃ T3 b3, St c' rs d ((D3, oD3) :: (it2, oj2) :: (D2, oD2) :: (it, oi2) :: (D, oD) :: (c'.L + 1, oc) :: ν) T3 ν₃ ∧ Ext T' T3 ∧ Prog rs.length T0 T3 b3 ∧ LB (7 ^ i + 6 * j + q) T3 ∧ (∀ g ∈ (behind r n).take q, toldD r n x g ∈ dAt T3 g) ∧ m₃ "rows" = some (.ref t) ∧ m₃ "is_still" = some (.bool b3) ∧ m₃ "at" = some (.int n tk) ∧ m₃ "depth" = some (.int x tx) ∧ m₃ "later" = some (.int (behindD r x) ul)) (ν₀ := ν7) ⟨ok, rfl, hok⟩ (fun p hp => ltN' (hit3 p (hs7 p hp))) (hS9.sub _ (.head _)) ⟨T', b2, hS9, .refl, hprog', hlb', (fun x hx => by cases hx), by walk_at "zlk", by walk_at "zlk", by walk_at "zlk", by walk_at "zlk", by walk_at "zlk"⟩ (sub_cons (.head _) fun p hp => .tail _ (hs7 p hp)) ?_ ?_
            · clear hs7 hS9 hD3 hit3 hS8x hod3 hT3 hL3 hi3 hgs
              intro q m₃ ν₃ w δ' b' hq' zp8 hcl3 hsrc3 zp9 _ zp10 K4 hK4 hR4
              with_reducible refine hide_goal fun _ toG => ?_
              obtain ⟨T3, b3, hS10, hext3, hprog3, hlb3, hdone3, hn1, hn2, hn3, hn4, hn5⟩ := zp8
              obtain ⟨hw, rfl⟩ := zp9
              obtain ⟨ok2, rfl, hok2⟩ := zp10
              obtain ⟨g, hgq, tg, rfl⟩ := hgv.at hw
              have hgf : g ∈ fol r n := mem_behind.mp (List.mem_of_getElem? hgq)
              obtain ⟨hg0, hgn⟩ := (hg n r hnr).2 g hgf
              obtain ⟨ng, rfl⟩ := Int.eq_ofNat_of_zero_le hg0
              have hng : ng < rs.length := by omega
              have hrg : RchD rs ng (toldD r n x ng) := .step hxr hnr hgf
              have hFit3 : ∀ p ∈ (D3, oD3) :: (it2, oj2) :: (D2, oD2) :: (it, oi2) :: (D, oD) :: (c'.L + 1, oc) :: ν, p.1 ≠ it3 := fun p hp => hcl3 p (hS10.sub p hp)
              obtain ⟨νa, hsa, hS11⟩ := hS10.push (a := it3) (o := ok2) hcl3
              refine toG ?_
              refine ev_sub (ν' := νa) ?_ hsa
              clear hsa
              with_reducible refine hide_goal fun _ toG => ?_
              obtain ⟨⟨od, kvs, δ, rfl, hod, hT, hL⟩, hi4⟩ := hS11
              refine toG ?_
              refine ev_assignName ?_
              refine ev_store (h := ?_)
              refine ev_consVal "told" (toldD r n x ng) (fun _ hc => ?_) fun ut => ?_
              · refine ev_Assign (h := ?_)
                refine ev_IfExp ?_
                refine ev_isAnd ?_
                refine ev_isCompare (h := ?_)
                refine ev_Sub ?_
                refine ev_Sub ?_
                refine ev_local (h := ?_)
                refine ev_local (h := ?_)
                refine ev_itemTK (h := ?_)
                refine ev_int (h := fun _ => ?_)
                refine ev_itemTN (h := ?_)
                refine ev_str (h := fun _ => ?_)
                refine ev_eqS ?_
                refine ev_truthyB ?_
                refine ite_B (fun hb => ?_) fun hb => ?_
                · refine ev_isAnd ?_
                  refine ev_isCompare (h := ?_)
                  refine ev_local (h := ?_)
                  refine ev_BinOp ?_
                  refine ev_local (h := ?_)
                  refine ev_int (h := fun _ => ?_)
                  refine ev_add (h := fun _ => ?_)
                  refine ev_ne ?_
                  refine ev_truthyB ?_
                  refine ite_B (fun hb2 => ?_) fun hb2 => ?_
                  · refine ev_isAnd0 ?_
                    refine ite_T ?_
                    refine ev_local (h := ?_)
                    refine ev_store (h := ?_)
                    have e9 : x = toldD r n x ng := by unfold toldD; rw [if_pos ⟨beq_iff_eq.mp hb, by simpa using hb2⟩]
                    exact hc e9 fun p hp => hp
                  · refine ite_F ?_
                    refine ev_local (h := ?_)
                    refine ev_store (h := ?_)
                    have e9 : behindD r x = toldD r n x ng := by unfold toldD; rw [if_neg (fun q => by simp [q.2] at hb2)]
                    exact hc e9 fun p hp => hp
                · refine ite_F ?_
                  refine ev_local (h := ?_)
                  refine ev_store (h := ?_)
                  have e9 : behindD r x = toldD r n x ng := by unfold toldD; rw [if_neg (fun q => by simp [q.1] at hb)]
                  exact hc e9 fun p hp => hp
              refine ev_cons ?_
              refine ev_If ?_
              refine ev_isCompare (h := ?_)
              refine ev_local (h := ?_)
              refine ev_CallM (h := ?_)
              refine ev_cell (h := ?_)
              refine ev_getSetdef (by walk_at "zmem") hod ?_
              refine ev_cwB_1 (h := ?_)
              refine ev_spl (h := ?_)
              refine ev_local (h := ?_)
              refine ev_spl (h := ?_)
              refine ev_List ?_
              refine ev_spl0 ?_
              refine ev_newList (h := fun _ _ => ?_)
              refine ev_spl0 ?_
              rename_i l9 hl9
              have ht1 : toldD r n x ng ∉ dAt T3 ng → stepT T3 ng (toldD r n x ng) = setK ng (dAt T3 ng ++ [toldD r n x ng]) T3 := fun e => by unfold stepT; rw [if_neg e]
              have hi5 := hi4.step hng hrg
              have hdg : ∀ T4, T4 = stepT T3 ng (toldD r n x ng) → ∀ y ∈ (behind r n).take (q + 1), toldD r n x y ∈ dAt T4 y := by
                rintro T4 rfl y hy
                rw [List.take_add_one, hgq] at hy
                rcases List.mem_append.mp hy with hy | hy
                · exact Ext.step.mem _ _ (hdone3 y hy)
                · have : y = ng := by simpa using hy
                  subst this
                  exact step_mem
              have hned : ∀ p ∈ (l9, lstO []) :: (it3, ok2) :: (δ ++ (D3, oD3) :: (it2, oj2) :: (D2, oD2) :: (it, oi2) :: (D, oD) :: (c'.L + 1, oc) :: ν), p.1 ≠ d := ne_cons (gtN (hl9 (d, od) (.head _))) (ne_cons (hL.dF _ (.head _)) (ne_app hL.dδ fun p hp => hL.dF p (.tail _ hp)))
              have hk1000 : kvs.length ≤ 1000 := by have := hi4.size; rw [hT.len]; omega
              cases hlg : lk T3 ng with
              | none =>
                refine ev_setdefault (ν₁ := (l9, lstO []) :: (it3, ok2) :: (δ ++ (D3, oD3) :: (it2, oj2) :: (D2, oD2) :: (it, oi2) :: (D, oD) :: (c'.L + 1, oc) :: ν)) hod hlo (by walk_at "zsub") ?_ ?_ (fun v hv => ?_) fun hnone od' hod' => ?_
                · exact hned
                · exact hk1000
                · rw [(hT.none_iff ng).mp hlg] at hv
                  cases hv
                · rw [(valueAt_new hnone).1] at hod'
                  have hnm : toldD r n x ng ∉ dAt T3 ng := by rw [dAt_none hlg]; exact fun h => nomatch h
                  refine ev_notInL (l := []) (by walk_at "zmem") lstO_mk .nil ?_
                  refine ev_truthyB ?_
                  refine ite_isT rfl ?_
                  refine ev_cons ?_
                  refine ev_ExprAny (h := ?_)
                  refine ev_CallM (h := ?_)
                  refine ev_Sub ?_
                  refine ev_cell (h := ?_)
                  refine ev_local (h := ?_)
                  refine ev_itemD (.head _) hod' (v := .ref l9) (by rw [(valueAt_new hnone).2, if_pos rfl]) ?_ (by with_unfolding_all rfl)
                  refine ev_getAppend (h := ?_)
                  refine ev_cwB_1 (h := ?_)
                  refine ev_spl (h := ?_)
                  refine ev_local (h := ?_)
                  refine ev_spl0 ?_
                  refine ev_append (ν₁ := (d, od') :: (it3, ok2) :: (δ ++ (D3, oD3) :: (it2, oj2) :: (D2, oD2) :: (it, oi2) :: (D, oD) :: (c'.L + 1, oc) :: ν)) lstO_mk (by walk_at "zsub") (ne_cons (ltN' (hl9 (d, od) (.head _))) (fun p hp => hl9.ne p ((show ∀ p ∈ (it3, ok2) :: (δ ++ (D3, oD3) :: (it2, oj2) :: (D2, oD2) :: (it, oi2) :: (D, oD) :: (c'.L + 1, oc) :: ν), p ∈ (d, od) :: (δ ++ (it3, ok2) :: (D3, oD3) :: (it2, oj2) :: (D2, oD2) :: (it, oi2) :: (D, oD) :: (c'.L + 1, oc) :: ν) from by walk_at "zsub") p hp))) (Nat.zero_le _) fun o9 ho9 => ?_
                  refine then_next ?_
                  refine ev_cons ?_
                  refine ev_Assign (h := ?_)
                  refine ev_bool ?_
                  refine ev_store (h := ?_)
                  refine then_next ?_
                  refine ev_nil ?_
                  refine then_next ?_
                  refine ev_nil ?_
                  have hSt : St c' rs d ((it3, ok2) :: (D3, oD3) :: (it2, oj2) :: (D2, oD2) :: (it, oi2) :: (D, oD) :: (c'.L + 1, oc) :: ν) (stepT T3 ng (toldD r n x ng)) ((d, od') :: ((δ ++ [(l9, o9)]) ++ (it3, ok2) :: (D3, oD3) :: (it2, oj2) :: (D2, oD2) :: (it, oi2) :: (D, oD) :: (c'.L + 1, oc) :: ν)) := by
                    refine ⟨⟨od', _, _, rfl, hod', ?_, ⟨hL.dF, ne_app hL.dδ (ne_cons (gtN (hl9 (d, od) (.head _))) ne_nil), fun p hp q hq => ?_⟩⟩, hi5⟩
                    · rw [ht1 hnm]
                      exact hT.add hlg (fun p hp => hl9.ne p (.tail _ (List.mem_append_left _ hp))) ho9 (by rw [dAt_none hlg]; exact .cons ⟨ut, rfl⟩ .nil)
                    · rcases List.mem_append.mp hp with hp | hp
                      · exact hL.δF p hp q hq
                      · rw [List.mem_singleton] at hp
                        subst hp
                        exact hl9.ne q (.tail _ (List.mem_append_right _ hq))
                  with_reducible refine hide_goal fun _ toG => ?_
                  obtain ⟨νb, hsb, hneb, hSb⟩ := hSt.pop hFit3
                  refine toG ?_
                  exact (hK4 ⟨νb, fun p hp => (show ∀ p ∈ (d, od') :: ((δ ++ [(l9, o9)]) ++ (it3, ok2) :: (D3, oD3) :: (it2, oj2) :: (D2, oD2) :: (it, oi2) :: (D, oD) :: (c'.L + 1, oc) :: ν), p ∈ (l9, o9) :: (d, od') :: (it3, ok2) :: (δ ++ (D3, oD3) :: (it2, oj2) :: (D2, oD2) :: (it, oi2) :: (D, oD) :: (c'.L + 1, oc) :: ν) from by walk_at "zsub") p (hsb p hp), hneb, hSb.sub _ (.head _), _, false, hSb, hext3.trans .step, Prog.step hi4 (hext.trans (hext'.trans hext3)) hng hnm, hlb3.step, hdg _ rfl, by walk_at "zlk", by walk_at "zlk", by walk_at "zlk", by walk_at "zlk", by walk_at "zlk"⟩).1
              | some dsg =>
                with_reducible refine hide_goal fun _ toG => ?_
                obtain ⟨a9, oa9, ua9, δ9, hva9, hoa9, hda9, hsa9, hna9, hupd9⟩ := hT.upd hlg
                refine toG ?_
                have hm9 := hsa9 _ (.head _)
                refine ev_setdefault (ν₁ := (l9, lstO []) :: (it3, ok2) :: (δ ++ (D3, oD3) :: (it2, oj2) :: (D2, oD2) :: (it, oi2) :: (D, oD) :: (c'.L + 1, oc) :: ν)) hod hlo (by walk_at "zsub") hned hk1000 (fun v hv => ?_) fun hnone => absurd hnone (by rw [hva9]; exact fun h => nomatch h)
                rw [hva9] at hv
                cases hv
                refine ev_sub (ν' := (d, od) :: (δ ++ (it3, ok2) :: (D3, oD3) :: (it2, oj2) :: (D2, oD2) :: (it, oi2) :: (D, oD) :: (c'.L + 1, oc) :: ν)) ?_ (fun p hp => .tail _ hp)
                clear hl9
                refine ev_notInL (by walk_at "zmem") hoa9 hda9 ?_
                refine ev_truthyB ?_
                refine ite_B (fun hb => ?_) fun hb => ?_
                · have hnm : toldD r n x ng ∉ dAt T3 ng := by
                    rw [dAt_some hlg]
                    exact any_notI (by simpa using hb)
                  refine ev_cons ?_
                  refine ev_ExprAny (h := ?_)
                  refine ev_CallM (h := ?_)
                  refine ev_Sub ?_
                  refine ev_cell (h := ?_)
                  refine ev_local (h := ?_)
                  refine ev_itemD (.head _) hod hva9 ?_ (by with_unfolding_all rfl)
                  refine ev_getAppend (h := ?_)
                  refine ev_cwB_1 (h := ?_)
                  refine ev_spl (h := ?_)
                  refine ev_local (h := ?_)
                  refine ev_spl0 ?_
                  have hl2 : ua9.length ≤ 6000000 := by
                    have := hlb3 ng
                    rw [dAt_some hlg] at this
                    rw [hda9.length]
                    have e1 : j < ds.length := by rw [← hda.length]; exact hj'
                    have e2 : q ≤ 6 := by have := hgv.length; have := hq'; have := hfl; omega
                    omega
                  refine ev_append (ν₁ := (d, od) :: (it3, ok2) :: (δ9 ++ (D3, oD3) :: (it2, oj2) :: (D2, oD2) :: (it, oi2) :: (D, oD) :: (c'.L + 1, oc) :: ν)) hoa9 (sub_cons (by walk_at "zmem") (sub_cons (.head _) (sub_cons (by walk_at "zmem") (sub_app (fun p hp => .tail _ (List.mem_append_left _ (hsa9 p (.tail _ hp)))) (by walk_at "zbase"))))) (ne_cons (Ne.symm (hL.dδ _ hm9)) (ne_cons (hL.δF _ hm9 _ (.head _)) (ne_app hna9 fun p hp => hL.δF _ hm9 p (.tail _ hp)))) (Nat.le_trans hl2 (by decide)) fun o9 ho9 => ?_
                  refine then_next ?_
                  refine ev_cons ?_
                  refine ev_Assign (h := ?_)
                  refine ev_bool ?_
                  refine ev_store (h := ?_)
                  refine then_next ?_
                  refine ev_nil ?_
                  refine then_next ?_
                  refine ev_nil ?_
                  with_reducible refine hide_goal fun _ toG => ?_
                  obtain ⟨δ2, r1, r2, r3⟩ := hupd9 _ _ _ ho9 (hda9.snoc ⟨ut, rfl⟩)
                  refine toG ?_
                  have hSt : St c' rs d ((it3, ok2) :: (D3, oD3) :: (it2, oj2) :: (D2, oD2) :: (it, oi2) :: (D, oD) :: (c'.L + 1, oc) :: ν) (stepT T3 ng (toldD r n x ng)) ((d, od) :: (δ2 ++ (it3, ok2) :: (D3, oD3) :: (it2, oj2) :: (D2, oD2) :: (it, oi2) :: (D, oD) :: (c'.L + 1, oc) :: ν)) := by
                    refine ⟨⟨od, _, _, rfl, hod, ?_, ⟨hL.dF, fun p hp => ?_, fun p hp q hq => ?_⟩⟩, hi5⟩
                    · rw [ht1 hnm, dAt_some hlg]
                      exact r3
                    · obtain ⟨q, hq, e⟩ := r2 p hp
                      exact e ▸ hL.dδ q hq
                    · obtain ⟨q', hq', e⟩ := r2 p hp
                      exact e ▸ hL.δF q' hq' q hq
                  with_reducible refine hide_goal fun _ toG => ?_
                  obtain ⟨νb, hsb, hneb, hSb⟩ := hSt.pop hFit3
                  refine toG ?_
                  refine (hK4 ⟨νb, fun p hp => ?_, hneb, hSb.sub _ (.head _), _, false, hSb, hext3.trans .step, Prog.step hi4 (hext.trans (hext'.trans hext3)) hng hnm, hlb3.step, hdg _ rfl, by walk_at "zlk", by walk_at "zlk", by walk_at "zlk", by walk_at "zlk", by walk_at "zlk"⟩).1
                  refine (sub_cons (.tail _ (.head _)) (sub_app (fun p hp => ?_) (sub_cons (by walk_at "zmem") (by walk_at "zbase"))) : ∀ p ∈ (d, od) :: (δ2 ++ (it3, ok2) :: (D3, oD3) :: (it2, oj2) :: (D2, oD2) :: (it, oi2) :: (D, oD) :: (c'.L + 1, oc) :: ν), p ∈ (a9, o9) :: (d, od) :: (it3, ok2) :: (δ9 ++ (D3, oD3) :: (it2, oj2) :: (D2, oD2) :: (it, oi2) :: (D, oD) :: (c'.L + 1, oc) :: ν)) p (hsb p hp)
                  rcases List.mem_cons.mp (r1 p hp) with e | hp'
                  · rw [e]; exact .head _
                  · exact .tail _ (.tail _ (.tail _ (List.mem_append_left _ hp')))
                · have hin : toldD r n x ng ∈ dAt T3 ng := by
                    rw [dAt_some hlg]
                    exact any_inI (by simpa using hb)
                  refine ev_nil ?_
                  refine then_next ?_
                  refine ev_nil ?_
                  have hSt : St c' rs d ((it3, ok2) :: (D3, oD3) :: (it2, oj2) :: (D2, oD2) :: (it, oi2) :: (D, oD) :: (c'.L + 1, oc) :: ν) (stepT T3 ng (toldD r n x ng)) ((d, od) :: (δ ++ (it3, ok2) :: (D3, oD3) :: (it2, oj2) :: (D2, oD2) :: (it, oi2) :: (D, oD) :: (c'.L + 1, oc) :: ν)) := by
                    refine ⟨⟨od, _, _, rfl, hod, ?_, hL⟩, hi5⟩
                    unfold stepT
                    rw [if_pos hin]
                    exact hT
                  with_reducible refine hide_goal fun _ toG => ?_
                  obtain ⟨νb, hsb, hneb, hSb⟩ := hSt.pop hFit3
                  refine toG ?_
                  exact (hK4 ⟨νb, hsb, hneb, hSb.sub _ (.head _), _, b3, hSb, hext3.trans .step, hprog3.same hin, hlb3.step, hdg _ rfl, by walk_at "zlk", by walk_at "zlk", by walk_at "zlk", by walk_at "zlk", by walk_at "zlk"⟩).1
            · rintro m₃ ν₃ ⟨T3, b3, hS10, hext3, hprog3, hlb3, hdone3, hn1, hn2, hn3, hn4, hn5⟩ _ _
              with_reducible refine hide_goal fun _ toG => ?_
              obtain ⟨ν8, hs8, _, hS11⟩ := hS10.pop hFD3
              obtain ⟨ν9, hs9, hne9, hS12⟩ := hS11.pop hFit2
              refine toG ?_
              refine then_next ?_
              refine ev_nil ?_
              refine (hK3 ⟨ν9, fun p hp => hs8 p (.tail _ (hs9 p hp)), hne9, hS12.sub _ (.head _), T3, b3, hS12, hext'.trans hext3, hprog3, hlb3.le ?_, fun y hy => ?_, hn1, hn2, hn3⟩).1
              · rw [hgv.length]; omega
              · rw [List.take_add_one, hx] at hy
                rcases List.mem_append.mp hy with hy | hy
                · exact (hdone' y hy).mono hext3
                · have hyy : y = x := by simpa using hy
                  subst hyy
                  refine ⟨hle, fun g hg2 => hdone3 g ?_⟩
                  rw [hgv.length, List.take_length]
                  exact mem_behind.mpr hg2
          · rintro m₂ ν₂ ⟨T', b', hS5, hext', hprog', hlb', hdone', hm1', hm2', hm3'⟩ _ _
            with_reducible refine hide_goal fun _ toG => ?_
            obtain ⟨ν4, hs4, _, hS6⟩ := hS5.pop hFD2
            obtain ⟨ν5, hs5, hne5, hS7⟩ := hS6.pop hFit
            refine toG ?_
            refine then_next ?_
            refine ev_nil ?_
            refine (hK2 ⟨ν5, fun p hp => hs4 p (.tail _ (hs5 p hp)), hne5, hS7.sub _ (.head _), T', b', hS7, hext.trans hext', hprog', hlb'.le ?_, fun key hk n' r' x e e' hx => ?_, hm1', hm2'⟩).1
            · rw [hda.length, Nat.pow_succ]; omega
            · rw [List.take_add_one, hkey] at hk
              rcases List.mem_append.mp hk with hk | hk
              · exact (hdone key hk n' r' x e e' hx).mono hext'
              · have hkk : key = n := by simpa using hk
                subst hkk
                obtain rfl : n = n' := by omega
                rw [hnr] at e'
                cases e'
                refine hdone' x ?_
                have hx2 := hext.mem _ _ hx
                rw [dAt_some hds] at hx2
                rw [hda.length, List.take_length]
                exact hx2
        · rintro m₁ ν₁ ⟨T, b, hS2, hext, hprog, hlb, hdone, hm1, hm2⟩ hcl hsrc
          with_reducible refine hide_goal fun _ toG => ?_
          obtain ⟨νe, hse, _, hS9⟩ := hS2.pop (fun p hp => hD.ne p (.tail _ (List.mem_append_right _ hp)))
          refine toG ?_
          have hS9x := hS9
          refine then_next ?_
          refine ev_cons ?_
          refine ev_If ?_
          refine ev_isCompare (h := ?_)
          refine ev_sub (ν' := νe) ?_ (fun p hp => hse p (.tail _ hp))
          have hse' : ∀ p ∈ νe, p ∈ ν₁ := fun p hp => hse p (.tail _ hp)
          with_reducible refine hide_goal fun _ toG => ?_
          obtain ⟨⟨od, kvs, δ, rfl, hod, hT, hL⟩, hi2⟩ := hS9
          refine toG ?_
          refine' ev_ListComp (cl := [("open_now", c'.L + 1)]) (Rb := NoX) ?_ outCompNoX ?h1 ?h2 ?h3 ?h4 ?h5
          case h1 => with_unfolding_all rfl
          case h2 => decide
          case h3 => rfl
          case h4 => decide
          case h5 => exact fun _ => rfl
          refine ev_cell (h := ?_)
          refine ev_iterD (.head _) hod hlo fun it2 oi2 ep hit2 hoi2 hat => ?_
          have hk1000 : kvs.length ≤ 1000 := by have := hi2.size; rw [hT.len]; omega
          refine ev_compK (yldD hat) (Nat.le_trans hk1000 (by decide)) (fun k acc ν₂ => ν₂ = (d, od) :: (δ ++ (c'.L + 1, oc) :: ν) ∧ ∃ l, AllV IntV l acc ∧ (l = [] ↔ ∀ key ∈ (kvs.map (·.1)).take k, (dAt T key).length ≤ 1)) (ν₀ := (d, od) :: (δ ++ (c'.L + 1, oc) :: ν)) ⟨oi2, rfl, hoi2⟩ (fun p hp => ltN' (hit2 p hp)) (.head _) ⟨rfl, [], .nil, by simp⟩ (by walk_at "zsub") (fun a ha => ⟨_, .head _, ha.symm⟩) (fun k b hb p hp => by obtain ⟨oi', rfl, _⟩ := hb; cases hp with | head => rfl | tail _ h => cases h) (fun L q h => .tail _ h) ?_ ?_
          · intro k acc ν₂ v δ2 b3 Ca oC mC D2 oD2 hk hal zp11 hne2 hsr2 zp12 hδ2 hB2 hNs hoD2 hab2 hDC hbCD hneC K5 N5 hK5 hN5
            with_reducible refine hide_goal fun _ toG => ?_
            obtain ⟨rfl, l, hl, hiff⟩ := zp11
            obtain ⟨⟨key, y, tk, hky, rfl⟩, rfl⟩ := zp12
            obtain ⟨oj2, rfl, hoj2⟩ := hB2
            have hkk : (kvs.map (·.1))[k]? = some key := by rw [List.getElem?_map, hky]; rfl
            obtain ⟨dsk, hdsk⟩ := lk_key (T := T) (k := key) (by rw [← hT.keys]; exact List.mem_of_getElem? hkk)
            obtain ⟨ak, ok, uk, δk, hvk, hok, hdk, hsk, _, _⟩ := hT.upd hdsk
            refine toG ?_
            have hmk := hsk _ (.head _)
            have hlen : uk.length = (dAt T key).length := by rw [hdk.length, dAt_some hdsk]
            have hu40 : uk.length < 2 ^ 40 := by
              have h1 := hlb key
              have h2 : 7 ^ us.length ≤ 823543 := Nat.le_trans (Nat.pow_le_pow_right (by decide) (show us.length ≤ 7 by have := hperm.length_eq; have := hks.length; have := hi.size; rw [List.length_map] at *; omega)) (by decide)
              omega
            have htk : (kvs.map (·.1)).take (k + 1) = (kvs.map (·.1)).take k ++ [key] := by rw [List.take_add_one, hkk]; rfl
            refine ev_assignName ?_
            refine ev_storeC (hν := fun _ h => h) (h := fun _ _ => ?_)
            refine ev_tests1 ?_
            refine ev_isCompare (h := ?_)
            refine ev_Call (h := ?_)
            refine ev_bltn (h := ?_)
            refine ev_cwB_0 (h := ?_)
            refine ev_spl (h := ?_)
            refine ev_Sub ?_
            refine ev_cell (h := ?_)
            refine ev_localC (h := ?_)
            refine ev_itemD (by walk_at "zmem") hod hvk ?_ (by with_unfolding_all rfl)
            refine ev_spl0 ?_
            refine ev_lenL (h := fun _ => ?_)
            refine ev_int (h := fun _ => ?_)
            refine ev_gt ?_
            refine ev_truthyB ?_
            rename_i oC2 hN2 _ _
            refine ite_B (fun hb => ?_) fun hb => ?_
            · refine ev_localC (h := ?_)
              refine hK5 (ν'' := (d, od) :: (δ ++ (c'.L + 1, oc) :: ν)) (by walk_at "zsub") hN2 hne2 hsr2 ⟨rfl, l ++ [key], hl.snoc ⟨tk, rfl⟩, ⟨fun e => absurd e (by simp), fun q => ?_⟩⟩
              have h3 := q key (by rw [htk]; simp)
              have h4 := of_decide_eq_true hb
              omega
            · refine hN5 (ν'' := (d, od) :: (δ ++ (c'.L + 1, oc) :: ν)) (by walk_at "zsub") hN2 hne2 hsr2 ⟨rfl, l, hl, ?_⟩
              rw [hiff, htk]
              have h4 := of_decide_eq_false hb
              refine ⟨fun q key' hk' => ?_, fun q key' hk' => q key' (List.mem_append_left _ hk')⟩
              rcases List.mem_append.mp hk' with hk' | hk'
              · exact q key' hk'
              · rw [List.mem_singleton] at hk'
                subst hk'
                omega
          · rintro D2 oD2 acc ν₂ hal ⟨rfl, l, hl, hiff⟩ hoD2 hab2 hne2 hsr2
            refine ev_List ?_
            refine ev_spl0 ?_
            refine ev_newList (h := fun _ _ => ?_)
            refine ev_neI (.tail _ (.head _)) hoD2 hl (.head _) lstO_mk .nil (by walk_at "zroom") ?_
            refine ev_truthyB ?_
            have htk : (kvs.map (·.1)).take kvs.length = kvs.map (·.1) := by rw [← List.length_map (f := (·.1)), List.take_length]
            rw [htk, hT.keys] at hiff
            refine ite_B (fun hb => ?_) fun hb => ?_
            · refine ev_cons ?_
              refine ev_Return ?_
              refine ev_bool ?_
              refine then_ret ?_
              refine then_ret ?_
              refine hR1 (then_ret ⟨ν, by walk_at "zbase", h false ⟨fun e => (by cases e), fun ok => absurd ok ?_⟩⟩)
              by_cases hall : ∀ key ∈ T.map (·.1), (dAt T key).length ≤ 1
              · rw [hiff.mpr hall] at hb
                simp at hb
              · with_reducible refine hide_goal fun _ toG => ?_
                obtain ⟨key, hkey⟩ := Classical.not_forall.mp hall
                obtain ⟨_, hkey⟩ := Classical.not_imp.mp hkey
                refine toG ?_
                exact round_bad hi2 (k := key) (by omega)
            · have hle0 : l = [] := by simpa using hb
              have hone' : ∀ k, (dAt T k).length ≤ 1 := fun k => by
                cases e : lk T k with
                | none => rw [dAt_none e]; simp
                | some ds =>
                  refine hiff.mp hle0 k ?_
                  exact key_lk e
              refine ev_nil ?_
              refine then_next ?_
              refine ev_nil ?_
              refine (hK1 (k' := _) ?_ ⟨T, b, _, (by walk_at "zbase"), hS9x, hone', hm1, hm2, rfl, fun hb2 => ?_⟩).1
              · subst hj
                cases b with
                | true => exact Nat.succ_pos _
                | false =>
                  rcases hprog.went rfl with h3 | ⟨k, h3⟩
                  · exact Nat.succ_lt_succ h3
                  · have := hone' k; omega
              · obtain rfl := hprog.still hb2
                refine round_ok hi2 (fun n r x hr2 hx => ?_) hone'
                refine hdone n ?_ n r x rfl hr2 hx
                rw [hks.length, List.take_length]
                exact hperm.mem_iff.mpr (key_lk (lk_of hx))

local macro_rules | `(tactic| walk_at "zstrs") => `(tactic| (repeat' (first | exact StrsAre.nil | apply StrsAre.cons)))
theorem behind_len {r : Row} (hs : Shaped r) (n : Nat) : (behind r n).length ≤ 6 := by
  have := goals_len hs
  unfold behind
  split
  · omega
  · rw [List.length_append, List.length_singleton]; omega
theorem opt_of {l : List Int} {vs : List Value} (h : AllV IntV l vs) : AllV OptV (l.map some) vs := by
  induction h with
  | nil => exact .nil
  | cons x _ ih => exact .cons x ih
theorem c_is_right {c : Cx} {m : Loc} {ν : Led} {P : Value → Loc → Led → Prop} {R : RX} {x rt st cp mk : Addr} {nm : Str} {ar sl : Int} {sts : List Str} {nc : Nat} {rs : List Row} {vs : List Value} (hr : Room c 16) (hx : CodeIs ν x nm ar sl rt st cp mk sts nc rs vs) (h1 : 1 ≤ ar) (hany : 0 < rs.length) (few : rs.length ≤ 7) (hnc : nc < 1000) (hd : ∀ r ∈ rs, Fine r ∨ Odd r)
    (h : ∀ b : Bool, (b = true ↔ Right ar sl sts nc rs) → P (.bool b) m ν) : EV c m ν (call (.ref 222) [.ref x]) P R := by
  with_reducible refine hide_goal fun _ toG => ?_
  obtain ⟨dx, es, n, hx1, hx2, hD⟩ := hx.code
  obtain ⟨ort, hrt, hrt'⟩ := hx.rows
  obtain ⟨ost, wst, hst, hst', hst2⟩ := hx.static
  obtain ⟨ocp, wcp, hcp, hcp', hcp2⟩ := hx.captures
  have hrs := hx.each
  clear hx
  have hlen := hrs.length
  have h40 : vs.length < 2 ^ 40 := by omega
  have hc40 : wcp.length < 2 ^ 40 := by omega
  have hro := hD.rows
  have hso := hD.static
  have hco := hD.captures
  obtain ⟨ta, har⟩ := hD.arity
  obtain ⟨ts, hsl⟩ := hD.slots
  refine toG ?_
  refine ev_post ?_
  refine' ev_callC (n := 15) (Rb := NoX) (binds := [("code", .ref x)]) (m₀ := noLoc) (cs := fun L => [("many", L + 2), ("code", L + 1)]) (cm := bnd noLoc [("code", .ref x)]) ?ho ?hcd hr ?hb ?hkd ?hnd ?hm ?hcm ?hcs ?hck ?h (fun _ _ x => x.elim)
  case ho => k_is
  case hcd => k_is
  case hb => exact fun s => BindsTo.of_eq rfl
  case hkd => exact rfl
  case hnd => decide
  case hm => exact fun _ => rfl
  case hcm => exact fun _ => rfl
  case hcs => exact fun _ => rfl
  case hck => exact rfl
  case h =>
    intro c' cells hr' hcw hY lt
    with_reducible refine hide_goal fun _ toG => ?_
    obtain ⟨om, oc, rfl, hom, hoc⟩ := hY.two
    refine toG ?_
    replace hoc : oc.data = .cell (some (.ref x)) := by rw [hoc]; rfl
    have hmc : ∀ p ∈ (c'.L + 1, oc) :: ν, p.1 ≠ c'.L + 2 := ne_cons (ltN' (Nat.lt_succ_self (c'.L + 1))) (fun p hp => ltN' (Nat.lt_trans (lt p hp) (Nat.lt_trans (Nat.lt_succ_self _) (Nat.lt_succ_self _))))
    refine ev_cons ?_
    refine ev_AssignTup (h := ?_)
    refine ev_Tuple ?_
    refine ev_spl (h := ?_)
    refine ev_Attr (h := ?_)
    refine ev_cell (h := ?_)
    refine ev_getAttr (h := ?_)
    refine ev_spl (h := ?_)
    refine ev_Call (h := ?_)
    refine ev_bltn (h := ?_)
    refine ev_cwB_0 (h := ?_)
    refine ev_spl (h := ?_)
    refine ev_Attr (h := ?_)
    refine ev_cell (h := ?_)
    refine ev_getAttr (h := ?_)
    refine ev_spl0 ?_
    refine ev_lenT (h := fun _ => ?_)
    refine ev_spl0 ?_
    refine ev_newTuple (h := fun _ _ => ?_)
    refine ev_assignT2 (h := ?_)
    refine ev_store (h := ?_)
    refine ev_storeCell (cc := c'.L + 2) (o := om) (ν₁ := (c'.L + 1, oc) :: ν) (by with_unfolding_all rfl) hom (by walk_at "zsub") hmc (fun om hom => ?_) rfl (by with_unfolding_all rfl)
    refine then_next ?_
    refine ev_cons ?_
    refine ev_If ?_
    refine ev_isNot ?_
    refine ev_isChain (h := ?_)
    refine ev_int (h := fun _ => ?_)
    refine ev_Attr (h := ?_)
    refine ev_cell (h := ?_)
    refine ev_getAttr (h := ?_)
    refine ev_le ?_
    refine ev_truthyB ?_
    refine ite_isT (decide_eq_true h1) ?_
    refine ev_Attr (h := ?_)
    refine ev_cell (h := ?_)
    refine ev_getAttr (h := ?_)
    refine ev_le ?_
    refine ev_truthyB ?_
    refine ite_B (b := !decide (ar ≤ sl)) (fun hb => ?_) (fun hb => ?_)
    · refine ev_cons ?_
      refine ev_Return ?_
      refine ev_bool ?_
      refine then_ret ?_
      refine then_ret ?_
      refine ⟨ν, by walk_at "zbase", h false ⟨fun e => (by cases e), fun ok => ?_⟩⟩
      have := ok.fits
      simp [this] at hb
    have hfit : ar ≤ sl := by simpa using hb
    refine ev_nil ?_
    refine then_next ?_
    refine ev_cons ?_
    refine ev_For ?_ (outNoX (R := NoX)) (Rb := NoX) (hs := fun _ => rfl)
    refine ev_Call (h := ?_)
    refine ev_bltn (h := ?_)
    refine ev_cwT_0 (h := ?_)
    refine ev_spl (h := ?_)
    refine ev_cell (h := ?_)
    refine ev_spl0 ?_
    refine ev_range1 fun r0 t1 t2 hr0 => ?_
    refine ev_iterR (.head _) (Int.natCast_nonneg _) (by omega) fun it oi hit hoi => ?_
    refine ev_forK (yldR (n := vs.length)) (fun j m₁ ν₁ => ν₁ = (c'.L + 2, om) :: (c'.L + 1, oc) :: ν ∧ (∀ k r, k < j → rs[k]? = some r → Fine r ∧ RowOk sl rs.length k sts nc r) ∧ m₁ "rows" = some (.ref rt)) (ν₀ := (c'.L + 2, om) :: (c'.L + 1, oc) :: ν) ⟨oi, rfl, by simpa using hoi⟩ (fun p hp => ltN' (hit p (.tail _ hp))) trivial ⟨rfl, (fun k r hk => absurd hk (Nat.not_lt_zero k)), by walk_at "zlk"⟩ (by walk_at "zsub") ?_ ?_
    · intro j m₁ ν₁ v δ b' hj zp1 hcl _ zp2 _ zp3 K1 hK1 hR1
      with_reducible refine hide_goal fun _ toG => ?_
      obtain ⟨rfl, hdone, hm1⟩ := zp1
      obtain ⟨⟨tj, rfl⟩, rfl⟩ := zp2
      obtain ⟨oi2, rfl, _⟩ := zp3
      refine toG ?_
      obtain ⟨r, hjr⟩ : ∃ r, rs[j]? = some r := ⟨_, List.getElem?_eq_getElem (by omega)⟩
      with_reducible refine hide_goal fun _ toG => ?_
      obtain ⟨vr, hvr, hrv⟩ := hrs.get hjr
      have hrv0 := hrv
      obtain ⟨br, obr, tnr, psr, rfl, hmbr, hobr, har2⟩ := hrv
      refine toG ?_
      have hj2 : j < 1048576 := by omega
      rcases hd r (List.mem_of_getElem? hjr) with hf | hf
      · refine ev_assignName ?_
        refine ev_store (h := ?_)
        refine ev_cons ?_
        refine ev_Assign (h := ?_)
        refine ev_Call (h := ?_)
        refine ev_glob (h := ?_)
        refine ev_cwF_0 (h := ?_)
        refine ev_spl (h := ?_)
        refine ev_Sub ?_
        refine ev_local (h := ?_)
        refine ev_local (h := ?_)
        refine ev_itemTK (h := ?_)
        refine ev_spl0 ?_
        refine c_law_parts (by walk_at "zroom") (hrv0.mono (KeepT.of (by walk_at "zbase"))) hf.shaped hf.many fun T S1 S2 sv o1 o2 us gs hsv ho1 ho2 hus hgs a1 a2 a3 => ?_
        refine ev_store (h := ?_)
        refine then_next ?_
        refine ev_consRet (∀ y ∈ r.uses ++ r.sets.toList, y < sl) (fun _ hc hrc => ?_) fun hregs => ?_
        · refine ev_If ?_
          refine ev_isOr ?_
          refine ev_isCompare (h := ?_)
          refine ev_local (h := ?_)
          refine ev_none ?_
          refine ev_isNone ?_
          refine ev_truthyB ?_
          refine ite_isF (b := (Value.ref T == Value.none)) rfl ?_
          refine ev_isOr ?_
          refine ev_isCompare (h := ?_)
          have hul : us.length ≤ 100 := by rw [hus.length]; exact hf.many
          refine' ev_ListComp (cl := [("code", c'.L + 1)]) (Rb := NoX) ?_ outCompNoX ?h1 ?h2 ?h3 ?h4 ?h5
          case h1 => with_unfolding_all rfl
          case h2 => decide
          case h3 => rfl
          case h4 => decide
          case h5 => exact fun _ => rfl
          refine ev_BinOp ?_
          refine ev_Sub ?_
          refine ev_local (h := ?_)
          refine ev_int (h := fun _ => ?_)
          refine ev_itemTN (h := ?_)
          refine ev_List ?_
          refine ev_spl (h := ?_)
          refine ev_Sub ?_
          refine ev_local (h := ?_)
          refine ev_int (h := fun _ => ?_)
          refine ev_itemTN (h := ?_)
          refine ev_spl0 ?_
          refine ev_newList (h := fun _ _ => ?_)
          refine ev_addL (by walk_at "zmem") ho1 (.head _) lstO_mk (Nat.le_trans (by simp only [List.length_cons, List.length_nil]; omega) (show 101 ≤ sizeLine by decide)) fun D3 o3 hD3 ho3 => ?_
          refine ev_iterL (.head _) ho3 fun it2 oj hit2 hoj => ?_
          have hzs : AllV OptV (r.uses.map some ++ [r.sets]) (us ++ [sv]) := (opt_of hus).app (.cons hsv .nil)
          refine ev_compK (yldL ho3) (Nat.le_trans (by simp only [List.length_append, List.length_cons, List.length_nil]; omega) (show 101 ≤ sizeLine by decide)) (fun k acc ν₂ => ν₂ = (D3, o3) :: (T, tupO [sv, .ref S1, .ref S2]) :: (S2, o2) :: (S1, o1) :: (it, oi2) :: (c'.L + 2, om) :: (c'.L + 1, oc) :: ν ∧ ∃ l, AllV IntV l acc ∧ (l = [] ↔ ∀ z ∈ (r.uses.map some ++ [r.sets]).take k, ∀ y, z = some y → y < sl)) (ν₀ := (D3, o3) :: (T, tupO [sv, .ref S1, .ref S2]) :: (S2, o2) :: (S1, o1) :: (it, oi2) :: (c'.L + 2, om) :: (c'.L + 1, oc) :: ν) ⟨oj, rfl, hoj⟩ (fun p hp => ltN' (hit2 p ((show ∀ p ∈ (D3, o3) :: (T, tupO [sv, .ref S1, .ref S2]) :: (S2, o2) :: (S1, o1) :: (it, oi2) :: (c'.L + 2, om) :: (c'.L + 1, oc) :: ν, p ∈ _ from by walk_at "zsub") p hp))) (.head _) ⟨rfl, [], .nil, by simp⟩ (by walk_at "zsub") (fun a ha => ⟨_, .head _, ha.symm⟩) (fun k b hb p hp => by obtain ⟨oi', rfl, _⟩ := hb; cases hp with | head => rfl | tail _ h => cases h) (fun L q h => .tail _ h) ?_ ?_
          · intro k acc ν₂ v δ2 b3 Ca oC mC D2 oD2 hk hal zp4 hne2 hsr2 zp5 hδ2 hB2 hNs hoD2 hab2 hDC hbCD hneC K2 N2 hK2 hN2
            with_reducible refine hide_goal fun _ toG => ?_
            obtain ⟨rfl, l, hl, hiff⟩ := zp4
            obtain ⟨hv, rfl⟩ := zp5
            obtain ⟨oj2, rfl, hoj2⟩ := hB2
            obtain ⟨z, hz, hzv⟩ := hzs.at hv
            refine toG ?_
            have htk : (r.uses.map some ++ [r.sets]).take (k + 1) = (r.uses.map some ++ [r.sets]).take k ++ [z] := by rw [List.take_add_one, hz]; rfl
            cases z with
            | none =>
              obtain rfl : v = .none := hzv
              refine ev_assignName ?_
              refine ev_storeC (hν := fun _ h => h) (h := fun _ _ => ?_)
              refine ev_tests1 ?_
              refine ev_isAnd ?_
              refine ev_isCompare (h := ?_)
              refine ev_localC (h := ?_)
              refine ev_none ?_
              refine ev_isNotNone ?_
              refine ev_truthyB ?_
              refine ite_isF (b := !(Value.none == Value.none)) rfl ?_
              refine ite_F ?_
              rename_i oC2 hNo
              refine hN2 (ν'' := (D3, o3) :: (T, tupO [sv, .ref S1, .ref S2]) :: (S2, o2) :: (S1, o1) :: (it, oi2) :: (c'.L + 2, om) :: (c'.L + 1, oc) :: ν) (by walk_at "zsub") hNo hne2 hsr2 ⟨rfl, l, hl, ?_⟩
              rw [hiff, htk]
              refine ⟨fun q z' hz' y e => ?_, fun q z' hz' => q z' (List.mem_append_left _ hz')⟩
              rcases List.mem_append.mp hz' with hz' | hz'
              · exact q z' hz' y e
              · rw [List.mem_singleton] at hz'
                rw [hz'] at e
                cases e
            | some y =>
              obtain ⟨ty, rfl⟩ := hzv
              refine ev_assignName ?_
              refine ev_storeC (hν := fun _ h => h) (h := fun _ _ => ?_)
              refine ev_tests1 ?_
              refine ev_isAnd ?_
              refine ev_isCompare (h := ?_)
              refine ev_localC (h := ?_)
              refine ev_none ?_
              refine ev_isNotNone ?_
              refine ev_truthyB ?_
              refine ite_isT (b := !(Value.int y ty == Value.none)) rfl ?_
              refine ev_isAnd ?_
              refine ev_isCompare (h := ?_)
              refine ev_localC (h := ?_)
              refine ev_Attr (h := ?_)
              refine ev_cell (h := ?_)
              refine ev_getAttr (h := ?_)
              refine ev_ge ?_
              refine ev_truthyB ?_
              rename_i oC2 hNo
              refine ite_B (b := decide (sl ≤ y)) (fun hb => ?_) fun hb => ?_
              · refine ev_isAnd0 ?_
                refine ite_T ?_
                refine ev_localC (h := ?_)
                refine hK2 (ν'' := (D3, o3) :: (T, tupO [sv, .ref S1, .ref S2]) :: (S2, o2) :: (S1, o1) :: (it, oi2) :: (c'.L + 2, om) :: (c'.L + 1, oc) :: ν) (by walk_at "zsub") hNo hne2 hsr2 ⟨rfl, l ++ [y], hl.snoc ⟨ty, rfl⟩, ⟨fun e => absurd e (by simp), fun q => ?_⟩⟩
                have h3 := q (some y) (by rw [htk]; simp) y rfl
                have h4 := of_decide_eq_true hb
                omega
              · refine ite_F ?_
                refine hN2 (ν'' := (D3, o3) :: (T, tupO [sv, .ref S1, .ref S2]) :: (S2, o2) :: (S1, o1) :: (it, oi2) :: (c'.L + 2, om) :: (c'.L + 1, oc) :: ν) (by walk_at "zsub") hNo hne2 hsr2 ⟨rfl, l, hl, ?_⟩
                rw [hiff, htk]
                have h4 := of_decide_eq_false hb
                refine ⟨fun q z' hz' y' e => ?_, fun q z' hz' => q z' (List.mem_append_left _ hz')⟩
                rcases List.mem_append.mp hz' with hz' | hz'
                · exact q z' hz' y' e
                · rw [List.mem_singleton] at hz'
                  rw [hz'] at e
                  cases e
                  omega
          · rintro D2 oD2 acc ν₂ hal ⟨rfl, l, hl, hiff⟩ hoD2 hab2 hne2 hsr2
            refine ev_List ?_
            refine ev_spl0 ?_
            refine ev_newList (h := fun _ _ => ?_)
            refine ev_neI (.tail _ (.head _)) hoD2 hl (.head _) lstO_mk .nil (by walk_at "zroom") ?_
            refine ev_truthyB ?_
            rw [hzs.length, List.take_length] at hiff
            have hall2 : (∀ y ∈ r.uses ++ r.sets.toList, y < sl) ↔ l = [] := by
              rw [hiff]
              constructor
              · intro q z hz y e
                subst e
                refine q y ?_
                rcases List.mem_append.mp hz with hz | hz
                · exact List.mem_append_left _ (by simpa using hz)
                · rw [List.mem_singleton] at hz
                  exact List.mem_append_right _ (by rw [← hz]; simp)
              · intro q y hy
                refine q (some y) ?_ y rfl
                rcases List.mem_append.mp hy with hy | hy
                · exact List.mem_append_left _ (List.mem_map_of_mem hy)
                · refine List.mem_append_right _ ?_
                  rw [List.mem_singleton]
                  cases e : r.sets with
                  | none => rw [e] at hy; cases hy
                  | some w => rw [e] at hy; simp at hy; rw [hy]
            refine ite_B (fun hb => ?_) fun hb => ?_
            · refine ite_T ?_
              refine ev_cons ?_
              refine ev_Return ?_
              refine ev_bool ?_
              refine then_ret ?_
              refine hrc (hR1 (then_ret ⟨ν, by walk_at "zbase", h false ⟨fun e => (by cases e), fun ok => ?_⟩⟩))
              have := hall2.mp (ok.rows j r hjr).2.regs
              simp [this] at hb
            · refine ev_isOr0 ?_
              refine ite_F ?_
              refine ev_nil ?_
              exact hc (by walk_at "zsub") (hall2.mpr (by simpa using hb))
        refine ev_sub (ν' := (it, oi2) :: (c'.L + 2, om) :: (c'.L + 1, oc) :: ν) ?_ (by walk_at "zsub")
        clear ho1 ho2 hus hgs hsv a1 a2 a3
        refine ev_consRet (∀ y ∈ fol r j, y < rs.length) (fun _ hc hrc => ?_) fun hfols => ?_
        · refine ev_If ?_
          refine ev_isCompare (h := ?_)
          refine' ev_ListComp (cl := [("many", c'.L + 2)]) (Rb := NoX) ?_ outCompNoX ?h1 ?h2 ?h3 ?h4 ?h5
          case h1 => with_unfolding_all rfl
          case h2 => decide
          case h3 => rfl
          case h4 => decide
          case h5 => exact fun _ => rfl
          refine ev_Call (h := ?_)
          refine ev_glob (h := ?_)
          refine ev_cwF_0 (h := ?_)
          refine ev_spl (h := ?_)
          refine ev_local (h := ?_)
          refine ev_spl (h := ?_)
          refine ev_local (h := ?_)
          refine ev_spl0 ?_
          refine c_law_behind (by walk_at "zroom") (by walk_at "zmem") hrt' (hrs.mono fun _ _ y => y.mono (KeepT.of (by walk_at "zbase"))) hjr (by omega) hf.shaped hf.many fun D3 o3 gs hD3 ho3 hgs => ?_
          have hgl := hgs.length
          have hbl := behind_len hf.shaped j
          refine ev_iterL (.head _) ho3 fun it2 oj hit2 hoj => ?_
          refine ev_compK (yldL ho3) (Nat.le_trans (show gs.length ≤ 6 by omega) (by decide)) (fun k acc ν₂ => ν₂ = (D3, o3) :: (it, oi2) :: (c'.L + 2, om) :: (c'.L + 1, oc) :: ν ∧ ∃ l, AllV IntV l acc ∧ (l = [] ↔ ∀ y ∈ (behind r j).take k, y < rs.length)) (ν₀ := (D3, o3) :: (it, oi2) :: (c'.L + 2, om) :: (c'.L + 1, oc) :: ν) ⟨oj, rfl, hoj⟩ (fun p hp => ltN' (hit2 p hp)) (.head _) ⟨rfl, [], .nil, by simp⟩ (by walk_at "zsub") (fun a ha => ⟨_, .head _, ha.symm⟩) (fun k b hb p hp => by obtain ⟨oi', rfl, _⟩ := hb; cases hp with | head => rfl | tail _ h => cases h) (fun L q h => .tail _ h) ?_ ?_
          · intro k acc ν₂ v δ2 b3 Ca oC mC D2 oD2 hk hal zp6 hne2 hsr2 zp7 hδ2 hB2 hNs hoD2 hab2 hDC hbCD hneC K3 N3 hK3 hN3
            with_reducible refine hide_goal fun _ toG => ?_
            obtain ⟨rfl, l, hl, hiff⟩ := zp6
            obtain ⟨hv, rfl⟩ := zp7
            obtain ⟨oj2, rfl, hoj2⟩ := hB2
            obtain ⟨y, hz, ty, rfl⟩ := hgs.at hv
            refine toG ?_
            have htk : (behind r j).take (k + 1) = (behind r j).take k ++ [y] := by rw [List.take_add_one, hz]; rfl
            refine ev_assignName ?_
            refine ev_storeC (hν := fun _ h => h) (h := fun _ _ => ?_)
            refine ev_tests1 ?_
            refine ev_isCompare (h := ?_)
            refine ev_localC (h := ?_)
            refine ev_cell (h := ?_)
            refine ev_ge ?_
            refine ev_truthyB ?_
            rename_i oC2 hNo
            refine ite_B (b := decide ((vs.length : Int) ≤ y)) (fun hb => ?_) fun hb => ?_
            · refine ev_localC (h := ?_)
              refine hK3 (ν'' := (D3, o3) :: (it, oi2) :: (c'.L + 2, om) :: (c'.L + 1, oc) :: ν) (by walk_at "zsub") hNo hne2 hsr2 ⟨rfl, l ++ [y], hl.snoc ⟨ty, rfl⟩, ⟨fun e => absurd e (by simp), fun q => ?_⟩⟩
              have h3 := q y (by rw [htk]; simp)
              have h4 := of_decide_eq_true hb
              omega
            · skip
              refine hN3 (ν'' := (D3, o3) :: (it, oi2) :: (c'.L + 2, om) :: (c'.L + 1, oc) :: ν) (by walk_at "zsub") hNo hne2 hsr2 ⟨rfl, l, hl, ?_⟩
              rw [hiff, htk]
              have h4 := of_decide_eq_false hb
              refine ⟨fun q y' hz' => ?_, fun q y' hz' => q y' (List.mem_append_left _ hz')⟩
              rcases List.mem_append.mp hz' with hz' | hz'
              · exact q y' hz'
              · rw [List.mem_singleton] at hz'
                rw [hz']
                omega
          · rintro D2 oD2 acc ν₂ hal ⟨rfl, l, hl, hiff⟩ hoD2 hab2 hne2 hsr2
            refine ev_List ?_
            refine ev_spl0 ?_
            refine ev_newList (h := fun _ _ => ?_)
            refine ev_neI (.tail _ (.head _)) hoD2 hl (.head _) lstO_mk .nil (by walk_at "zroom") ?_
            refine ev_truthyB ?_
            rw [hgl, List.take_length] at hiff
            refine ite_B (fun hb => ?_) fun hb => ?_
            · refine ev_cons ?_
              refine ev_Return ?_
              refine ev_bool ?_
              refine then_ret ?_
              refine hrc (hR1 (then_ret ⟨ν, by walk_at "zbase", h false ⟨fun e => (by cases e), fun ok => ?_⟩⟩))
              have := hiff.mpr fun y hy => (ok.rows j r hjr).2.fols y (mem_behind.mp hy)
              simp [this] at hb
            · refine ev_nil ?_
              exact hc (by walk_at "zsub") (fun y hy => hiff.mp (by simpa using hb) y (mem_behind.mpr hy))
        refine ev_consRet ((r.name = "static" → statB sts r = true) ∧ (r.name = "capture" → captB nc r = true)) (fun _ hc hrc => ?_) fun hsc => ?_
        · refine ev_If ?_
          refine ev_isOr ?_
          refine ev_isAnd ?_
          refine ev_isCompare (h := ?_)
          refine ev_Sub ?_
          refine ev_Sub ?_
          refine ev_local (h := ?_)
          refine ev_local (h := ?_)
          refine ev_itemTK (h := ?_)
          refine ev_int (h := fun _ => ?_)
          refine ev_itemTN (h := ?_)
          refine ev_str (h := fun _ => ?_)
          refine ev_eqS ?_
          refine ev_truthyB ?_
          refine ite_B (fun hb => ?_) fun hb => ?_
          · have hn1 : r.name = "static" := beq_iff_eq.mp hb
            with_reducible refine hide_goal fun _ toG => ?_
            obtain ⟨d, x2, hp, hxl⟩ := hf.stat hn1
            rw [hp] at har2
            obtain ⟨x1, xs1, rfl, _, har2⟩ := har2.uncons
            obtain ⟨x3, xs3, rfl, ⟨tt, rfl⟩, har2⟩ := har2.uncons
            refine toG ?_
            have est : statB sts r = sts.any (· == x2) := by unfold statB; rw [hp]
            refine ev_isAnd ?_
            refine ev_isCompare (h := ?_)
            refine ev_Sub ?_
            refine ev_Sub ?_
            refine ev_local (h := ?_)
            refine ev_local (h := ?_)
            refine ev_itemTK (h := ?_)
            refine ev_int (h := fun _ => ?_)
            refine ev_itemTN (h := ?_)
            refine ev_Attr (h := ?_)
            refine ev_cell (h := ?_)
            refine ev_getAttr (h := ?_)
            refine ev_notInTupL (by walk_at "zmem") hst' hst2 ?_
            refine ev_truthyB ?_
            refine ite_B (fun hb2 => ?_) (fun hb2 => ?_)
            · refine ev_isAnd0 ?_
              refine ite_T ?_
              refine ite_T ?_
              refine ev_cons ?_
              refine ev_Return ?_
              refine ev_bool ?_
              refine then_ret ?_
              refine hrc (hR1 (then_ret ⟨ν, by walk_at "zbase", h false ⟨fun e => (by cases e), fun ok => ?_⟩⟩))
              have := (ok.rows j r hjr).2.stat hn1
              rw [est] at this
              rw [this] at hb2
              cases hb2
            · refine ite_F ?_
              refine ev_isOr ?_
              refine ev_isAnd ?_
              refine ev_isCompare (h := ?_)
              refine ev_Sub ?_
              refine ev_Sub ?_
              refine ev_local (h := ?_)
              refine ev_local (h := ?_)
              refine ev_itemTK (h := ?_)
              refine ev_int (h := fun _ => ?_)
              refine ev_itemTN (h := ?_)
              refine ev_str (h := fun _ => ?_)
              refine ev_eqS ?_
              refine ev_truthyB ?_
              refine ite_isF (by rw [hn1]; rfl) ?_
              refine ite_F ?_
              refine ev_isOr0 ?_
              refine ite_F ?_
              refine ev_nil ?_
              exact hc (fun p hp => hp) ⟨fun _ => by rw [est]; simpa using hb2, fun e => absurd (hn1.symm.trans e) (by decide)⟩
          · have hn1 : r.name ≠ "static" := fun e => absurd hb (by rw [e]; decide)
            refine ite_F ?_
            refine ev_isOr ?_
            refine ev_isAnd ?_
            refine ev_isCompare (h := ?_)
            refine ev_Sub ?_
            refine ev_Sub ?_
            refine ev_local (h := ?_)
            refine ev_local (h := ?_)
            refine ev_itemTK (h := ?_)
            refine ev_int (h := fun _ => ?_)
            refine ev_itemTN (h := ?_)
            refine ev_str (h := fun _ => ?_)
            refine ev_eqS ?_
            refine ev_truthyB ?_
            refine ite_B (fun hb => ?_) fun hb => ?_
            · have hn2 : r.name = "capture" := beq_iff_eq.mp hb
              with_reducible refine hide_goal fun _ toG => ?_
              obtain ⟨d, n2, hp, hn0, hn9⟩ := hf.capt hn2
              rw [hp] at har2
              obtain ⟨x1, xs1, rfl, _, har2⟩ := har2.uncons
              obtain ⟨x3, xs3, rfl, ⟨tt, rfl⟩, har2⟩ := har2.uncons
              refine toG ?_
              have est : captB nc r = decide (n2 < nc) := by unfold captB; rw [hp]
              refine ev_isAnd ?_
              refine ev_isCompare (h := ?_)
              refine ev_Sub ?_
              refine ev_Sub ?_
              refine ev_local (h := ?_)
              refine ev_local (h := ?_)
              refine ev_itemTK (h := ?_)
              refine ev_int (h := fun _ => ?_)
              refine ev_itemTN (h := ?_)
              refine ev_Call (h := ?_)
              refine ev_bltn (h := ?_)
              refine ev_cwB_0 (h := ?_)
              refine ev_spl (h := ?_)
              refine ev_Attr (h := ?_)
              refine ev_cell (h := ?_)
              refine ev_getAttr (h := ?_)
              refine ev_spl0 ?_
              refine ev_lenT (h := fun _ => ?_)
              refine ev_ge ?_
              refine ev_truthyB ?_
              refine ite_B (b := decide ((wcp.length : Int) ≤ n2)) (fun hb2 => ?_) (fun hb2 => ?_)
              · refine ev_isAnd0 ?_
                refine ite_T ?_
                refine ite_T ?_
                refine ev_cons ?_
                refine ev_Return ?_
                refine ev_bool ?_
                refine then_ret ?_
                refine hrc (hR1 (then_ret ⟨ν, by walk_at "zbase", h false ⟨fun e => (by cases e), fun ok => ?_⟩⟩))
                have := (ok.rows j r hjr).2.capt hn2
                rw [est] at this
                have h3 := of_decide_eq_true this
                have h4 := of_decide_eq_true hb2
                omega
              · refine ite_F ?_
                refine ev_isOr0 ?_
                refine ite_F ?_
                refine ev_nil ?_
                refine hc (fun p hp => hp) ⟨fun e => absurd e hn1, fun _ => ?_⟩
                rw [est]
                have h4 := of_decide_eq_false hb2
                exact decide_eq_true (by omega)
            · refine ite_F ?_
              refine ev_isOr0 ?_
              refine ite_F ?_
              refine ev_nil ?_
              exact hc (fun p hp => hp) ⟨fun e => absurd e hn1, fun e => absurd hb (by rw [e]; decide)⟩
        refine ev_consRet ((r.name = "splat" → splatB r = true) ∧ (r.name = "kwcall" → kwB r = true)) (fun _ hc hrc => ?_) fun hsk => ?_
        · refine ev_If ?_
          refine ev_isAnd ?_
          refine ev_isCompare (h := ?_)
          refine ev_Sub ?_
          refine ev_Sub ?_
          refine ev_local (h := ?_)
          refine ev_local (h := ?_)
          refine ev_itemTK (h := ?_)
          refine ev_int (h := fun _ => ?_)
          refine ev_itemTN (h := ?_)
          refine ev_Tuple ?_
          refine ev_spl (h := ?_)
          refine ev_str (h := fun _ => ?_)
          refine ev_spl (h := ?_)
          refine ev_str (h := fun _ => ?_)
          refine ev_spl0 ?_
          refine ev_newTuple (h := fun _ _ => ?_)
          refine ev_inTupL (h := ?_)
          refine ev_truthyB ?_
          refine ite_B (fun hb => ?_) fun hb => ?_
          · have hnm := any_name hb
            simp only [List.mem_cons, List.not_mem_nil, or_false] at hnm
            rcases hnm with hn1 | hn1
            · with_reducible refine hide_goal fun _ toG => ?_
              obtain ⟨d, sx, a1, b1, hp, la, lb⟩ := hf.splat hn1
              have est : splatB r = (a1.length == b1.length) := by unfold splatB; rw [hp]
              rw [hp] at har2
              obtain ⟨x1, xs1, rfl, _, har3⟩ := har2.uncons
              obtain ⟨x2, xs2, rfl, _, har4⟩ := har3.uncons
              obtain ⟨x3, xs3, rfl, hx3, har5⟩ := har4.uncons
              obtain ⟨x4, xs4, rfl, hx4, har6⟩ := har5.uncons
              obtain ⟨b3, o3', vs3, rfl, hm3', ho3', ha3⟩ := hx3
              obtain ⟨b4, o4', vs4, rfl, hm4', ho4', ha4⟩ := hx4
              refine toG ?_
              have l3 : vs3.length = a1.length := by rw [ha3.length, List.length_map]
              have l4 : vs4.length = b1.length := ha4.length
              have l3' : vs3.length < 2 ^ 40 := by omega
              have l4' : vs4.length < 2 ^ 40 := by omega
              refine ev_isAnd ?_
              refine ev_isCompare (h := ?_)
              refine ev_Call (h := ?_)
              refine ev_bltn (h := ?_)
              refine ev_cwB_0 (h := ?_)
              refine ev_spl (h := ?_)
              refine ev_Sub ?_
              refine ev_Sub ?_
              refine ev_local (h := ?_)
              refine ev_local (h := ?_)
              refine ev_itemTK (h := ?_)
              refine ev_int (h := fun _ => ?_)
              refine ev_itemTN (h := ?_)
              refine ev_spl0 ?_
              refine ev_lenT (h := fun _ => ?_)
              refine ev_Call (h := ?_)
              refine ev_bltn (h := ?_)
              refine ev_cwB_0 (h := ?_)
              refine ev_spl (h := ?_)
              refine ev_Sub ?_
              refine ev_Sub ?_
              refine ev_local (h := ?_)
              refine ev_local (h := ?_)
              refine ev_itemTK (h := ?_)
              refine ev_int (h := fun _ => ?_)
              refine ev_itemTN (h := ?_)
              refine ev_spl0 ?_
              refine ev_lenT (h := fun _ => ?_)
              refine ev_ne ?_
              refine ev_truthyB ?_
              refine ite_B (fun hb2 => ?_) (fun hb2 => ?_)
              · refine ev_isAnd0 ?_
                refine ite_T ?_
                refine ev_cons ?_
                refine ev_Return ?_
                refine ev_bool ?_
                refine then_ret ?_
                refine hrc (hR1 (then_ret ⟨ν, by walk_at "zbase", h false ⟨fun e => (by cases e), fun ok => ?_⟩⟩))
                have := (ok.rows j r hjr).2.splat hn1
                rw [est] at this
                have h3 := beq_iff_eq.mp this
                have h4 := bne_iff_ne.mp hb2
                omega
              · refine ite_F ?_
                refine ev_nil ?_
                refine hc (by walk_at "zsub") ⟨fun _ => ?_, fun e => absurd (hn1.symm.trans e) (by decide)⟩
                rw [est]
                have h4 := bne_eq_false_iff_eq.mp hb2
                exact beq_iff_eq.mpr (by omega)
            · with_reducible refine hide_goal fun _ toG => ?_
              obtain ⟨d, sx, a1, b1, e1, hp, la, lb⟩ := hf.kw hn1
              have est : kwB r = (a1.length == b1.length) := by unfold kwB; rw [hp]
              rw [hp] at har2
              obtain ⟨x1, xs1, rfl, _, har3⟩ := har2.uncons
              obtain ⟨x2, xs2, rfl, _, har4⟩ := har3.uncons
              obtain ⟨x3, xs3, rfl, hx3, har5⟩ := har4.uncons
              obtain ⟨x4, xs4, rfl, hx4, har6⟩ := har5.uncons
              obtain ⟨b3, o3', vs3, rfl, hm3', ho3', ha3⟩ := hx3
              obtain ⟨b4, o4', vs4, rfl, hm4', ho4', ha4⟩ := hx4
              refine toG ?_
              have l3 : vs3.length = a1.length := ha3.length
              have l4 : vs4.length = b1.length := by rw [ha4.length, List.length_map]
              have l3' : vs3.length < 2 ^ 40 := by omega
              have l4' : vs4.length < 2 ^ 40 := by omega
              refine ev_isAnd ?_
              refine ev_isCompare (h := ?_)
              refine ev_Call (h := ?_)
              refine ev_bltn (h := ?_)
              refine ev_cwB_0 (h := ?_)
              refine ev_spl (h := ?_)
              refine ev_Sub ?_
              refine ev_Sub ?_
              refine ev_local (h := ?_)
              refine ev_local (h := ?_)
              refine ev_itemTK (h := ?_)
              refine ev_int (h := fun _ => ?_)
              refine ev_itemTN (h := ?_)
              refine ev_spl0 ?_
              refine ev_lenT (h := fun _ => ?_)
              refine ev_Call (h := ?_)
              refine ev_bltn (h := ?_)
              refine ev_cwB_0 (h := ?_)
              refine ev_spl (h := ?_)
              refine ev_Sub ?_
              refine ev_Sub ?_
              refine ev_local (h := ?_)
              refine ev_local (h := ?_)
              refine ev_itemTK (h := ?_)
              refine ev_int (h := fun _ => ?_)
              refine ev_itemTN (h := ?_)
              refine ev_spl0 ?_
              refine ev_lenT (h := fun _ => ?_)
              refine ev_ne ?_
              refine ev_truthyB ?_
              refine ite_B (fun hb2 => ?_) (fun hb2 => ?_)
              · refine ev_isAnd0 ?_
                refine ite_T ?_
                refine ev_cons ?_
                refine ev_Return ?_
                refine ev_bool ?_
                refine then_ret ?_
                refine hrc (hR1 (then_ret ⟨ν, by walk_at "zbase", h false ⟨fun e => (by cases e), fun ok => ?_⟩⟩))
                have := (ok.rows j r hjr).2.kw hn1
                rw [est] at this
                have h3 := beq_iff_eq.mp this
                have h4 := bne_iff_ne.mp hb2
                omega
              · refine ite_F ?_
                refine ev_nil ?_
                refine hc (by walk_at "zsub") ⟨fun e => absurd (hn1.symm.trans e) (by decide), fun _ => ?_⟩
                rw [est]
                have h4 := bne_eq_false_iff_eq.mp hb2
                exact beq_iff_eq.mpr (by omega)
          · refine ite_F ?_
            refine ev_nil ?_
            have hnm := any_not hb
            exact hc (by walk_at "zsub") ⟨fun e => absurd (by rw [e]; simp) hnm, fun e => absurd (by rw [e]; simp) hnm⟩
        refine ev_nil ?_
        refine (hK1 ⟨(c'.L + 2, om) :: (c'.L + 1, oc) :: ν, by walk_at "zsub", hcl, trivial, rfl, fun k r' hk hr' => ?_, by walk_at "zlk"⟩).1
        by_cases e : k = j
        · subst e
          rw [hjr] at hr'
          cases hr'
          exact ⟨hf, ⟨hregs, hfols, hsc.1, hsc.2, hsk.1, hsk.2⟩⟩
        · exact hdone k r' (by omega) hr'
      · refine ev_assignName ?_
        refine ev_store (h := ?_)
        refine ev_cons ?_
        refine ev_Assign (h := ?_)
        refine ev_Call (h := ?_)
        refine ev_glob (h := ?_)
        refine ev_cwF_0 (h := ?_)
        refine ev_spl (h := ?_)
        refine ev_Sub ?_
        refine ev_local (h := ?_)
        refine ev_local (h := ?_)
        refine ev_itemTK (h := ?_)
        refine ev_spl0 ?_
        refine c_law_parts_odd (by walk_at "zroom") (hrv0.mono (KeepT.of (by walk_at "zbase"))) hf ?_
        refine ev_store (h := ?_)
        refine then_next ?_
        refine ev_cons ?_
        refine ev_If ?_
        refine ev_isOr ?_
        refine ev_isCompare (h := ?_)
        refine ev_local (h := ?_)
        refine ev_none ?_
        refine ev_isNone ?_
        refine ev_truthyB ?_
        refine ite_isT vn_none ?_
        refine ite_T ?_
        refine ev_cons ?_
        refine ev_Return ?_
        refine ev_bool ?_
        refine then_ret ?_
        refine then_ret ?_
        exact hR1 (then_ret ⟨ν, by walk_at "zbase", h false ⟨fun e => (by cases e), fun ok => absurd (ok.rows j r hjr).1 fun q => hf.not_fine q⟩⟩)
    rintro m₁ ν₁ ⟨rfl, hall, hm1⟩ _ _
    have hall' : ∀ k r, rs[k]? = some r → Fine r ∧ RowOk sl rs.length k sts nc r := fun k r e => hall k r (by rw [hlen]; exact (List.getElem?_eq_some_iff.mp e).1) e
    refine then_next ?_
    refine ev_cons ?_
    refine ev_Return ?_
    refine ev_Call (h := ?_)
    refine ev_glob (h := ?_)
    refine ev_cwF_0 (h := ?_)
    refine ev_spl (h := ?_)
    refine ev_local (h := ?_)
    refine ev_spl0 ?_
    refine c_law_handlers (by walk_at "zroom") (by walk_at "zmem") hrt' (hrs.mono fun _ _ y => y.mono (KeepT.of (by walk_at "zbase"))) few hany (fun k r e => ⟨(hall' k r e).1, fun g hg => ⟨(hall' k r e).1.fol k g hg, (hall' k r e).2.fols g hg⟩⟩) fun b hb => ?_
    refine then_ret ?_
    exact ⟨ν, by walk_at "zbase", h b ⟨fun e => ⟨hfit, hall', hb.mp e⟩, fun ok => hb.mpr ok.handlers⟩⟩

/-- the 25 rows of law 01 -/
def lawRows (a b d : Int) (st : Str) (cp : Int) (mk : List Bool) (kw : List Int) (lv g : Int) : List Row := [⟨"const", [.d a, .x (.tup [.str "nothing"])]⟩, ⟨"move", [.d a, .s b]⟩, ⟨"global", [.d a, .x (.one (.str "x"))]⟩, ⟨"setglobal", [.x (.one (.str "x")), .s a]⟩, ⟨"static", [.d a, .x (.one (.str st))]⟩, ⟨"capture", [.d a, .x (.one (.int cp))]⟩, ⟨"call", [.d a, .s b, .m [d, b]]⟩, ⟨"splat", [.d a, .s b, .m [d, d], .x (.tup (mk.map .bool))]⟩, ⟨"kwcall", [.d a, .s b, .x (.tup [.str "k"]), .m kw, .m [a, b]]⟩, ⟨"closure", [.d a, .x (.one (.str "#1")), .m [b]]⟩, ⟨"box", [.d a]⟩, ⟨"unbox", [.d a, .s b, .x (.one (.str "x"))]⟩, ⟨"setbox", [.s a, .s b]⟩, ⟨"clear", [.d a]⟩, ⟨"goto", [.g g]⟩, ⟨"unless", [.s a, .g g]⟩, ⟨"return", [.s a]⟩, ⟨"enter", [.g g]⟩, ⟨"leave", [.x (.one (.int lv))]⟩, ⟨"caught", [.d a]⟩, ⟨"rethrow", []⟩, ⟨"defined", [.s a, .x (.one (.str "x"))]⟩, ⟨"method", [.x (.one (.str "f")), .s a, .x (.one (.str "m"))]⟩, ⟨"invoke", [.d a, .x (.one (.int 3)), .m [b, d]]⟩, ⟨"guard", [.x (.one (.int 7)), .g g]⟩]
structure LawPar (sl n : Int) (a b d : Int) (st : Str) (cp : Int) (mks : List Bool) (kw : List Int) (lv g : Int) : Prop where
  ha : 0 ≤ a ∧ a ≤ sl
  hb : 0 ≤ b ∧ b ≤ sl
  hd : 0 ≤ d ∧ d ≤ sl
  hst : st = "T.1" ∨ st = "T.2"
  hcp : 0 ≤ cp ∧ cp < 3
  hmk : mks = [true, false] ∨ mks = [true]
  hkw : kw = [d] ∨ kw = [d, d]
  hlv : lv = 1 ∨ lv = 2
  hg : 0 ≤ g ∧ g ≤ n
/-- what _law_row draws -/
inductive Drawn (sl n : Int) : Row → Prop
  | row {a b d : Int} {st : Str} {cp : Int} {mk : List Bool} {kw : List Int} {lv g : Int} {r : Row} : LawPar sl n a b d st cp mk kw lv g → r ∈ lawRows a b d st cp mk kw lv g → Drawn sl n r
  | cut {a b d : Int} {st : Str} {cp : Int} {mk : List Bool} {kw : List Int} {lv g : Int} {r : Row} : LawPar sl n a b d st cp mk kw lv g → r ∈ lawRows a b d st cp mk kw lv g → r.parts ≠ [] → Drawn sl n ⟨r.name, r.parts.dropLast⟩
  | odd {a : Int} : 0 ≤ a → a ≤ sl → Drawn sl n ⟨"wander", [.x (.one (.int a))]⟩

theorem no {x y : Str} {p : Prop} (h : (x == y) = false) : x = y → p := fun e => by rw [e] at h; simp at h
theorem fine_plain {nm : Str} {ps : List Part} (hn : (["static", "capture", "splat", "kwcall", "leave", "enter"] : List Str).any (· == nm) = false) (hs : Shaped ⟨nm, ps⟩) (hu : (⟨nm, ps⟩ : Row).uses.length ≤ 100) (hr : ∀ x ∈ (⟨nm, ps⟩ : Row).uses ++ (⟨nm, ps⟩ : Row).sets.toList, 0 ≤ x) (hg : ∀ x ∈ (⟨nm, ps⟩ : Row).goals, 0 ≤ x) : Fine ⟨nm, ps⟩ := by
  have q := any_not hn
  simp only [List.mem_cons, List.not_mem_nil, or_false, not_or] at q
  exact ⟨hs, hu, hr, hg, fun e => absurd e q.1, fun e => absurd e q.2.1, fun e => absurd e q.2.2.1, fun e => absurd e q.2.2.2.1, fun e => absurd e q.2.2.2.2.1, fun e => absurd e q.2.2.2.2.2⟩
theorem law_fine {sl n a b d : Int} {st : Str} {cp : Int} {mk : List Bool} {kw : List Int} {lv g : Int} {r : Row} (p : LawPar sl n a b d st cp mk kw lv g) (hm : r ∈ lawRows a b d st cp mk kw lv g) : Fine r := by
  have ha := p.ha.1
  have hb := p.hb.1
  have hd := p.hd.1
  have hg := p.hg.1
  have hst : st.length ≤ 100 := by rcases p.hst with rfl | rfl <;> decide
  have hmk : mk.length ≤ 100 := by rcases p.hmk with rfl | rfl <;> decide
  have hlv : 1 ≤ lv := by rcases p.hlv with rfl | rfl <;> decide
  have hcp := p.hcp
  have hkl : kw.length ≤ 2 := by rcases p.hkw with rfl | rfl <;> exact Nat.le_of_ble_eq_true rfl
  have hkx : ∀ x ∈ (b :: (kw ++ [a, b])) ++ [a], (0 : Int) ≤ x := by
    rcases p.hkw with rfl | rfl
    · exact allc' hb (allc' hd (allc' ha (allc' hb (allc' ha alln'))))
    · exact allc' hb (allc' hd (allc' hd (allc' ha (allc' hb (allc' ha alln')))))
  clear p
  refine (show ∀ r ∈ lawRows a b d st cp mk kw lv g, Fine r from ?_) r hm
  clear hm r
  unfold lawRows
  refine allc' (Q := Fine) ?_ ?_
  · exact fine_plain (by decide +kernel) (by with_unfolding_all rfl) (Nat.le_of_ble_eq_true rfl) (show ∀ x ∈ ([a] : List Int), (0 : Int) ≤ x from (allc' ha alln')) (show ∀ x ∈ ([] : List Int), (0 : Int) ≤ x from alln')
  refine allc' (Q := Fine) ?_ ?_
  · exact fine_plain (by decide +kernel) (by with_unfolding_all rfl) (Nat.le_of_ble_eq_true rfl) (show ∀ x ∈ ([b, a] : List Int), (0 : Int) ≤ x from (allc' hb (allc' ha alln'))) (show ∀ x ∈ ([] : List Int), (0 : Int) ≤ x from alln')
  refine allc' (Q := Fine) ?_ ?_
  · exact fine_plain (by decide +kernel) (by with_unfolding_all rfl) (Nat.le_of_ble_eq_true rfl) (show ∀ x ∈ ([a] : List Int), (0 : Int) ≤ x from (allc' ha alln')) (show ∀ x ∈ ([] : List Int), (0 : Int) ≤ x from alln')
  refine allc' (Q := Fine) ?_ ?_
  · exact fine_plain (by decide +kernel) (by with_unfolding_all rfl) (Nat.le_of_ble_eq_true rfl) (show ∀ x ∈ ([a] : List Int), (0 : Int) ≤ x from (allc' ha alln')) (show ∀ x ∈ ([] : List Int), (0 : Int) ≤ x from alln')
  refine allc' (Q := Fine) ?_ ?_
  · exact ⟨by with_unfolding_all rfl, Nat.le_of_ble_eq_true rfl, (show ∀ x ∈ ([a] : List Int), (0 : Int) ≤ x from (allc' ha alln')), (show ∀ x ∈ ([] : List Int), (0 : Int) ≤ x from alln'), fun _ => ⟨_, _, rfl, hst⟩, no (x := "static") (by decide +kernel), no (x := "static") (by decide +kernel), no (x := "static") (by decide +kernel), no (x := "static") (by decide +kernel), no (x := "static") (by decide +kernel)⟩
  refine allc' (Q := Fine) ?_ ?_
  · exact ⟨by with_unfolding_all rfl, Nat.le_of_ble_eq_true rfl, (show ∀ x ∈ ([a] : List Int), (0 : Int) ≤ x from (allc' ha alln')), (show ∀ x ∈ ([] : List Int), (0 : Int) ≤ x from alln'), no (x := "capture") (by decide +kernel), fun _ => ⟨_, _, rfl, hcp.1, by omega⟩, no (x := "capture") (by decide +kernel), no (x := "capture") (by decide +kernel), no (x := "capture") (by decide +kernel), no (x := "capture") (by decide +kernel)⟩
  refine allc' (Q := Fine) ?_ ?_
  · exact fine_plain (by decide +kernel) (by with_unfolding_all rfl) (Nat.le_of_ble_eq_true rfl) (show ∀ x ∈ ([b, d, b, a] : List Int), (0 : Int) ≤ x from (allc' hb (allc' hd (allc' hb (allc' ha alln'))))) (show ∀ x ∈ ([] : List Int), (0 : Int) ≤ x from alln')
  refine allc' (Q := Fine) ?_ ?_
  · exact ⟨by with_unfolding_all rfl, Nat.le_of_ble_eq_true rfl, (show ∀ x ∈ ([b, d, d, a] : List Int), (0 : Int) ≤ x from (allc' hb (allc' hd (allc' hd (allc' ha alln'))))), (show ∀ x ∈ ([] : List Int), (0 : Int) ≤ x from alln'), no (x := "splat") (by decide +kernel), no (x := "splat") (by decide +kernel), fun _ => ⟨_, _, _, _, rfl, Nat.le_of_ble_eq_true rfl, by rw [List.length_map]; exact hmk⟩, no (x := "splat") (by decide +kernel), no (x := "splat") (by decide +kernel), no (x := "splat") (by decide +kernel)⟩
  refine allc' (Q := Fine) ?_ ?_
  · exact ⟨by with_unfolding_all rfl, (by show (b :: (kw ++ [a, b])).length ≤ 100; rw [List.length_cons, List.length_append]; exact Nat.le_trans (Nat.add_le_add_right (Nat.add_le_add_right hkl 2) 1) (by decide)), (show ∀ x ∈ (b :: (kw ++ [a, b])) ++ [a], (0 : Int) ≤ x from fun x hx => hkx x hx), (show ∀ x ∈ ([] : List Int), (0 : Int) ≤ x from alln'), no (x := "kwcall") (by decide +kernel), no (x := "kwcall") (by decide +kernel), no (x := "kwcall") (by decide +kernel), fun _ => ⟨_, _, _, _, _, rfl, Nat.le_of_ble_eq_true rfl, Nat.le_trans hkl (by decide)⟩, no (x := "kwcall") (by decide +kernel), no (x := "kwcall") (by decide +kernel)⟩
  refine allc' (Q := Fine) ?_ ?_
  · exact fine_plain (by decide +kernel) (by with_unfolding_all rfl) (Nat.le_of_ble_eq_true rfl) (show ∀ x ∈ ([b, a] : List Int), (0 : Int) ≤ x from (allc' hb (allc' ha alln'))) (show ∀ x ∈ ([] : List Int), (0 : Int) ≤ x from alln')
  refine allc' (Q := Fine) ?_ ?_
  · exact fine_plain (by decide +kernel) (by with_unfolding_all rfl) (Nat.le_of_ble_eq_true rfl) (show ∀ x ∈ ([a] : List Int), (0 : Int) ≤ x from (allc' ha alln')) (show ∀ x ∈ ([] : List Int), (0 : Int) ≤ x from alln')
  refine allc' (Q := Fine) ?_ ?_
  · exact fine_plain (by decide +kernel) (by with_unfolding_all rfl) (Nat.le_of_ble_eq_true rfl) (show ∀ x ∈ ([b, a] : List Int), (0 : Int) ≤ x from (allc' hb (allc' ha alln'))) (show ∀ x ∈ ([] : List Int), (0 : Int) ≤ x from alln')
  refine allc' (Q := Fine) ?_ ?_
  · exact fine_plain (by decide +kernel) (by with_unfolding_all rfl) (Nat.le_of_ble_eq_true rfl) (show ∀ x ∈ ([a, b] : List Int), (0 : Int) ≤ x from (allc' ha (allc' hb alln'))) (show ∀ x ∈ ([] : List Int), (0 : Int) ≤ x from alln')
  refine allc' (Q := Fine) ?_ ?_
  · exact fine_plain (by decide +kernel) (by with_unfolding_all rfl) (Nat.le_of_ble_eq_true rfl) (show ∀ x ∈ ([a] : List Int), (0 : Int) ≤ x from (allc' ha alln')) (show ∀ x ∈ ([] : List Int), (0 : Int) ≤ x from alln')
  refine allc' (Q := Fine) ?_ ?_
  · exact fine_plain (by decide +kernel) (by with_unfolding_all rfl) (Nat.le_of_ble_eq_true rfl) (show ∀ x ∈ ([] : List Int), (0 : Int) ≤ x from alln') (show ∀ x ∈ ([g] : List Int), (0 : Int) ≤ x from (allc' hg alln'))
  refine allc' (Q := Fine) ?_ ?_
  · exact fine_plain (by decide +kernel) (by with_unfolding_all rfl) (Nat.le_of_ble_eq_true rfl) (show ∀ x ∈ ([a] : List Int), (0 : Int) ≤ x from (allc' ha alln')) (show ∀ x ∈ ([g] : List Int), (0 : Int) ≤ x from (allc' hg alln'))
  refine allc' (Q := Fine) ?_ ?_
  · exact fine_plain (by decide +kernel) (by with_unfolding_all rfl) (Nat.le_of_ble_eq_true rfl) (show ∀ x ∈ ([a] : List Int), (0 : Int) ≤ x from (allc' ha alln')) (show ∀ x ∈ ([] : List Int), (0 : Int) ≤ x from alln')
  refine allc' (Q := Fine) ?_ ?_
  · exact ⟨by with_unfolding_all rfl, Nat.le_of_ble_eq_true rfl, (show ∀ x ∈ ([] : List Int), (0 : Int) ≤ x from alln'), (show ∀ x ∈ ([g] : List Int), (0 : Int) ≤ x from (allc' hg alln')), no (x := "enter") (by decide +kernel), no (x := "enter") (by decide +kernel), no (x := "enter") (by decide +kernel), no (x := "enter") (by decide +kernel), no (x := "enter") (by decide +kernel), fun _ => ⟨_, rfl⟩⟩
  refine allc' (Q := Fine) ?_ ?_
  · exact ⟨by with_unfolding_all rfl, Nat.le_of_ble_eq_true rfl, (show ∀ x ∈ ([] : List Int), (0 : Int) ≤ x from alln'), (show ∀ x ∈ ([] : List Int), (0 : Int) ≤ x from alln'), no (x := "leave") (by decide +kernel), no (x := "leave") (by decide +kernel), no (x := "leave") (by decide +kernel), no (x := "leave") (by decide +kernel), fun _ => ⟨_, rfl, hlv⟩, no (x := "leave") (by decide +kernel)⟩
  refine allc' (Q := Fine) ?_ ?_
  · exact fine_plain (by decide +kernel) (by with_unfolding_all rfl) (Nat.le_of_ble_eq_true rfl) (show ∀ x ∈ ([a] : List Int), (0 : Int) ≤ x from (allc' ha alln')) (show ∀ x ∈ ([] : List Int), (0 : Int) ≤ x from alln')
  refine allc' (Q := Fine) ?_ ?_
  · exact fine_plain (by decide +kernel) (by with_unfolding_all rfl) (Nat.le_of_ble_eq_true rfl) (show ∀ x ∈ ([] : List Int), (0 : Int) ≤ x from alln') (show ∀ x ∈ ([] : List Int), (0 : Int) ≤ x from alln')
  refine allc' (Q := Fine) ?_ ?_
  · exact fine_plain (by decide +kernel) (by with_unfolding_all rfl) (Nat.le_of_ble_eq_true rfl) (show ∀ x ∈ ([a] : List Int), (0 : Int) ≤ x from (allc' ha alln')) (show ∀ x ∈ ([] : List Int), (0 : Int) ≤ x from alln')
  refine allc' (Q := Fine) ?_ ?_
  · exact fine_plain (by decide +kernel) (by with_unfolding_all rfl) (Nat.le_of_ble_eq_true rfl) (show ∀ x ∈ ([a] : List Int), (0 : Int) ≤ x from (allc' ha alln')) (show ∀ x ∈ ([] : List Int), (0 : Int) ≤ x from alln')
  refine allc' (Q := Fine) ?_ ?_
  · exact fine_plain (by decide +kernel) (by with_unfolding_all rfl) (Nat.le_of_ble_eq_true rfl) (show ∀ x ∈ ([b, d, a] : List Int), (0 : Int) ≤ x from (allc' hb (allc' hd (allc' ha alln')))) (show ∀ x ∈ ([] : List Int), (0 : Int) ≤ x from alln')
  refine allc' (Q := Fine) ?_ alln'
  · exact fine_plain (by decide +kernel) (by with_unfolding_all rfl) (Nat.le_of_ble_eq_true rfl) (show ∀ x ∈ ([] : List Int), (0 : Int) ≤ x from alln') (show ∀ x ∈ ([g] : List Int), (0 : Int) ≤ x from (allc' hg alln'))
theorem drawn_fine {sl n : Int} {r : Row} (h : Drawn sl n r) : Fine r ∨ Odd r := by
  cases h with
  | row p hm => exact .inl (law_fine p hm)
  | cut p hm hne =>
    rename_i a b d st cp mk kw lv g r
    have hs := (law_fine p hm).shaped
    have hl := shaped_len hs
    refine .inr ⟨⟨by rw [List.length_dropLast]; omega, ?_⟩, fun y hy => ?_⟩
    · have hk := look_mem hs
      have : ∀ x ∈ shapesL.map (·.1), x.length ≤ 100 := by decide
      exact this _ hk
    · have e : some y = some r.letters := hy.symm.trans hs
      cases e
      rw [Row.letters_len, List.length_dropLast]
      have := List.length_pos_iff.mpr hne
      omega
  | odd => exact .inr ⟨⟨Nat.le_of_ble_eq_true rfl, Nat.le_of_ble_eq_true rfl⟩, fun y hy => by cases hy⟩

theorem c_row_right_odd {c : Cx} {m : Loc} {ν : Led} {P : Value → Loc → Led → Prop} {R : RX} {r : Row} {v : Value} (hout : c.outer = []) (hr : Room c 10) (hv : RowV ν r v) (hs : Odd r) (h : P (.bool true) m ν) : EV c m ν (call (.ref 241) [v]) P R := by
  refine ev_callU hout ?_
  have hv0 := hv
  obtain ⟨b, o, tn, vs, rfl, hm, ho, ha⟩ := hv
  refine' evu_call (n := 9) (binds := [("row", .ref b)]) ?ho ?hcd hr ?hb ?hl ?hk ?hc ?h
  case ho => k_is
  case hcd => k_is
  case hb => exact fun s => BindsTo.of_eq rfl
  case hl => exact locs rfl
  case hk => exact rfl
  case hc => decide
  case h =>
    intro c' hr' _ henv
    dsimp only [bnd]
    refine evu_cons ?_
    refine ev_Assign (h := ?_)
    refine ev_Call (h := ?_)
    refine ev_glob (h := ?_)
    refine ev_cwF_0 (h := ?_)
    refine ev_spl (h := ?_)
    refine ev_local (h := ?_)
    refine ev_spl0 ?_
    refine c_law_parts_odd (by walk_at "zroom") hv0 hs ?_
    refine ev_store (h := ?_)
    refine ⟨rfl, evu_last (evu_If ?_)⟩
    refine ev_isCompare (h := ?_)
    refine ev_local (h := ?_)
    refine ev_none ?_
    refine ev_isNone ?_
    refine ev_truthyB ?_
    refine ite_isT vn_none ?_
    refine evu_last (evu_Return (evu_Call ?_ (by with_unfolding_all rfl)))
    refine ev_glob (h := ?_)
    refine evu_cwF (by k_is) ?_ (by with_unfolding_all rfl) (by with_unfolding_all rfl)
    refine ev_spl (h := ?_)
    refine ev_local (h := ?_)
    refine ev_spl0 ?_
    exact c_refused (by walk_at "zroom") hv0 hs ⟨Flow.noConfusion, Flow.noConfusion, fun _ q => q, h⟩

section
variable {F G : Int → Int} {r : Row}
theorem turn_uses : (r.turn F G).uses = r.uses.map F := by
  obtain ⟨nm, ps⟩ := r
  show (ps.map (turnP F G)).flatMap usesP = (ps.flatMap usesP).map F
  induction ps with
  | nil => rfl
  | cons p ps ih =>
    rw [List.map_cons, List.flatMap_cons, ih, List.flatMap_cons, List.map_append]
    cases p <;> rfl
theorem turn_goals : (r.turn F G).goals = r.goals.map G := by
  obtain ⟨nm, ps⟩ := r
  show (ps.map (turnP F G)).flatMap goalsP = (ps.flatMap goalsP).map G
  induction ps with
  | nil => rfl
  | cons p ps ih =>
    rw [List.map_cons, List.flatMap_cons, ih, List.flatMap_cons, List.map_append]
    cases p <;> rfl
theorem turn_sets : (r.turn F G).sets = r.sets.map F := by
  obtain ⟨nm, ps⟩ := r
  cases ps with
  | nil => rfl
  | cons p ps => cases p <;> rfl
theorem turn_shaped (h : Shaped r) : Shaped (r.turn F G) := by
  have e : (r.turn F G).letters = r.letters := by
    unfold Row.letters Row.turn
    rw [List.map_map]
    congr 2
    refine List.map_congr_left fun p _ => ?_
    cases p <;> rfl
  unfold Shaped
  rw [e]
  exact h
theorem turn_turn {F' G' : Int → Int} (hF : ∀ n, F' (F n) = n) (hG : ∀ n, G' (G n) = n) : (r.turn F G).turn F' G' = r := by
  obtain ⟨nm, ps⟩ := r
  show Row.mk nm ((ps.map (turnP F G)).map (turnP F' G')) = _
  rw [List.map_map]
  congr 1
  refine (List.map_congr_left fun p _ => ?_).trans (List.map_id _)
  cases p with
  | d n => exact congrArg Part.d (hF n)
  | s n => exact congrArg Part.s (hF n)
  | g n => exact congrArg Part.g (hG n)
  | x p => rfl
  | m l =>
    show Part.m ((l.map F).map F') = Part.m l
    rw [List.map_map]
    congr 1
    exact (List.map_congr_left fun n _ => hF n).trans (List.map_id _)
end
def rowQ : Str := "_law_row_right.<locals>.<lambda>"
theorem lam_reg_add {L1 : Led} {f a : Addr} {ctv pm : Value} {n : Int} {p0 p1 p2 p3 : Pos} {L2 : Led} (hf : (f, kla_obj "<lambda>" rowQ { posonlyargs := [], args := [{ arg := "register", annotation := none, pos := p0 }], vararg := none, kwonlyargs := [], kw_defaults := [], kwarg := none, defaults := [] } (.BinOp (.Name "register" p1) .Add (.Constant (.int n) 0 p2) p3) { kind := .function, names := [("register", .local)], isGenerator := false, isCoroutine := false } [] pm a ctv) ∈ L1)
    (hL : LamC rowQ a L2) {L : Led} (h1 : ∀ p ∈ L1, p ∈ L) (h2 : ∀ p ∈ L2, p ∈ L) : Callee L f (· + n) := by
  with_reducible refine hide_goal fun _ toG => ?_
  obtain ⟨o, vs, t3, ho, hd, hv⟩ := hL
  refine toG ?_
  refine ⟨⟨_, h1 _ hf, _, rfl⟩, fun c m ν' P R k u hr hs h => ?_⟩
  refine ev_callLam (n := 0) (binds := [("register", .int k u)]) (hs _ (h1 _ hf)) (hs _ (h2 _ ho)) hd hv hr rfl (locs rfl) rfl (by decide) fun c₂ hr₂ _ => ?_
  dsimp only [bnd]
  refine ev_BinOp ?_
  refine ev_local (h := ?_)
  refine ev_int (h := fun _ => ?_)
  refine ev_add (h := fun _ => ?_)
  exact h _
theorem lam_reg_sub {L1 : Led} {f a : Addr} {ctv pm : Value} {n : Int} {p0 p1 p2 p3 : Pos} {L2 : Led} (hf : (f, kla_obj "<lambda>" rowQ { posonlyargs := [], args := [{ arg := "register", annotation := none, pos := p0 }], vararg := none, kwonlyargs := [], kw_defaults := [], kwarg := none, defaults := [] } (.BinOp (.Name "register" p1) .Sub (.Constant (.int n) 0 p2) p3) { kind := .function, names := [("register", .local)], isGenerator := false, isCoroutine := false } [] pm a ctv) ∈ L1)
    (hL : LamC rowQ a L2) {L : Led} (h1 : ∀ p ∈ L1, p ∈ L) (h2 : ∀ p ∈ L2, p ∈ L) : Callee L f (· - n) := by
  with_reducible refine hide_goal fun _ toG => ?_
  obtain ⟨o, vs, t3, ho, hd, hv⟩ := hL
  refine toG ?_
  refine ⟨⟨_, h1 _ hf, _, rfl⟩, fun c m ν' P R k u hr hs h => ?_⟩
  refine ev_callLam (n := 0) (binds := [("register", .int k u)]) (hs _ (h1 _ hf)) (hs _ (h2 _ ho)) hd hv hr rfl (locs rfl) rfl (by decide) fun c₂ hr₂ _ => ?_
  dsimp only [bnd]
  refine ev_BinOp ?_
  refine ev_local (h := ?_)
  refine ev_int (h := fun _ => ?_)
  refine ev_sub' (h := fun _ => ?_)
  exact h _
theorem lam_goal_add {L1 : Led} {f a : Addr} {ctv pm : Value} {n : Int} {p0 p1 p2 p3 : Pos} {L2 : Led} (hf : (f, kla_obj "<lambda>" rowQ { posonlyargs := [], args := [{ arg := "goal", annotation := none, pos := p0 }], vararg := none, kwonlyargs := [], kw_defaults := [], kwarg := none, defaults := [] } (.BinOp (.Name "goal" p1) .Add (.Constant (.int n) 0 p2) p3) { kind := .function, names := [("goal", .local)], isGenerator := false, isCoroutine := false } [] pm a ctv) ∈ L1)
    (hL : LamC rowQ a L2) {L : Led} (h1 : ∀ p ∈ L1, p ∈ L) (h2 : ∀ p ∈ L2, p ∈ L) : Callee L f (· + n) := by
  with_reducible refine hide_goal fun _ toG => ?_
  obtain ⟨o, vs, t3, ho, hd, hv⟩ := hL
  refine toG ?_
  refine ⟨⟨_, h1 _ hf, _, rfl⟩, fun c m ν' P R k u hr hs h => ?_⟩
  refine ev_callLam (n := 0) (binds := [("goal", .int k u)]) (hs _ (h1 _ hf)) (hs _ (h2 _ ho)) hd hv hr rfl (locs rfl) rfl (by decide) fun c₂ hr₂ _ => ?_
  dsimp only [bnd]
  refine ev_BinOp ?_
  refine ev_local (h := ?_)
  refine ev_int (h := fun _ => ?_)
  refine ev_add (h := fun _ => ?_)
  exact h _
theorem lam_goal_sub {L1 : Led} {f a : Addr} {ctv pm : Value} {n : Int} {p0 p1 p2 p3 : Pos} {L2 : Led} (hf : (f, kla_obj "<lambda>" rowQ { posonlyargs := [], args := [{ arg := "goal", annotation := none, pos := p0 }], vararg := none, kwonlyargs := [], kw_defaults := [], kwarg := none, defaults := [] } (.BinOp (.Name "goal" p1) .Sub (.Constant (.int n) 0 p2) p3) { kind := .function, names := [("goal", .local)], isGenerator := false, isCoroutine := false } [] pm a ctv) ∈ L1)
    (hL : LamC rowQ a L2) {L : Led} (h1 : ∀ p ∈ L1, p ∈ L) (h2 : ∀ p ∈ L2, p ∈ L) : Callee L f (· - n) := by
  with_reducible refine hide_goal fun _ toG => ?_
  obtain ⟨o, vs, t3, ho, hd, hv⟩ := hL
  refine toG ?_
  refine ⟨⟨_, h1 _ hf, _, rfl⟩, fun c m ν' P R k u hr hs h => ?_⟩
  refine ev_callLam (n := 0) (binds := [("goal", .int k u)]) (hs _ (h1 _ hf)) (hs _ (h2 _ ho)) hd hv hr rfl (locs rfl) rfl (by decide) fun c₂ hr₂ _ => ?_
  dsimp only [bnd]
  refine ev_BinOp ?_
  refine ev_local (h := ?_)
  refine ev_int (h := fun _ => ?_)
  refine ev_sub' (h := fun _ => ?_)
  exact h _
theorem lays_all {α : Type} {f : α → PyData} (l : List α) (h : ∀ a ∈ l, (f a).canLay0 = true) : PyData.canLayAll0 (l.map f) = true := by
  induction l with
  | nil => rfl
  | cons a l ih => simp [PyData.canLayAll0, h a (.head _), ih fun b hb => h b (.tail _ hb)]
theorem deps_all {α : Type} {f : α → PyData} {d : Nat} (h : ∀ a, (f a).depth ≤ d) (l : List α) : PyData.depthAll (l.map f) ≤ d := by
  induction l with
  | nil => exact Nat.zero_le _
  | cons a l ih => simp only [List.map_cons, PyData.depthAll]; exact Nat.max_le.mpr ⟨h a, ih⟩
theorem row_deps (r : Row) : r.data.depth ≤ 3 := by
  have at' : ∀ a : At, a.data.depth ≤ 1 := fun a => by cases a <;> exact Nat.zero_le _
  have pay : ∀ p : Part, p.pay.data.depth ≤ 2 := fun p => by
    cases p.pay with
    | one a => exact Nat.le_trans (at' a) (by decide)
    | tup l => have q := deps_all at' l; simp only [Pay.data, PyData.depth]; omega
  have q := deps_all (f := fun p : Part => p.pay.data) pay r.parts
  simp only [Row.data, PyData.depth, PyData.depthAll]
  omega
def optD : Option Int → PyData
  | none => .none
  | some n => .int n
/-- sets, reads, goals, as data -/
def datOf (s : Option Int) (u g : List Int) : PyData := .tuple [optD s, .list (u.map .int), .list (g.map .int)]
theorem dat_shaped (s : Option Int) (u g : List Int) : SeqAt.shaped (datOf s u g) = true ∧ PyData.eqv (datOf s u g) (datOf s u g) = true := by
  have k1 : PyData.canLayAll0 (u.map .int) = true := lays_all u fun _ _ => rfl
  have k2 : PyData.canLayAll0 (g.map .int) = true := lays_all g fun _ _ => rfl
  have q1 : PyData.depthAll (u.map .int) ≤ 0 := deps_all (f := fun n : Int => PyData.int n) (fun _ => Nat.le_refl _) u
  have q2 : PyData.depthAll (g.map .int) ≤ 0 := deps_all (f := fun n : Int => PyData.int n) (fun _ => Nat.le_refl _) g
  have k : (datOf s u g).canLay0 = true := by
    cases s <;> simp [datOf, optD, PyData.canLay0, PyData.canLayAll0, k1, k2]
  refine ⟨?_, SeqAt.eqv_refl _ k⟩
  unfold SeqAt.shaped
  rw [k]
  cases s <;> (simp only [datOf, optD, PyData.depth, PyData.depthAll, Bool.true_and]; exact decide_eq_true (by omega))
theorem row_shaped {r : Row} (h : r.data.canLay0 = true) : SeqAt.shaped r.data = true ∧ PyData.eqv r.data r.data = true := by
  have q := row_deps r
  refine ⟨?_, SeqAt.eqv_refl _ h⟩
  unfold SeqAt.shaped
  rw [h]
  simp only [Bool.true_and]
  exact decide_eq_true (by omega)
theorem via_opt {h₀ : Heap} {ν : Led} (o : Option Int) (v : Value) (h : OptV o v) : ReadsVia h₀ ν v (optD o) := by
  cases o with
  | none => cases h; exact .none
  | some n => obtain ⟨t, rfl⟩ := h; exact .int n t
theorem via_ints {h₀ : Heap} {ν : Led} {l : List Int} {vs : List Value} (h : AllV IntV l vs) : ReadsViaAll h₀ ν vs (l.map .int) := via_all (fun n v x => by obtain ⟨t, rfl⟩ := x; exact .int n t) h
theorem via_dat {h₀ : Heap} {ν : Led} {T S1 S2 : Addr} {o o1 o2 : Obj} {s : Option Int} {u g : List Int} {sv : Value} {us gs : List Value} (hT : (T, o) ∈ ν) (ho : TupO o [sv, .ref S1, .ref S2]) (h1 : (S1, o1) ∈ ν) (h2 : (S2, o2) ∈ ν) (ho1 : LstO o1 us) (ho2 : LstO o2 gs) (hs : OptV s sv) (hu : AllV IntV u us) (hg : AllV IntV g gs) : ReadsVia h₀ ν (.ref T) (datOf s u g) :=
  via_tup hT ho (.cons (via_opt s sv hs) (.cons (via_lst h1 ho1 (via_ints hu)) (.cons (via_lst h2 ho2 (via_ints hg)) .nil)))

theorem m_len {r : Row} {l : List Int} (h : Part.m l ∈ r.parts) : l.length ≤ r.uses.length := by
  obtain ⟨nm, ps⟩ := r
  show l.length ≤ (ps.flatMap usesP).length
  replace h : Part.m l ∈ ps := h
  induction ps with
  | nil => cases h
  | cons p ps ih =>
    rw [List.flatMap_cons, List.length_append]
    rcases List.mem_cons.mp h with e | h
    · rw [← e]
      exact Nat.le_add_right _ _
    · exact Nat.le_trans (ih h) (Nat.le_add_left _ _)
theorem ev_consP {c : Cx} {m : Loc} {ν : Led} {R : RX} {env : Env} {PF : Flow → Loc → Led → Prop} {st : Stmt} {rest : List Stmt} (x : Str) (Q : Value → Prop) (h : EV c m ν (exec st env) (fun f m' ν' => f = .next ∧ (∀ p ∈ ν, p ∈ ν') ∧ ∃ w, Q w ∧ m' = upd m x w) R) (h' : ∀ w, Q w → EV c (upd m x w) ν (execs rest env) PF R) : EV c m ν (execs (st :: rest) env) PF R :=
  ev_cons (ev_imp h fun f m₁ ν₁ g => by
    with_reducible refine hide_goal fun _ toG => ?_
    obtain ⟨rfl, hs, w, hw, rfl⟩ := g
    refine toG ?_
    exact then_next (ev_sub (h' w hw) hs))
theorem c_row_right {c : Cx} {m : Loc} {ν ν₁ core : Led} {P : Value → Loc → Led → Prop} {R : RX} {r : Row} {v : Value} {ps : Array Value} (hr : Room c 12) (C : CodeHd c.base 240 238) (hν : ∀ p ∈ (238, tabObj ps) :: ν₁, p ∈ ν) (hne : ∀ p ∈ ν₁, p.1 ≠ 238) (hcore : ∀ p ∈ core, p ∈ ν₁) (hT : TabOk rowQ ps core) (hv : RowV ν₁ r v) (hf : Fine r) (hlay : r.data.canLay0 = true)
    (h : ∀ ps' δ, TabOk rowQ ps' (δ ++ core) → (∀ p ∈ δ, Above p.1 ((238, tabObj ps) :: ν₁)) → P (.bool true) m ((238, tabObj ps') :: (δ ++ ν₁))) : EV c m ν (call (.ref 241) [v]) P R := by
  refine ev_sub ?_ hν
  refine ev_post ?_
  have hv0 := hv
  with_reducible refine hide_goal fun _ toG => ?_
  obtain ⟨b, o, tn, vs, rfl, hm, ho, ha⟩ := hv
  refine toG ?_
  refine' ev_call (n := 11) (Rb := NoX) (binds := [("row", .ref b)]) ?ho ?hcd hr ?hb ?hl ?hk ?hc ?h (fun _ _ x => x.elim)
  case ho => k_is
  case hcd => k_is
  case hb => exact fun s => BindsTo.of_eq rfl
  case hl => exact locs rfl
  case hk => exact rfl
  case hc => decide
  case h =>
    intro c' hr' hcw
    have C' : CodeHd c'.base 240 238 := hcw.1 ▸ C
    dsimp only [bnd]
    refine ev_cons ?_
    refine ev_Assign (h := ?_)
    refine ev_Call (h := ?_)
    refine ev_glob (h := ?_)
    refine ev_cwF_0 (h := ?_)
    refine ev_spl (h := ?_)
    refine ev_local (h := ?_)
    refine ev_spl0 ?_
    have hvt : RowV ((238, tabObj ps) :: ν₁) r (.ref b) := hv0.mono (KeepT.of fun p hp => .tail _ hp)
    refine c_law_parts (by walk_at "zroom") hvt hf.shaped hf.many fun T S1 S2 sv o1 o2 us gs hsv ho1 ho2 hus hgs a1 a2 a3 => ?_
    refine ev_store (h := ?_)
    refine then_next ?_
    refine ev_cons ?_
    refine ev_If ?_
    refine ev_isCompare (h := ?_)
    refine ev_local (h := ?_)
    refine ev_none ?_
    refine ev_isNone ?_
    refine ev_truthyB ?_
    refine ite_isF (b := (Value.ref T == Value.none)) rfl ?_
    refine ev_nil ?_
    refine then_next ?_
    refine ev_cons ?_
    refine ev_If ?_
    refine ev_isCompare (h := ?_)
    refine ev_Tuple ?_
    refine ev_spl (h := ?_)
    refine ev_Call (h := ?_)
    refine ev_glob (h := ?_)
    refine ev_cwF_0 (h := ?_)
    refine ev_spl (h := ?_)
    refine ev_local (h := ?_)
    refine ev_spl0 ?_
    have hvt2 : RowV ((T, tupO [sv, .ref S1, .ref S2]) :: (S2, o2) :: (S1, o1) :: (238, tabObj ps) :: ν₁) r (.ref b) := hv0.mono (KeepT.of (by walk_at "zbase"))
    refine c_sets_of (by walk_at "zroom") hvt2 hf.shaped fun sv2 hsv2 => ?_
    refine ev_spl (h := ?_)
    refine ev_Call (h := ?_)
    refine ev_glob (h := ?_)
    refine ev_cwF_0 (h := ?_)
    refine ev_spl (h := ?_)
    refine ev_local (h := ?_)
    refine ev_spl0 ?_
    refine c_uses_of (by walk_at "zroom") hvt2 hf.shaped (Nat.le_trans hf.many (by decide)) fun D1 od1 us1 hD1 hod1 hus1 => ?_
    refine ev_spl (h := ?_)
    refine ev_Call (h := ?_)
    refine ev_glob (h := ?_)
    refine ev_cwF_0 (h := ?_)
    refine ev_spl (h := ?_)
    refine ev_local (h := ?_)
    refine ev_spl0 ?_
    refine c_goals_of (by walk_at "zroom") (hvt2.mono (KeepT.of fun p hp => .tail _ hp)) hf.shaped fun D2 od2 gs2 hD2 hod2 hgs2 => ?_
    refine ev_spl0 ?_
    refine ev_newTuple (h := fun _ _ => ?_)
    refine ev_local (h := ?_)
    rename_i T2 hT2
    refine ev_neD (via_dat (.head _) tupO_mk (by walk_at "zmem") (by walk_at "zmem") hod1 hod2 hsv2 hus1 hgs2) (via_dat (T := T) (by walk_at "zmem") tupO_mk (by walk_at "zmem") (by walk_at "zmem") ho1 ho2 hsv hus hgs) (dat_shaped _ _ _).1 (dat_shaped _ _ _).1 (by walk_at "zroom") ?_
    rw [(dat_shaped _ _ _).2]
    refine ev_truthyB ?_
    refine ite_isF rfl ?_
    refine ev_nil ?_
    refine then_next ?_
    refine ev_cons ?_
    refine ev_Assign (h := ?_)
    refine ev_Call (h := ?_)
    refine ev_glob (h := ?_)
    refine ev_cwF_0 (h := ?_)
    refine ev_spl (h := ?_)
    refine ev_local (h := ?_)
    refine ev_spl (h := ?_)
    refine ev_sub (ν' := (238, tabObj ps) :: ((T, tupO [sv, .ref S1, .ref S2]) :: (S2, o2) :: (S1, o1) :: ν₁)) ?_ (by walk_at "zsub")
    clear hD1 hod1 hus1 hD2 hod2 hgs2 hT2 hsv2
    have nrest : ∀ p ∈ (T, tupO [sv, .ref S1, .ref S2]) :: (S2, o2) :: (S1, o1) :: ν₁, p.1 ≠ 238 := ne_cons (gtN (a1 _ (.head _))) (ne_cons (gtN (a3 _ (.head _))) (ne_cons (gtN (a2 _ (.head _))) hne))
    refine ev_lam (core := core) (q := rowQ) C' (by with_unfolding_all rfl) rfl rfl nrest hT (by walk_at "zbase") rfl (by with_unfolding_all rfl) fun f1 b1 ctv1 pm1 ps1 δ1 hT1 hδ1 hL1 hf1 => ?_
    refine ev_spl (h := ?_)
    have nrest1 : ∀ p ∈ δ1 ++ ((T, tupO [sv, .ref S1, .ref S2]) :: (S2, o2) :: (S1, o1) :: ν₁), p.1 ≠ 238 := ne_app (fun p hp => gtN (hδ1 p hp _ (.head _))) nrest
    refine ev_lam (core := δ1 ++ core) (q := rowQ) C' (by with_unfolding_all rfl) rfl rfl nrest1 hT1 (by walk_at "zsub") rfl (by with_unfolding_all rfl) fun f2 b2 ctv2 pm2 ps2 δ2 hT2 hδ2 hL2 hf2 => ?_
    refine ev_spl0 ?_
    have nrest2 : ∀ p ∈ δ2 ++ (δ1 ++ ((T, tupO [sv, .ref S1, .ref S2]) :: (S2, o2) :: (S1, o1) :: ν₁)), p.1 ≠ 238 := ne_app (fun p hp => gtN (hδ2 p hp _ (.head _))) nrest1
    have cal1 := lam_reg_add hf1 hL1 (L := (238, tabObj ps2) :: (δ2 ++ (δ1 ++ ((T, tupO [sv, .ref S1, .ref S2]) :: (S2, o2) :: (S1, o1) :: ν₁)))) (by walk_at "zsub") (by walk_at "zsub")
    have cal2 := lam_goal_add hf2 hL2 (L := (238, tabObj ps2) :: (δ2 ++ (δ1 ++ ((T, tupO [sv, .ref S1, .ref S2]) :: (S2, o2) :: (S1, o1) :: ν₁)))) (by walk_at "zsub") (by walk_at "zsub")
    refine c_turned_row (by walk_at "zroom") (hv0.mono (KeepT.of (by walk_at "zbase"))) hf.shaped (fun l hl => Nat.le_trans (m_len hl) (Nat.le_trans hf.many (by decide))) cal1 cal2 fun vr δ3 hδ3 hvr => ?_
    clear cal1 cal2
    refine ev_store (h := ?_)
    refine then_next ?_
    refine ev_consP "sets" (OptV (r.sets.map (· + 100))) ?_ fun sw hsw => ?_
    · refine ev_Assign (h := ?_)
      refine ev_IfExp ?_
      refine ev_isCompare (h := ?_)
      refine ev_Sub ?_
      refine ev_local (h := ?_)
      refine ev_int (h := fun _ => ?_)
      refine ev_itemTN (h := ?_)
      refine ev_none ?_
      refine ev_isNone ?_
      refine ev_truthyB ?_
      cases hrs : r.sets with
      | none =>
        rw [hrs] at hsv
        obtain rfl : sv = .none := hsv
        refine ite_isT vn_none ?_
        refine ev_none ?_
        refine ev_store (h := ?_)
        exact ⟨rfl, fun p hp => hp, _, rfl, rfl⟩
      | some y =>
        rw [hrs] at hsv
        obtain ⟨ty, rfl⟩ := hsv
        refine ite_isF vn_int ?_
        refine ev_BinOp ?_
        refine ev_Sub ?_
        refine ev_local (h := ?_)
        refine ev_int (h := fun _ => ?_)
        refine ev_itemTN (h := ?_)
        refine ev_int (h := fun _ => ?_)
        refine ev_add (h := fun _ => ?_)
        refine ev_store (h := ?_)
        exact ⟨rfl, fun p hp => hp, _, ⟨_, rfl⟩, rfl⟩
    refine ev_cons ?_
    refine ev_If ?_
    refine ev_isCompare (h := ?_)
    refine ev_Call (h := ?_)
    refine ev_glob (h := ?_)
    refine ev_cwF_0 (h := ?_)
    refine ev_spl (h := ?_)
    refine ev_local (h := ?_)
    refine ev_spl0 ?_
    refine c_law_parts (by walk_at "zroom") hvr (turn_shaped hf.shaped) (by rw [turn_uses, List.length_map]; exact hf.many) fun T3 S3 S4 sv3 o3 o4 us3 gs3 hsv3 ho3 ho4 hus3 hgs3 a4 a5 a6 => ?_
    rw [turn_sets] at hsv3
    rw [turn_uses] at hus3
    rw [turn_goals] at hgs3
    refine ev_Tuple ?_
    refine ev_spl (h := ?_)
    refine ev_local (h := ?_)
    refine ev_spl (h := ?_)
    refine' ev_ListComp (cl := []) (Rb := NoX) ?_ outCompNoX ?h1 ?h2 ?h3 ?h4 ?h5
    case h1 => with_unfolding_all rfl
    case h2 => decide
    case h3 => rfl
    case h4 => decide
    case h5 => exact fun _ => rfl
    refine ev_Sub ?_
    refine ev_local (h := ?_)
    refine ev_int (h := fun _ => ?_)
    refine ev_itemTN (h := ?_)
    refine ev_iterL (by walk_at "zmem") ho1 fun it7 oj7 hit7 hoj7 => ?_
    refine ev_compK (yldL ho1) (Nat.le_trans (show us.length ≤ 100 by rw [hus.length]; exact hf.many) (show 100 ≤ sizeLine by decide)) (fun k acc ν₂ => ν₂ = (T3, tupO [sv3, .ref S3, .ref S4]) :: (S4, o4) :: (S3, o3) :: (δ3 ++ (238, tabObj ps2) :: (δ2 ++ (δ1 ++ (T, tupO [sv, .ref S1, .ref S2]) :: (S2, o2) :: (S1, o1) :: ν₁))) ∧ AllV IntV ((r.uses.take k).map (· + 100)) acc) (ν₀ := (T3, tupO [sv3, .ref S3, .ref S4]) :: (S4, o4) :: (S3, o3) :: (δ3 ++ (238, tabObj ps2) :: (δ2 ++ (δ1 ++ (T, tupO [sv, .ref S1, .ref S2]) :: (S2, o2) :: (S1, o1) :: ν₁)))) ⟨oj7, rfl, hoj7⟩ (fun p hp => ltN' (hit7 p hp)) (by walk_at "zmem") ⟨rfl, .nil⟩ (by walk_at "zsub") (fun a ha => ⟨_, .head _, ha.symm⟩) (fun k b hb p hp => by obtain ⟨oi', rfl, _⟩ := hb; cases hp with | head => rfl | tail _ h => cases h) (fun L q h => .tail _ h) ?_ ?_
    · intro k acc ν₂ v δ0 b3 Ca oC mC D2 oD2 hk hal zp1 hne2 hsr2 zp2 hδ0 hB2 hNs hoD2 hab2 hDC hbCD hneC K1 N1 hK1 hN1
      with_reducible refine hide_goal fun _ toG => ?_
      obtain ⟨rfl, hl⟩ := zp1
      obtain ⟨hv, rfl⟩ := zp2
      obtain ⟨oj2, rfl, hoj2⟩ := hB2
      obtain ⟨y, hz, ty, rfl⟩ := hus.at hv
      refine toG ?_
      refine ev_assignName ?_
      refine ev_storeC (hν := fun _ h => h) (h := fun _ _ => ?_)
      refine ev_tests0 ?_
      refine ite_T ?_
      refine ev_BinOp ?_
      refine ev_localC (h := ?_)
      refine ev_int (h := fun _ => ?_)
      refine ev_add (h := fun _ => ?_)
      rename_i oC2 hNo _ _
      refine hK1 (ν'' := (T3, tupO [sv3, .ref S3, .ref S4]) :: (S4, o4) :: (S3, o3) :: (δ3 ++ (238, tabObj ps2) :: (δ2 ++ (δ1 ++ (T, tupO [sv, .ref S1, .ref S2]) :: (S2, o2) :: (S1, o1) :: ν₁)))) (by walk_at "zsub") hNo hne2 hsr2 ⟨rfl, ?_⟩
      rw [List.take_add_one, hz, List.map_append]
      exact hl.snoc ⟨_, rfl⟩
    rintro D7 oD7 acc7 ν₂ hal ⟨rfl, hl7⟩ hoD7 hab7 hne7 hsr7
    rw [hus.length, List.take_length] at hl7
    refine ev_spl (h := ?_)
    refine' ev_ListComp (cl := []) (Rb := NoX) ?_ outCompNoX ?h1 ?h2 ?h3 ?h4 ?h5
    case h1 => with_unfolding_all rfl
    case h2 => decide
    case h3 => rfl
    case h4 => decide
    case h5 => exact fun _ => rfl
    refine ev_Sub ?_
    refine ev_local (h := ?_)
    refine ev_int (h := fun _ => ?_)
    refine ev_itemTN (h := ?_)
    refine ev_iterL (by walk_at "zmem") ho2 fun it8 oj8 hit8 hoj8 => ?_
    refine ev_compK (yldL ho2) (Nat.le_trans (show gs.length ≤ 100 by rw [hgs.length]; exact Nat.le_trans (goals_len hf.shaped) (by decide)) (show 100 ≤ sizeLine by decide)) (fun k acc ν₂ => ν₂ = (D7, oD7) :: (T3, tupO [sv3, .ref S3, .ref S4]) :: (S4, o4) :: (S3, o3) :: (δ3 ++ (238, tabObj ps2) :: (δ2 ++ (δ1 ++ (T, tupO [sv, .ref S1, .ref S2]) :: (S2, o2) :: (S1, o1) :: ν₁))) ∧ AllV IntV ((r.goals.take k).map (· + 1000)) acc) (ν₀ := (D7, oD7) :: (T3, tupO [sv3, .ref S3, .ref S4]) :: (S4, o4) :: (S3, o3) :: (δ3 ++ (238, tabObj ps2) :: (δ2 ++ (δ1 ++ (T, tupO [sv, .ref S1, .ref S2]) :: (S2, o2) :: (S1, o1) :: ν₁)))) ⟨oj8, rfl, hoj8⟩ (fun p hp => ltN' (hit8 p hp)) (by walk_at "zmem") ⟨rfl, .nil⟩ (by walk_at "zsub") (fun a ha => ⟨_, .head _, ha.symm⟩) (fun k b hb p hp => by obtain ⟨oi', rfl, _⟩ := hb; cases hp with | head => rfl | tail _ h => cases h) (fun L q h => .tail _ h) ?_ ?_
    · intro k acc ν₂ v δ0 b3 Ca oC mC D2 oD2 hk hal zp3 hne2 hsr2 zp4 hδ0 hB2 hNs hoD2 hab2 hDC hbCD hneC K2 N2 hK2 hN2
      with_reducible refine hide_goal fun _ toG => ?_
      obtain ⟨rfl, hl⟩ := zp3
      obtain ⟨hv, rfl⟩ := zp4
      obtain ⟨oj2, rfl, hoj2⟩ := hB2
      obtain ⟨y, hz, ty, rfl⟩ := hgs.at hv
      refine toG ?_
      refine ev_assignName ?_
      refine ev_storeC (hν := fun _ h => h) (h := fun _ _ => ?_)
      refine ev_tests0 ?_
      refine ite_T ?_
      refine ev_BinOp ?_
      refine ev_localC (h := ?_)
      refine ev_int (h := fun _ => ?_)
      refine ev_add (h := fun _ => ?_)
      rename_i oC2 hNo _ _
      refine hK2 (ν'' := (D7, oD7) :: (T3, tupO [sv3, .ref S3, .ref S4]) :: (S4, o4) :: (S3, o3) :: (δ3 ++ (238, tabObj ps2) :: (δ2 ++ (δ1 ++ (T, tupO [sv, .ref S1, .ref S2]) :: (S2, o2) :: (S1, o1) :: ν₁)))) (by walk_at "zsub") hNo hne2 hsr2 ⟨rfl, ?_⟩
      rw [List.take_add_one, hz, List.map_append]
      exact hl.snoc ⟨_, rfl⟩
    rintro D8 oD8 acc8 ν₂ hal ⟨rfl, hl8⟩ hoD8 hab8 hne8 hsr8
    rw [hgs.length, List.take_length] at hl8
    refine ev_spl0 ?_
    refine ev_newTuple (h := fun _ _ => ?_)
    rename_i T9 hT9
    refine ev_neD (via_dat (T := T3) (by walk_at "zmem") tupO_mk (by walk_at "zmem") (by walk_at "zmem") ho3 ho4 hsv3 hus3 hgs3) (via_dat (.head _) tupO_mk (by walk_at "zmem") (by walk_at "zmem") hoD7 hoD8 hsw hl7 hl8) (dat_shaped _ _ _).1 (dat_shaped _ _ _).1 (by walk_at "zroom") ?_
    rw [(dat_shaped _ _ _).2]
    refine ev_truthyB ?_
    refine ite_isF rfl ?_
    refine ev_nil ?_
    refine then_next ?_
    refine ev_cons ?_
    refine ev_Return ?_
    refine ev_Compare (h := ?_)
    refine ev_Call (h := ?_)
    refine ev_glob (h := ?_)
    refine ev_cwF_0 (h := ?_)
    refine ev_spl (h := ?_)
    refine ev_local (h := ?_)
    refine ev_spl (h := ?_)
    refine ev_sub (ν' := (238, tabObj ps2) :: (δ3 ++ (δ2 ++ (δ1 ++ ((T, tupO [sv, .ref S1, .ref S2]) :: (S2, o2) :: (S1, o1) :: ν₁))))) ?_ (by walk_at "zsub")
    clear hT9 hoD7 hoD8 hl7 hl8 hsw hsv3 hus3 hgs3 ho3 ho4 a4 a5 a6
    have nrest3 : ∀ p ∈ δ3 ++ (δ2 ++ (δ1 ++ ((T, tupO [sv, .ref S1, .ref S2]) :: (S2, o2) :: (S1, o1) :: ν₁))), p.1 ≠ 238 := ne_app (fun p hp => gtN (hδ3 p hp _ (.head _))) nrest2
    refine ev_lam (core := δ3 ++ (δ2 ++ (δ1 ++ core))) (q := rowQ) C' (by with_unfolding_all rfl) rfl rfl nrest3 (hT2.mono (by walk_at "zsub")) (by walk_at "zsub") rfl (by with_unfolding_all rfl) fun f3 b3 ctv3 pm3 ps3 δ4 hT3 hδ4 hL3 hf3 => ?_
    refine ev_spl (h := ?_)
    have nrest4 : ∀ p ∈ δ4 ++ (δ3 ++ (δ2 ++ (δ1 ++ ((T, tupO [sv, .ref S1, .ref S2]) :: (S2, o2) :: (S1, o1) :: ν₁)))), p.1 ≠ 238 := ne_app (fun p hp => gtN (hδ4 p hp _ (.head _))) nrest3
    refine ev_lam (core := δ4 ++ (δ3 ++ (δ2 ++ (δ1 ++ core)))) (q := rowQ) C' (by with_unfolding_all rfl) rfl rfl nrest4 hT3 (by walk_at "zsub") rfl (by with_unfolding_all rfl) fun f4 b4 ctv4 pm4 ps4 δ5 hT4 hδ5 hL4 hf4 => ?_
    refine ev_spl0 ?_
    have cal3 := lam_reg_sub hf3 hL3 (L := (238, tabObj ps4) :: (δ5 ++ (δ4 ++ (δ3 ++ (δ2 ++ (δ1 ++ ((T, tupO [sv, .ref S1, .ref S2]) :: (S2, o2) :: (S1, o1) :: ν₁))))))) (by walk_at "zsub") (by walk_at "zsub")
    have cal4 := lam_goal_sub hf4 hL4 (L := (238, tabObj ps4) :: (δ5 ++ (δ4 ++ (δ3 ++ (δ2 ++ (δ1 ++ ((T, tupO [sv, .ref S1, .ref S2]) :: (S2, o2) :: (S1, o1) :: ν₁))))))) (by walk_at "zsub") (by walk_at "zsub")
    refine c_turned_row (by walk_at "zroom") (hvr.mono ?_) (turn_shaped hf.shaped) (fun l hl => Nat.le_trans (m_len hl) (by rw [turn_uses, List.length_map]; exact Nat.le_trans hf.many (by decide))) cal3 cal4 fun vr2 δ6 hδ6 hvr2 => ?_
    · intro p hp hpt
      rcases List.mem_append.mp hp with hp | hp
      · exact .tail _ (List.mem_append_right _ (List.mem_append_right _ (List.mem_append_left _ hp)))
      rcases List.mem_cons.mp hp with rfl | hp
      · obtain ⟨_, _, e⟩ := hpt
        cases e
      · exact .tail _ (List.mem_append_right _ (List.mem_append_right _ (List.mem_append_right _ hp)))
    rw [turn_turn (fun n => by omega) (fun n => by omega)] at hvr2
    refine ev_local (h := ?_)
    refine ev_eqD (via_row r vr2 hvr2) (via_row r (.ref b) (hv0.mono (KeepT.of (by walk_at "zbase")))) (row_shaped hlay).1 (row_shaped hlay).1 (by walk_at "zroom") ?_
    rw [(row_shaped hlay).2]
    refine then_ret ?_
    refine ⟨(238, tabObj ps4) :: ((δ5 ++ (δ4 ++ (δ3 ++ (δ2 ++ δ1)))) ++ ν₁), by walk_at "zsub", h ps4 _ (hT4.mono (by walk_at "zsub")) fun p hp => ?_⟩
    rcases List.mem_append.mp hp with hp | hp
    · exact above_of (above_swap (hδ5 p hp)) (by walk_at "zsub")
    rcases List.mem_append.mp hp with hp | hp
    · exact above_of (above_swap (hδ4 p hp)) (by walk_at "zsub")
    rcases List.mem_append.mp hp with hp | hp
    · exact above_of (above_swap (hδ3 p hp)) (by walk_at "zsub")
    rcases List.mem_append.mp hp with hp | hp
    · exact above_of (above_swap (hδ2 p hp)) (by walk_at "zsub")
    · exact above_of (hδ1 p hp) (by walk_at "zsub")

/-- a part whose text is plain, and that can be laid -/
def PT (p : Part) : Prop := PartTxt p ∧ p.pay.data.canLay0 = true
section
variable {a : Int}
theorem pt_d (h : 0 ≤ a ∧ a ≤ 10) : PT (.d a) := ⟨show a.natAbs ≤ 1900 by omega, rfl⟩
theorem pt_s (h : 0 ≤ a ∧ a ≤ 10) : PT (.s a) := ⟨show a.natAbs ≤ 1900 by omega, rfl⟩
theorem pt_g (h : 0 ≤ a ∧ a ≤ 10) : PT (.g a) := ⟨show a.natAbs ≤ 1900 by omega, rfl⟩
theorem pt_i (h : 0 ≤ a ∧ a ≤ 10) : PT (.x (.one (.int a))) := ⟨show a.natAbs ≤ 1900 by omega, rfl⟩
theorem pt_x {x : Str} (h : 10 ∉ x.cps.toList) (h' : x.length ≤ 100) (h'' : PyData.strOk x = true) : PT (.x (.one (.str x))) := ⟨⟨h, h'⟩, by simpa [Part.pay, Pay.data, At.data, PyData.canLay0] using h''⟩
theorem lay_map {α : Type} {f : α → PyData} : ∀ (l : List α), (∀ a ∈ l, (f a).canLay0 = true) → PyData.canLayAll0 (l.map f) = true
  | [], _ => rfl
  | a :: l, h => by simp [PyData.canLayAll0, h a (.head _), lay_map l fun b hb => h b (.tail _ hb)]
theorem pt_m {l : List Int} (h : l.length ≤ 4) (h' : ∀ a ∈ l, 0 ≤ a ∧ a ≤ 10) : PT (.m l) := by
  refine ⟨⟨by rw [List.length_map]; exact h, fun q hq => ?_⟩, ?_⟩
  · with_reducible refine hide_goal fun _ toG => ?_
    obtain ⟨a, ha, rfl⟩ := List.mem_map.mp hq
    refine toG ?_
    have := h' a ha
    show a.natAbs ≤ 1900
    omega
  · show PyData.canLay0 (.tuple ((l.map At.int).map At.data)) = true
    rw [List.map_map]
    exact lay_map l fun _ _ => rfl
theorem pt_b {l : List Bool} (h : l.length ≤ 4) : PT (.x (.tup (l.map .bool))) := by
  refine ⟨⟨by rw [List.length_map]; exact h, fun q hq => ?_⟩, ?_⟩
  · with_reducible refine hide_goal fun _ toG => ?_
    obtain ⟨a, ha, rfl⟩ := List.mem_map.mp hq
    refine toG ?_
    trivial
  · show PyData.canLay0 (.tuple ((l.map At.bool).map At.data)) = true
    rw [List.map_map]
    exact lay_map l fun _ _ => rfl
theorem pt_t {x : Str} (h : x = "bool" ∨ x = "nothing" ∨ x = "k") : PT (.x (.tup [.str x])) := by
  refine ⟨⟨Nat.le_of_ble_eq_true rfl, allc' h alln'⟩, ?_⟩
  rcases h with rfl | rfl | rfl <;> decide +kernel
end
theorem law_txt {sl n a b d : Int} {st : Str} {cp : Int} {mk : List Bool} {kw : List Int} {lv g : Int} {r : Row} (p : LawPar sl n a b d st cp mk kw lv g) (hs : sl ≤ 10) (hn : n ≤ 10) (hm : r ∈ lawRows a b d st cp mk kw lv g) : r.parts.length ≤ 5 ∧ ∀ q ∈ r.parts, PT q := by
  have ha : 0 ≤ a ∧ a ≤ 10 := ⟨p.ha.1, Int.le_trans p.ha.2 hs⟩
  have hb : 0 ≤ b ∧ b ≤ 10 := ⟨p.hb.1, Int.le_trans p.hb.2 hs⟩
  have hd : 0 ≤ d ∧ d ≤ 10 := ⟨p.hd.1, Int.le_trans p.hd.2 hs⟩
  have hg : 0 ≤ g ∧ g ≤ 10 := ⟨p.hg.1, Int.le_trans p.hg.2 hn⟩
  have hst : PT (.x (.one (.str st))) := by rcases p.hst with rfl | rfl <;> exact pt_x (by decide +kernel) (by decide +kernel) (by decide +kernel)
  have hcp : 0 ≤ cp ∧ cp ≤ 10 := ⟨p.hcp.1, Int.le_trans (Int.le_of_lt p.hcp.2) (by decide)⟩
  have hlv : 0 ≤ lv ∧ lv ≤ 10 := by rcases p.hlv with rfl | rfl <;> decide
  have hmk : PT (.x (.tup (mk.map .bool))) := pt_b (by rcases p.hmk with rfl | rfl <;> decide)
  have hkw : PT (.m kw) := by
    rcases p.hkw with rfl | rfl
    · exact pt_m (Nat.le_of_ble_eq_true rfl) (allc' hd alln')
    · exact pt_m (Nat.le_of_ble_eq_true rfl) (allc' hd (allc' hd alln'))
  have hx : PT (.x (.one (.str "x"))) := pt_x (by decide +kernel) (by decide +kernel) (by decide +kernel)
  have hf : PT (.x (.one (.str "f"))) := pt_x (by decide +kernel) (by decide +kernel) (by decide +kernel)
  have hm' : PT (.x (.one (.str "m"))) := pt_x (by decide +kernel) (by decide +kernel) (by decide +kernel)
  have h1 : PT (.x (.one (.str "#1"))) := pt_x (by decide +kernel) (by decide +kernel) (by decide +kernel)
  have da := pt_d ha
  have sa := pt_s ha
  have sb := pt_s hb
  have gg := pt_g hg
  clear p
  refine allc' (Q := fun r : Row => r.parts.length ≤ 5 ∧ ∀ q ∈ r.parts, PT q) ⟨Nat.le_of_ble_eq_true rfl, allc' da (allc' (pt_t (.inr (.inl rfl))) alln')⟩ ?_ r hm
  refine allc' ⟨Nat.le_of_ble_eq_true rfl, allc' da (allc' sb alln')⟩ ?_
  refine allc' ⟨Nat.le_of_ble_eq_true rfl, allc' da (allc' hx alln')⟩ ?_
  refine allc' ⟨Nat.le_of_ble_eq_true rfl, allc' hx (allc' sa alln')⟩ ?_
  refine allc' ⟨Nat.le_of_ble_eq_true rfl, allc' da (allc' hst alln')⟩ ?_
  refine allc' ⟨Nat.le_of_ble_eq_true rfl, allc' da (allc' (pt_i hcp) alln')⟩ ?_
  refine allc' ⟨Nat.le_of_ble_eq_true rfl, allc' da (allc' sb (allc' (pt_m (Nat.le_of_ble_eq_true rfl) (allc' hd (allc' hb alln'))) alln'))⟩ ?_
  refine allc' ⟨Nat.le_of_ble_eq_true rfl, allc' da (allc' sb (allc' (pt_m (Nat.le_of_ble_eq_true rfl) (allc' hd (allc' hd alln'))) (allc' hmk alln')))⟩ ?_
  refine allc' ⟨Nat.le_of_ble_eq_true rfl, allc' da (allc' sb (allc' (pt_t (.inr (.inr rfl))) (allc' hkw (allc' (pt_m (Nat.le_of_ble_eq_true rfl) (allc' ha (allc' hb alln'))) alln'))))⟩ ?_
  refine allc' ⟨Nat.le_of_ble_eq_true rfl, allc' da (allc' h1 (allc' (pt_m (Nat.le_of_ble_eq_true rfl) (allc' hb alln')) alln'))⟩ ?_
  refine allc' ⟨Nat.le_of_ble_eq_true rfl, allc' da alln'⟩ ?_
  refine allc' ⟨Nat.le_of_ble_eq_true rfl, allc' da (allc' sb (allc' hx alln'))⟩ ?_
  refine allc' ⟨Nat.le_of_ble_eq_true rfl, allc' sa (allc' sb alln')⟩ ?_
  refine allc' ⟨Nat.le_of_ble_eq_true rfl, allc' da alln'⟩ ?_
  refine allc' ⟨Nat.le_of_ble_eq_true rfl, allc' gg alln'⟩ ?_
  refine allc' ⟨Nat.le_of_ble_eq_true rfl, allc' sa (allc' gg alln')⟩ ?_
  refine allc' ⟨Nat.le_of_ble_eq_true rfl, allc' sa alln'⟩ ?_
  refine allc' ⟨Nat.le_of_ble_eq_true rfl, allc' gg alln'⟩ ?_
  refine allc' ⟨Nat.le_of_ble_eq_true rfl, allc' (pt_i hlv) alln'⟩ ?_
  refine allc' ⟨Nat.le_of_ble_eq_true rfl, allc' da alln'⟩ ?_
  refine allc' ⟨Nat.le_of_ble_eq_true rfl, alln'⟩ ?_
  refine allc' ⟨Nat.le_of_ble_eq_true rfl, allc' sa (allc' hx alln')⟩ ?_
  refine allc' ⟨Nat.le_of_ble_eq_true rfl, allc' hf (allc' sa (allc' hm' alln'))⟩ ?_
  refine allc' ⟨Nat.le_of_ble_eq_true rfl, allc' da (allc' (pt_i ⟨by decide, by decide⟩) (allc' (pt_m (Nat.le_of_ble_eq_true rfl) (allc' hb (allc' hd alln'))) alln'))⟩ ?_
  exact allc' ⟨Nat.le_of_ble_eq_true rfl, allc' (pt_i ⟨by decide, by decide⟩) (allc' gg alln')⟩ alln'
theorem names_ok : ∀ x ∈ shapesL.map (·.1), 10 ∉ x.cps.toList ∧ x.length ≤ 100 ∧ PyData.strOk x = true := by decide +kernel
theorem row_lay {r : Row} (h : PyData.strOk r.name = true) (h' : ∀ q ∈ r.parts, PT q) : r.data.canLay0 = true := by
  show PyData.canLayAll0 (.str r.name :: r.parts.map fun p => p.pay.data) = true
  simp [PyData.canLayAll0, PyData.canLay0, h, lay_map r.parts fun q hq => (h' q hq).2]
theorem drawn_lay {sl n : Int} {r : Row} (h : Drawn sl n r) (hs : sl ≤ 10) (hn : n ≤ 10) : r.data.canLay0 = true := by
  cases h with
  | row p hm => exact row_lay (names_ok _ (look_mem (law_fine p hm).shaped)).2.2 (law_txt p hs hn hm).2
  | cut p hm hne => exact row_lay (names_ok _ (look_mem (law_fine p hm).shaped)).2.2 fun q hq => (law_txt p hs hn hm).2 q (List.dropLast_subset _ hq)
  | odd h0 h1 => exact row_lay (show PyData.strOk "wander" = true by decide +kernel) (allc' (pt_i ⟨h0, Int.le_trans h1 hs⟩) alln')
theorem drawn_txt {sl n : Int} {r : Row} (h : Drawn sl n r) (hs : sl ≤ 10) (hn : n ≤ 10) (hf : Fine r) : r.parts.length ≤ 5 ∧ (∀ p ∈ r.parts, PartTxt p) ∧ NoNL r.name ∧ r.name.length ≤ 100 := by
  have k := names_ok _ (look_mem hf.shaped)
  have nf : ¬ Odd r := fun q => q.not_fine hf
  cases h with
  | row p hm => exact ⟨(law_txt p hs hn hm).1, fun q hq => ((law_txt p hs hn hm).2 q hq).1, k.1, k.2.1⟩
  | cut p hm hne => exact (nf ((drawn_fine (.cut p hm hne)).resolve_left fun f => by
      have l1 := shaped_len f.shaped
      have l2 := shaped_len (law_fine p hm).shaped
      have l3 := List.length_pos_iff.mpr hne
      have e : (⟨_, _⟩ : Row).letters = _ := Option.some.inj (f.shaped.symm.trans (law_fine p hm).shaped)
      have e2 := congrArg Str.length e
      rw [Row.letters_len, Row.letters_len, List.length_dropLast] at e2
      omega)).elim
  | odd h0 h1 => exact absurd (look_mem hf.shaped) (show ¬ ("wander" : Str) ∈ shapesL.map (·.1) by decide +kernel)
/-- the row at the end -/
def retRow : Row := ⟨"return", [.s 0]⟩
theorem ret_drawn {sl n : Int} (hs : 0 ≤ sl) (hn : 0 ≤ n) : Drawn sl n retRow :=
  .row (a := 0) (b := 0) (d := 0) (st := "T.1") (cp := 0) (mk := [true]) (kw := [0]) (lv := 1) (g := 0) ⟨⟨Int.le_refl _, hs⟩, ⟨Int.le_refl _, hs⟩, ⟨Int.le_refl _, hs⟩, .inl rfl, by decide, .inr rfl, .inl rfl, .inl rfl, ⟨Int.le_refl _, hn⟩⟩ (by unfold lawRows retRow; simp)
theorem rows_ne {rs : List Row} (h : rs ≠ []) : PyData.eqv (.list (rs.map Row.data)) (.list []) = false := by
  cases rs with
  | nil => exact absurd rfl h
  | cons r rs => rfl

local macro_rules | `(tactic| walk_at "znew") => `(tactic| ((refine' mem_new ?hm ?ha ?hs); (case hm => walk_at "zmem"); (case ha => assumption); (case hs => walk_at "zsub")))
local macro_rules | `(tactic| walk_at "zats") => `(tactic| first | exact AllV.nil | ((refine' AllV.cons ?p ?_); (case p => first | exact av_i | exact av_s | exact av_b); walk_at "zats"))
local macro_rules | `(tactic| walk_at "zpart") => `(tactic| first | exact pv_d | exact pv_s | exact pv_g | exact pv_xi | exact pv_xs | ((first | refine' pv_m ?hm tupO_mk ?h | refine' pv_xt ?hm tupO_mk ?h); (case hm => walk_at "znew"); (case h => walk_at "zats")))
local macro_rules | `(tactic| walk_at "zparts") => `(tactic| first | exact AllV.nil | ((refine' AllV.cons ?p ?_); (case p => walk_at "zpart"); walk_at "zparts"))
local macro_rules | `(tactic| walk_at "zrow") => `(tactic| ((refine' row_mk ?hm tupO_mk ?h); (case hm => walk_at "znew"); (case h => walk_at "zparts")))
local macro_rules | `(tactic| walk_at "zrows") => `(tactic| first | exact AllV.nil | ((refine' AllV.cons ?p ?_); (case p => walk_at "zrow"); walk_at "zrows"))
local macro_rules | `(tactic| walk_at "zkeep") => `(tactic| first | exact sub_nil | ((refine' sub_cons ?x ?_); (case x => walk_at "znew"); walk_at "zkeep") | ((refine' sub_cons ?x ?_); (case x => exact mem_of_new (by walk_at "zmem") (by assumption)); walk_at "zkeep"))
theorem law_len {a b d : Int} {st : Str} {cp : Int} {mk : List Bool} {kw : List Int} {lv g : Int} {r : Row} (h : r ∈ lawRows a b d st cp mk kw lv g) : r.parts.length ≤ 5 := by
  unfold lawRows at h
  simp only [List.mem_cons, List.not_mem_nil, or_false] at h
  rcases h with rfl | rfl | rfl | rfl | rfl | rfl | rfl | rfl | rfl | rfl | rfl | rfl | rfl | rfl | rfl | rfl | rfl | rfl | rfl | rfl | rfl | rfl | rfl | rfl | rfl <;> exact Nat.le_of_ble_eq_true rfl
theorem AllV.eq_nil {α : Type} {S : α → Value → Prop} {as : List α} {vs : List Value} (h : AllV S as vs) (e : vs = []) : as = [] := by cases h with | nil => rfl | cons => cases e
theorem AllV.dropLast {α : Type} {S : α → Value → Prop} : ∀ {as : List α} {vs : List Value}, AllV S as vs → AllV S as.dropLast vs.dropLast
  | _, _, .nil => .nil
  | _, _, .cons x .nil => .nil
  | _, _, .cons x (.cons y r) => .cons x (AllV.dropLast (.cons y r))
theorem newOf_mono {B ν ν' : Led} (hs : ∀ p ∈ ν, p ∈ ν') : ∀ p ∈ newOf B ν, p ∈ newOf B ν' := fun p hp => mem_of_new (hs p (new_mem hp).1) (new_mem hp).2
theorem pick_st {r : Int} {t1 t2 : Tok} (h0 : 0 ≤ r) (h1 : r < 2) : ∃ st tk, [Value.str "T.1" t1, Value.str "T.2" t2][r.toNat]? = some (.str st tk) ∧ (st = "T.1" ∨ st = "T.2") := by
  obtain rfl | rfl : r = 0 ∨ r = 1 := by omega
  · exact ⟨_, _, rfl, .inl rfl⟩
  · exact ⟨_, _, rfl, .inr rfl⟩
theorem pick_mk {δ : Led} {r : Int} {T1 T2 T3 : Addr} (h0 : 0 ≤ r) (h1 : r < 3) (m1 : (T1, tupO [.bool true, .bool false]) ∈ δ) (m2 : (T2, tupO [.bool true, .bool false]) ∈ δ) (m3 : (T3, tupO [.bool true]) ∈ δ) : ∃ mks x, [Value.ref T1, .ref T2, .ref T3][r.toNat]? = some x ∧ (mks = [true, false] ∨ mks = [true]) ∧ PartV δ (.x (.tup (mks.map .bool))) x := by
  obtain rfl | rfl | rfl : r = 0 ∨ r = 1 ∨ r = 2 := by omega
  · exact ⟨_, _, rfl, .inl rfl, pv_xt m1 tupO_mk (.cons av_b (.cons av_b .nil))⟩
  · exact ⟨_, _, rfl, .inl rfl, pv_xt m2 tupO_mk (.cons av_b (.cons av_b .nil))⟩
  · exact ⟨_, _, rfl, .inr rfl, pv_xt m3 tupO_mk (.cons av_b .nil)⟩
theorem pick_kw {δ : Led} {r d : Int} {t : Tok} {T1 T2 T3 : Addr} (h0 : 0 ≤ r) (h1 : r < 3) (m1 : (T1, tupO [.int d t]) ∈ δ) (m2 : (T2, tupO [.int d t]) ∈ δ) (m3 : (T3, tupO [.int d t, .int d t]) ∈ δ) : ∃ kw x, [Value.ref T1, .ref T2, .ref T3][r.toNat]? = some x ∧ (kw = [d] ∨ kw = [d, d]) ∧ PartV δ (.m kw) x := by
  obtain rfl | rfl | rfl : r = 0 ∨ r = 1 ∨ r = 2 := by omega
  · exact ⟨_, _, rfl, .inl rfl, pv_m m1 tupO_mk (.cons av_i .nil)⟩
  · exact ⟨_, _, rfl, .inl rfl, pv_m m2 tupO_mk (.cons av_i .nil)⟩
  · exact ⟨_, _, rfl, .inr rfl, pv_m m3 tupO_mk (.cons av_i (.cons av_i .nil))⟩
/-- a value that is one of the law's rows -/
inductive RV (sl n : Int) (δ : Led) (v : Value) : Prop
  | mk {a b d : Int} {st : Str} {cp : Int} {mk : List Bool} {kw : List Int} {lv g : Int} {r : Row} : LawPar sl n a b d st cp mk kw lv g → r ∈ lawRows a b d st cp mk kw lv g → RowV δ r v → RV sl n δ v
theorem RV.up {sl n : Int} {δ δ' : Led} {v : Value} (h : RV sl n δ v) (hs : ∀ p ∈ δ, p ∈ δ') : RV sl n δ' v := by
  obtain ⟨x1, x2, x3⟩ := h
  exact .mk x1 x2 (x3.mono (KeepT.of hs))
/-- one row of the display: what is made for it goes out of sight -/
theorem ev_splRow {c : Cx} {m : Loc} {R : RX} {env : Env} {sl n : Int} {t : Addr} {o : Obj} {δ base : Led} {e : Expr} {rest : List Expr} {pos : Pos} {PL : List Value → Loc → Led → Prop} (hab : ∀ p ∈ δ, Above p.1 ((t, o) :: base))
    (h1 : ∀ K : Value → Loc → Led → Prop, (∀ {v : Value} {o' : Obj} {ν' : Led}, RV sl n (newOf ((t, o') :: base) ν') v → BowlO c.w o' → (t, o') ∈ ν' → (∀ p ∈ δ ++ base, p ∈ ν') → K v m ν') → EV c m ((t, o) :: (δ ++ base)) (eval e env) K R)
    (h2 : ∀ v o' δ', BowlO c.w o' → RV sl n δ' v → (∀ p ∈ δ, p ∈ δ') → (∀ p ∈ δ', Above p.1 ((t, o') :: base)) → ∀ K : List Value → Loc → Led → Prop, (∀ {us : List Value} {m' : Loc} {ν' : Led}, PL (v :: us) m' ν' → K us m' ν') → EV c m ((t, o') :: (δ' ++ base)) (spliced (backTo pos (starEach rest env))) K R)
    (he : starEach (e :: rest) env = (false, eval e env) :: starEach rest env) : EV c m ((t, o) :: (δ ++ base)) (spliced (backTo pos (starEach (e :: rest) env))) PL R := by
  refine ev_spl (ev_imp (h1 (fun v m' ν' => m' = m ∧ ∃ o', RV sl n (newOf ((t, o') :: base) ν') v ∧ BowlO c.w o' ∧ (t, o') ∈ ν' ∧ ∀ p ∈ δ ++ base, p ∈ ν') fun x1 x2 x3 x4 => ⟨rfl, _, x1, x2, x3, x4⟩) fun v m' ν' g => ?_) he
  obtain ⟨rfl, o', hr, ho, hm, hs⟩ := g
  exact ev_sub (h2 v o' (newOf ((t, o') :: base) ν') ho hr (fun p hp => mem_of_new (hs p (List.mem_append_left _ hp)) (above_swap (hab p hp))) (fun p hp => (new_mem hp).2) _ fun x => x) (sub_cons hm (sub_app (fun p hp => (new_mem hp).1) fun p hp => hs p (List.mem_append_right _ hp)))
theorem c_law_row {c : Cx} {m : Loc} {ν ν₁ : Led} {P : Value → Loc → Led → Prop} {R : RX} {t : Addr} {o : Obj} {sl n : Int} {u1 u2 : Tok} (hr : Room c 106) (ho : BowlO c.w o) (hν : ∀ p ∈ (t, o) :: ν₁, p ∈ ν) (hne : ∀ p ∈ ν₁, p.1 ≠ t) (hm0 : 0 < sl) (hn0 : 0 < n)
    (h : ∀ v r o' δ, Drawn sl n r → BowlO c.w o' → RowV δ r v → (∀ p ∈ δ, Above p.1 ((t, o) :: ν₁)) → P v m ((t, o') :: (δ ++ ν₁))) :
    EV c m ν (call (.ref 198) [.ref t, .int sl u1, .int n u2]) P R := by
  refine ev_sub ?_ hν
  refine ev_post ?_
  refine' ev_callC (n := 105) (Rb := NoX) (binds := [("bowl", .ref t), ("slots", .int sl u1), ("many", .int n u2)]) (m₀ := bnd noLoc [("many", .int n u2)]) (cs := fun L => [("slots", L + 2), ("bowl", L + 1)]) (cm := bnd noLoc [("bowl", .ref t), ("slots", .int sl u1)]) ?ho ?hcd hr ?hb ?hkd ?hnd ?hm ?hcm ?hcs ?hck ?h (fun _ _ x => x.elim)
  case ho => k_is
  case hcd => k_is
  case hb => exact fun s => BindsTo.of_eq rfl
  case hkd => exact rfl
  case hnd => decide
  case hm => exact fun _ => rfl
  case hcm => exact fun _ => rfl
  case hcs => exact fun _ => rfl
  case hck => exact rfl
  case h =>
    intro c' cells hr' hcw hY lt
    rw [← hcw.2] at ho h
    with_reducible refine hide_goal fun _ toG => ?_
    obtain ⟨os, ot, rfl, hos, hot⟩ := hY.two
    refine toG ?_
    replace hos : os.data = .cell (some (.int sl u1)) := by rw [hos]; rfl
    replace hot : ot.data = .cell (some (.ref t)) := by rw [hot]; rfl
    refine ev_cons ?_
    refine ev_AssignTup (h := ?_)
    have hct : ∀ p ∈ (c'.L + 2, os) :: (c'.L + 1, ot) :: ν₁, p.1 ≠ t := ne_cons (gtN (Nat.lt_trans (lt _ (.head _)) (by omega))) (ne_cons (gtN (Nat.lt_trans (lt _ (.head _)) (Nat.lt_succ_self _))) hne)
    refine ev_sub (ν' := (t, o) :: (c'.L + 2, os) :: (c'.L + 1, ot) :: ν₁) ?_ (by walk_at "zsub")
    refine' ev_ListComp (cl := [("slots", c'.L + 2), ("bowl", c'.L + 1)]) (Rb := NoX) ?_ outCompNoX ?h1 ?h2 ?h3 ?h4 ?h5
    case h1 => with_unfolding_all rfl
    case h2 => decide
    case h3 => rfl
    case h4 => decide
    case h5 => exact fun _ => rfl
    dsimp only [bnd]
    refine ev_Call (h := ?_)
    refine ev_bltn (h := ?_)
    refine ev_cwT_0 (h := ?_)
    refine ev_spl (h := ?_)
    refine ev_int (h := fun _ => ?_)
    refine ev_spl0 ?_
    refine ev_range1 fun r0 t1 t2 hr0 => ?_
    refine ev_iterR (.head _) (by decide) (by decide) fun it oi hit hoi => ?_
    refine ev_compK (yldR (n := 3)) (by simp [sizeLine]) (fun k acc ν₂ => ∃ o' ns, ν₂ = (t, o') :: (c'.L + 2, os) :: (c'.L + 1, ot) :: ν₁ ∧ BowlO c'.w o' ∧ AllV IntV ns acc ∧ (∀ n ∈ ns, 0 ≤ n ∧ n ≤ sl) ∧ ns.length = k) (ν₀ := (t, o) :: (c'.L + 2, os) :: (c'.L + 1, ot) :: ν₁) ⟨oi, rfl, by simpa using hoi⟩ (fun p hp => ltN' (hit p (.tail _ hp))) trivial ⟨o, [], rfl, ho, .nil, (fun _ h => nomatch h), rfl⟩ (by walk_at "zsub") (fun a ha => ⟨_, .head _, ha.symm⟩) (fun k b hb p hp => by obtain ⟨oi', rfl, _⟩ := hb; cases hp with | head => rfl | tail _ h => cases h) (fun L q h => trivial) ?_ ?_
    · intro k acc ν₂ v δ2 b3 Ca oC mC D2 oD2 hk hal zp1 hne2 hsr2 zp2 hδ2 hB2 hNs hoD2 hab2 hDC hbCD hneC K1 N1 hK1 hN1
      with_reducible refine hide_goal fun _ toG => ?_
      obtain ⟨o', ns, rfl, ho', hns, hnr, hnl⟩ := zp1
      obtain ⟨⟨tk, rfl⟩, rfl⟩ := zp2
      obtain ⟨oi2, rfl, hoi2⟩ := hB2
      refine toG ?_
      refine ev_assignName ?_
      refine ev_storeC (hν := fun _ h => h) (h := fun _ _ => ?_)
      refine ev_tests0 ?_
      refine ite_T ?_
      refine ev_Call (h := ?_)
      refine ev_glob (h := ?_)
      refine ev_cwF_0 (h := ?_)
      refine ev_spl (h := ?_)
      refine ev_cell (h := ?_)
      refine ev_spl (h := ?_)
      refine ev_cell (h := ?_)
      refine ev_spl0 ?_
      rename_i oC2 hNo
      refine c_register (ν₁ := (Ca, oC2) :: (D2, oD2) :: (it, oi2) :: (c'.L + 2, os) :: (c'.L + 1, ot) :: ν₁) (by walk_at "zroom") ho' (by walk_at "zsub") (ne_cons (gtN (Nat.lt_trans (hab2 _ (.head _)) hDC)) (ne_cons (gtN (hab2 _ (.head _))) (ne_cons (gtN (hit _ (.tail _ (.head _)))) hct))) hm0 fun r tk2 o2 g0 g1 ho2 => ?_
      refine' hK1 (ν'' := (t, o2) :: (c'.L + 2, os) :: (c'.L + 1, ot) :: ν₁) ?sub hNo (fun p hp => ?_) trivial ⟨o2, ns ++ [r], rfl, ho2, hns.snoc ⟨_, rfl⟩, fun n hn => ?_, by rw [List.length_append, hnl]; rfl⟩
      case sub => walk_at "zsub"
      · rcases List.mem_cons.mp hp with rfl | hp
        · exact hne2 (t, o') (.head _)
        · exact hne2 p (.tail _ hp)
      · rcases List.mem_append.mp hn with hn | hn
        · exact hnr n hn
        · rw [List.mem_singleton] at hn
          subst hn
          exact ⟨g0, g1⟩
    · rintro D2 oD2 acc ν₂ hal ⟨o1, ns, rfl, ho1, hns, hnr, hnl⟩ hoD2 hab2 hne2 hsr2
      obtain ⟨a, b, d, rfl⟩ : ∃ a b d, ns = [a, b, d] := by
        match ns, hnl with
        | [a, b, d], _ => exact ⟨a, b, d, rfl⟩
      cases hns with
      | cons x1 hns => cases hns with
        | cons x2 hns => cases hns with
          | cons x3 hns =>
            cases hns
            with_reducible refine hide_goal fun _ toG => ?_
            obtain ⟨w1, rfl⟩ := x1
            obtain ⟨w2, rfl⟩ := x2
            obtain ⟨w3, rfl⟩ := x3
            refine toG ?_
            have pa := hnr a (.head _)
            have pb := hnr b (.tail _ (.head _))
            have pd := hnr d (.tail _ (.tail _ (.head _)))
            refine ev_assignL3 (h := ?_)
            refine ev_store (h := ?_)
            refine ev_store (h := ?_)
            refine ev_store (h := ?_)
            refine then_next ?_
            refine ev_cons ?_
            refine ev_AssignSwap2 (h := ?_)
            refine ev_Tuple ?_
            refine ev_spl (h := ?_)
            refine ev_Call (h := ?_)
            refine ev_glob (h := ?_)
            refine ev_cwF_0 (h := ?_)
            refine ev_spl (h := ?_)
            refine ev_cell (h := ?_)
            refine ev_spl (h := ?_)
            refine ev_int (h := fun _ => ?_)
            refine ev_spl0 ?_
            refine ev_sub (ν' := (t, o1) :: (c'.L + 2, os) :: (c'.L + 1, ot) :: ν₁) ?_ (fun p hp => .tail _ hp)
            refine c_scoop (by walk_at "zroom") ho1 (fun _ h => h) hct (by decide) fun way tw o2 w0 w1' ho2 => ?_
            refine ev_spl (h := ?_)
            refine ev_Call (h := ?_)
            refine ev_glob (h := ?_)
            refine ev_cwF_0 (h := ?_)
            refine ev_spl (h := ?_)
            refine ev_cell (h := ?_)
            refine ev_spl (h := ?_)
            refine ev_local (h := ?_)
            refine ev_spl0 ?_
            refine c_goal (by walk_at "zroom") ho2 (fun _ h => h) hct hn0 fun gl tg o3 gl0 gl1 ho3 => ?_
            refine ev_spl0 ?_
            refine ev_newTuple (fun Tw hTw => ?_) (by simp [sizeLine])
            refine ⟨Tw, _, _, _, rfl, .head _, tupO_mk, ?_⟩
            refine ev_sub (ν' := (t, o3) :: (c'.L + 2, os) :: (c'.L + 1, ot) :: ν₁) ?_ (fun p hp => .tail _ hp)
            refine ev_store (h := ?_)
            refine ev_store (h := ?_)
            generalize hbase : (c'.L + 2, os) :: (c'.L + 1, ot) :: ν₁ = base at hct ⊢
            have hosb : (c'.L + 2, os) ∈ base := by rw [← hbase]; exact .head _
            have hotb : (c'.L + 1, ot) ∈ base := by rw [← hbase]; exact .tail _ (.head _)
            refine ev_locals fun m7 hm7 => ?_
            have qa : m7 "a" = some (.int a w1) := by rw [hm7]; walk_at "zlk"
            have qb : m7 "b" = some (.int b w2) := by rw [hm7]; walk_at "zlk"
            have qc : m7 "c" = some (.int d w3) := by rw [hm7]; walk_at "zlk"
            have qway : m7 "way" = some (.int way tw) := by rw [hm7]; walk_at "zlk"
            have qgoal : m7 "goal" = some (.int gl tg) := by rw [hm7]; walk_at "zlk"
            clear hm7
            have hp0 : LawPar sl n a b d "T.1" 0 [true] [d] 1 gl := ⟨pa, pb, pd, .inl rfl, by decide, .inr rfl, .inl rfl, .inl rfl, ⟨gl0, gl1⟩⟩
            refine ev_cons ?_
            refine ev_Assign (h := ?_)
            refine ev_List ?_
            refine ev_sub (ν' := (t, o3) :: ([] ++ base)) ?_ (fun _ h => h)
            refine ev_splRow (sl := sl) (n := n) (fun _ h => nomatch h) (fun K hK => ?_) (fun v1 o4 δ1 ho4 hv1 hs1 hb1 _ hk1 => ?_) (by with_unfolding_all rfl)
            · refine ev_Tuple ?_
              refine ev_spl (h := ?_)
              refine ev_str (h := fun _ => ?_)
              refine ev_spl (h := ?_)
              refine ev_local (h := ?_)
              refine ev_spl (h := ?_)
              refine ev_Tuple ?_
              refine ev_spl (h := ?_)
              refine ev_str (h := fun _ => ?_)
              refine ev_spl0 ?_
              refine ev_newTuple (fun _ _ => ?_) (by simp [sizeLine])
              refine ev_spl0 ?_
              refine ev_newTuple (fun _ _ => ?_) (by simp [sizeLine])
              exact hK (.mk hp0 (List.mem_of_getElem? (i := 0) rfl) (by walk_at "zrow")) ho3 (by walk_at "zmem") (by walk_at "zsub")
            refine ev_splRow (sl := sl) (n := n) hb1 (fun K hK => ?_) (fun v2 o5 δ2 ho5 hv2 hs2 hb2 _ hk2 => ?_) (by with_unfolding_all rfl)
            · refine ev_Tuple ?_
              refine ev_spl (h := ?_)
              refine ev_str (h := fun _ => ?_)
              refine ev_spl (h := ?_)
              refine ev_local (h := ?_)
              refine ev_spl (h := ?_)
              refine ev_local (h := ?_)
              refine ev_spl0 ?_
              refine ev_newTuple (fun _ _ => ?_) (by simp [sizeLine])
              exact hK (.mk hp0 (List.mem_of_getElem? (i := 1) rfl) (by walk_at "zrow")) ho4 (by walk_at "zmem") (by walk_at "zsub")
            refine ev_splRow (sl := sl) (n := n) hb2 (fun K hK => ?_) (fun v3 o6 δ3 ho6 hv3 hs3 hb3 _ hk3 => ?_) (by with_unfolding_all rfl)
            · refine ev_Tuple ?_
              refine ev_spl (h := ?_)
              refine ev_str (h := fun _ => ?_)
              refine ev_spl (h := ?_)
              refine ev_local (h := ?_)
              refine ev_spl (h := ?_)
              refine ev_str (h := fun _ => ?_)
              refine ev_spl0 ?_
              refine ev_newTuple (fun _ _ => ?_) (by simp [sizeLine])
              exact hK (.mk hp0 (List.mem_of_getElem? (i := 2) rfl) (by walk_at "zrow")) ho5 (by walk_at "zmem") (by walk_at "zsub")
            refine ev_splRow (sl := sl) (n := n) hb3 (fun K hK => ?_) (fun v4 o7 δ4 ho7 hv4 hs4 hb4 _ hk4 => ?_) (by with_unfolding_all rfl)
            · refine ev_Tuple ?_
              refine ev_spl (h := ?_)
              refine ev_str (h := fun _ => ?_)
              refine ev_spl (h := ?_)
              refine ev_str (h := fun _ => ?_)
              refine ev_spl (h := ?_)
              refine ev_local (h := ?_)
              refine ev_spl0 ?_
              refine ev_newTuple (fun _ _ => ?_) (by simp [sizeLine])
              exact hK (.mk hp0 (List.mem_of_getElem? (i := 3) rfl) (by walk_at "zrow")) ho6 (by walk_at "zmem") (by walk_at "zsub")
            refine ev_splRow (sl := sl) (n := n) hb4 (fun K hK => ?_) (fun v5 o8 δ5 ho8 hv5 hs5 hb5 _ hk5 => ?_) (by with_unfolding_all rfl)
            · refine ev_Tuple ?_
              refine ev_spl (h := ?_)
              refine ev_str (h := fun _ => ?_)
              refine ev_spl (h := ?_)
              refine ev_local (h := ?_)
              refine ev_spl (h := ?_)
              refine ev_Sub ?_
              refine ev_List ?_
              refine ev_spl (h := ?_)
              refine ev_str (h := fun _ => ?_)
              refine ev_spl (h := ?_)
              refine ev_str (h := fun _ => ?_)
              refine ev_spl0 ?_
              rename_i i0 i1 i2
              refine ev_newList (fun l0 hl0 => ?_) (by simp [sizeLine])
              refine ev_Call (h := ?_)
              refine ev_glob (h := ?_)
              refine ev_cwF_0 (h := ?_)
              refine ev_spl (h := ?_)
              refine ev_cell (h := ?_)
              refine ev_spl (h := ?_)
              refine ev_int (h := fun _ => ?_)
              refine ev_spl0 ?_
              refine c_scoop (ν₁ := (l0, lstO [.str "T.1" i1, .str "T.2" i2]) :: (δ4 ++ base)) (by walk_at "zroom") ho7 (by walk_at "zsub") (ne_cons (gtN (hl0 _ (.head _))) (ne_app (fun p hp => gtN (hb4 p hp _ (.head _))) hct)) (by decide) fun r1 k1 o r10 r11 ho => ?_
              obtain ⟨st, kst, hst, hst2⟩ := pick_st (t1 := i1) (t2 := i2) r10 r11
              refine ev_itemL (by walk_at "zmem") lstO_mk r10 (by omega) hst ?_ (by with_unfolding_all rfl)
              refine ev_spl0 ?_
              refine ev_newTuple (fun _ _ => ?_) (by simp [sizeLine])
              exact hK (.mk ⟨pa, pb, pd, hst2, hp0.hcp, hp0.hmk, hp0.hkw, hp0.hlv, hp0.hg⟩ (List.mem_of_getElem? (i := 4) rfl) (by walk_at "zrow")) ho (by walk_at "zmem") (by walk_at "zsub")
            refine ev_splRow (sl := sl) (n := n) hb5 (fun K hK => ?_) (fun v6 o9 δ6 ho9 hv6 hs6 hb6 _ hk6 => ?_) (by with_unfolding_all rfl)
            · refine ev_Tuple ?_
              refine ev_spl (h := ?_)
              refine ev_str (h := fun _ => ?_)
              refine ev_spl (h := ?_)
              refine ev_local (h := ?_)
              refine ev_spl (h := ?_)
              refine ev_Call (h := ?_)
              refine ev_glob (h := ?_)
              refine ev_cwF_0 (h := ?_)
              refine ev_spl (h := ?_)
              refine ev_cell (h := ?_)
              refine ev_spl (h := ?_)
              refine ev_int (h := fun _ => ?_)
              refine ev_spl0 ?_
              refine c_scoop (ν₁ := δ5 ++ base) (by walk_at "zroom") ho8 (by walk_at "zsub") (ne_app (fun p hp => gtN (hb5 p hp _ (.head _))) hct) (by decide) fun r1 k1 o r10 r11 ho => ?_
              refine ev_spl0 ?_
              refine ev_newTuple (fun _ _ => ?_) (by simp [sizeLine])
              exact hK (.mk ⟨pa, pb, pd, hp0.hst, ⟨r10, r11⟩, hp0.hmk, hp0.hkw, hp0.hlv, hp0.hg⟩ (List.mem_of_getElem? (i := 5) rfl) (by walk_at "zrow")) ho (by walk_at "zmem") (by walk_at "zsub")
            refine ev_splRow (sl := sl) (n := n) hb6 (fun K hK => ?_) (fun v7 o10 δ7 ho10 hv7 hs7 hb7 _ hk7 => ?_) (by with_unfolding_all rfl)
            · refine ev_Tuple ?_
              refine ev_spl (h := ?_)
              refine ev_str (h := fun _ => ?_)
              refine ev_spl (h := ?_)
              refine ev_local (h := ?_)
              refine ev_spl (h := ?_)
              refine ev_local (h := ?_)
              refine ev_spl (h := ?_)
              refine ev_Tuple ?_
              refine ev_spl (h := ?_)
              refine ev_local (h := ?_)
              refine ev_spl (h := ?_)
              refine ev_local (h := ?_)
              refine ev_spl0 ?_
              refine ev_newTuple (fun _ _ => ?_) (by simp [sizeLine])
              refine ev_spl0 ?_
              refine ev_newTuple (fun _ _ => ?_) (by simp [sizeLine])
              exact hK (.mk hp0 (List.mem_of_getElem? (i := 6) rfl) (by walk_at "zrow")) ho9 (by walk_at "zmem") (by walk_at "zsub")
            refine ev_splRow (sl := sl) (n := n) hb7 (fun K hK => ?_) (fun v8 o11 δ8 ho11 hv8 hs8 hb8 _ hk8 => ?_) (by with_unfolding_all rfl)
            · refine ev_Tuple ?_
              refine ev_spl (h := ?_)
              refine ev_str (h := fun _ => ?_)
              refine ev_spl (h := ?_)
              refine ev_local (h := ?_)
              refine ev_spl (h := ?_)
              refine ev_local (h := ?_)
              refine ev_spl (h := ?_)
              refine ev_Tuple ?_
              refine ev_spl (h := ?_)
              refine ev_local (h := ?_)
              refine ev_spl (h := ?_)
              refine ev_local (h := ?_)
              refine ev_spl0 ?_
              refine ev_newTuple (fun _ _ => ?_) (by simp [sizeLine])
              refine ev_spl (h := ?_)
              refine ev_Sub ?_
              refine ev_List ?_
              refine ev_spl (h := ?_)
              refine ev_Tuple ?_
              refine ev_spl (h := ?_)
              refine ev_bool ?_
              refine ev_spl (h := ?_)
              refine ev_bool ?_
              refine ev_spl0 ?_
              refine ev_newTuple (fun _ _ => ?_) (by simp [sizeLine])
              refine ev_spl (h := ?_)
              refine ev_Tuple ?_
              refine ev_spl (h := ?_)
              refine ev_bool ?_
              refine ev_spl (h := ?_)
              refine ev_bool ?_
              refine ev_spl0 ?_
              refine ev_newTuple (fun _ _ => ?_) (by simp [sizeLine])
              refine ev_spl (h := ?_)
              refine ev_Tuple ?_
              refine ev_spl (h := ?_)
              refine ev_bool ?_
              refine ev_spl0 ?_
              refine ev_newTuple (fun _ _ => ?_) (by simp [sizeLine])
              refine ev_spl0 ?_
              rename_i _ T1 h1 T2 h2 T3 h3 T4 h4
              refine ev_newList (fun l0 hl0 => ?_) (by simp [sizeLine])
              refine ev_Call (h := ?_)
              refine ev_glob (h := ?_)
              refine ev_cwF_0 (h := ?_)
              refine ev_spl (h := ?_)
              refine ev_cell (h := ?_)
              refine ev_spl (h := ?_)
              refine ev_int (h := fun _ => ?_)
              refine ev_spl0 ?_
              refine c_scoop (ν₁ := (l0, lstO [.ref T2, .ref T3, .ref T4]) :: (T4, tupO [.bool true]) :: (T3, tupO [.bool true, .bool false]) :: (T2, tupO [.bool true, .bool false]) :: (T1, tupO [.int d w3, .int d w3]) :: (δ7 ++ base)) (by walk_at "zroom") ho10 (by walk_at "zsub") (ne_cons (gtN (hl0 (t, o10) (by walk_at "zmem"))) (ne_cons (gtN (h4 (t, o10) (by walk_at "zmem"))) (ne_cons (gtN (h3 (t, o10) (by walk_at "zmem"))) (ne_cons (gtN (h2 (t, o10) (by walk_at "zmem"))) (ne_cons (gtN (h1 (t, o10) (by walk_at "zmem"))) (ne_app (fun p hp => gtN (hb7 p hp _ (.head _))) hct)))))) (by decide) fun r1 k1 o r10 r11 ho => ?_
              obtain ⟨mks, xmk, hxm, hmk2, hmkv⟩ := pick_mk (δ := newOf ((t, o) :: base) ((t, o) :: (l0, lstO [.ref T2, .ref T3, .ref T4]) :: (T4, tupO [.bool true]) :: (T3, tupO [.bool true, .bool false]) :: (T2, tupO [.bool true, .bool false]) :: (T1, tupO [.int d w3, .int d w3]) :: (δ7 ++ base))) r10 r11 (mem_of_new (by walk_at "zmem") (above_swap (above_of h2 (by walk_at "zsub")))) (mem_of_new (by walk_at "zmem") (above_swap (above_of h3 (by walk_at "zsub")))) (mem_of_new (by walk_at "zmem") (above_swap (above_of h4 (by walk_at "zsub"))))
              refine ev_itemL (by walk_at "zmem") lstO_mk r10 (by omega) hxm ?_ (by with_unfolding_all rfl)
              refine ev_spl0 ?_
              refine ev_newTuple (fun _ _ => ?_) (by simp [sizeLine])
              rename_i T5 h5
              exact hK (.mk ⟨pa, pb, pd, hp0.hst, hp0.hcp, hmk2, hp0.hkw, hp0.hlv, hp0.hg⟩ (List.mem_of_getElem? (i := 7) rfl) (row_mk (by walk_at "znew") tupO_mk (.cons pv_d (.cons pv_s (.cons (pv_m (mem_of_new (by walk_at "zmem") (above_swap (above_of h1 (by walk_at "zsub")))) tupO_mk (by walk_at "zats")) (.cons (hmkv.mono (KeepT.of (newOf_mono (by walk_at "zsub")))) .nil)))))) ho (by walk_at "zmem") (by walk_at "zsub")
            refine ev_splRow (sl := sl) (n := n) hb8 (fun K hK => ?_) (fun v9 o12 δ9 ho12 hv9 hs9 hb9 _ hk9 => ?_) (by with_unfolding_all rfl)
            · refine ev_Tuple ?_
              refine ev_spl (h := ?_)
              refine ev_str (h := fun _ => ?_)
              refine ev_spl (h := ?_)
              refine ev_local (h := ?_)
              refine ev_spl (h := ?_)
              refine ev_local (h := ?_)
              refine ev_spl (h := ?_)
              refine ev_Tuple ?_
              refine ev_spl (h := ?_)
              refine ev_str (h := fun _ => ?_)
              refine ev_spl0 ?_
              refine ev_newTuple (fun _ _ => ?_) (by simp [sizeLine])
              refine ev_spl (h := ?_)
              refine ev_Sub ?_
              refine ev_List ?_
              refine ev_spl (h := ?_)
              refine ev_Tuple ?_
              refine ev_spl (h := ?_)
              refine ev_local (h := ?_)
              refine ev_spl0 ?_
              refine ev_newTuple (fun _ _ => ?_) (by simp [sizeLine])
              refine ev_spl (h := ?_)
              refine ev_Tuple ?_
              refine ev_spl (h := ?_)
              refine ev_local (h := ?_)
              refine ev_spl0 ?_
              refine ev_newTuple (fun _ _ => ?_) (by simp [sizeLine])
              refine ev_spl (h := ?_)
              refine ev_Tuple ?_
              refine ev_spl (h := ?_)
              refine ev_local (h := ?_)
              refine ev_spl (h := ?_)
              refine ev_local (h := ?_)
              refine ev_spl0 ?_
              refine ev_newTuple (fun _ _ => ?_) (by simp [sizeLine])
              refine ev_spl0 ?_
              rename_i _ i1 T1 h1 T2 h2 T3 h3 T4 h4
              refine ev_newList (fun l0 hl0 => ?_) (by simp [sizeLine])
              refine ev_Call (h := ?_)
              refine ev_glob (h := ?_)
              refine ev_cwF_0 (h := ?_)
              refine ev_spl (h := ?_)
              refine ev_cell (h := ?_)
              refine ev_spl (h := ?_)
              refine ev_int (h := fun _ => ?_)
              refine ev_spl0 ?_
              refine c_scoop (ν₁ := (l0, lstO [.ref T2, .ref T3, .ref T4]) :: (T4, tupO [.int d w3, .int d w3]) :: (T3, tupO [.int d w3]) :: (T2, tupO [.int d w3]) :: (T1, tupO [.str "k" i1]) :: (δ8 ++ base)) (by walk_at "zroom") ho11 (by walk_at "zsub") (ne_cons (gtN (hl0 (t, o11) (by walk_at "zmem"))) (ne_cons (gtN (h4 (t, o11) (by walk_at "zmem"))) (ne_cons (gtN (h3 (t, o11) (by walk_at "zmem"))) (ne_cons (gtN (h2 (t, o11) (by walk_at "zmem"))) (ne_cons (gtN (h1 (t, o11) (by walk_at "zmem"))) (ne_app (fun p hp => gtN (hb8 p hp _ (.head _))) hct)))))) (by decide) fun r1 k1 o r10 r11 ho => ?_
              obtain ⟨kw, xkw, hxk, hkw2, hkwv⟩ := pick_kw (δ := newOf ((t, o) :: base) ((t, o) :: (l0, lstO [.ref T2, .ref T3, .ref T4]) :: (T4, tupO [.int d w3, .int d w3]) :: (T3, tupO [.int d w3]) :: (T2, tupO [.int d w3]) :: (T1, tupO [.str "k" i1]) :: (δ8 ++ base))) r10 r11 (mem_of_new (by walk_at "zmem") (above_swap (above_of h2 (by walk_at "zsub")))) (mem_of_new (by walk_at "zmem") (above_swap (above_of h3 (by walk_at "zsub")))) (mem_of_new (by walk_at "zmem") (above_swap (above_of h4 (by walk_at "zsub"))))
              refine ev_itemL (by walk_at "zmem") lstO_mk r10 (by omega) hxk ?_ (by with_unfolding_all rfl)
              refine ev_spl (h := ?_)
              refine ev_Tuple ?_
              refine ev_spl (h := ?_)
              refine ev_local (h := ?_)
              refine ev_spl (h := ?_)
              refine ev_local (h := ?_)
              refine ev_spl0 ?_
              refine ev_newTuple (fun _ _ => ?_) (by simp [sizeLine])
              refine ev_spl0 ?_
              refine ev_newTuple (fun _ _ => ?_) (by simp [sizeLine])
              exact hK (.mk ⟨pa, pb, pd, hp0.hst, hp0.hcp, hp0.hmk, hkw2, hp0.hlv, hp0.hg⟩ (List.mem_of_getElem? (i := 8) rfl) (row_mk (by walk_at "znew") tupO_mk (.cons pv_d (.cons pv_s (.cons (pv_xt (mem_of_new (by walk_at "zmem") (above_swap (above_of h1 (by walk_at "zsub")))) tupO_mk (by walk_at "zats")) (.cons (hkwv.mono (KeepT.of (newOf_mono (by walk_at "zsub")))) (.cons (by walk_at "zpart") .nil))))))) ho (by walk_at "zmem") (by walk_at "zsub")
            refine ev_splRow (sl := sl) (n := n) hb9 (fun K hK => ?_) (fun v10 o13 δ10 ho13 hv10 hs10 hb10 _ hk10 => ?_) (by with_unfolding_all rfl)
            · refine ev_Tuple ?_
              refine ev_spl (h := ?_)
              refine ev_str (h := fun _ => ?_)
              refine ev_spl (h := ?_)
              refine ev_local (h := ?_)
              refine ev_spl (h := ?_)
              refine ev_str (h := fun _ => ?_)
              refine ev_spl (h := ?_)
              refine ev_Tuple ?_
              refine ev_spl (h := ?_)
              refine ev_local (h := ?_)
              refine ev_spl0 ?_
              refine ev_newTuple (fun _ _ => ?_) (by simp [sizeLine])
              refine ev_spl0 ?_
              refine ev_newTuple (fun _ _ => ?_) (by simp [sizeLine])
              exact hK (.mk hp0 (List.mem_of_getElem? (i := 9) rfl) (by walk_at "zrow")) ho12 (by walk_at "zmem") (by walk_at "zsub")
            refine ev_splRow (sl := sl) (n := n) hb10 (fun K hK => ?_) (fun v11 o14 δ11 ho14 hv11 hs11 hb11 _ hk11 => ?_) (by with_unfolding_all rfl)
            · refine ev_Tuple ?_
              refine ev_spl (h := ?_)
              refine ev_str (h := fun _ => ?_)
              refine ev_spl (h := ?_)
              refine ev_local (h := ?_)
              refine ev_spl0 ?_
              refine ev_newTuple (fun _ _ => ?_) (by simp [sizeLine])
              exact hK (.mk hp0 (List.mem_of_getElem? (i := 10) rfl) (by walk_at "zrow")) ho13 (by walk_at "zmem") (by walk_at "zsub")
            refine ev_splRow (sl := sl) (n := n) hb11 (fun K hK => ?_) (fun v12 o15 δ12 ho15 hv12 hs12 hb12 _ hk12 => ?_) (by with_unfolding_all rfl)
            · refine ev_Tuple ?_
              refine ev_spl (h := ?_)
              refine ev_str (h := fun _ => ?_)
              refine ev_spl (h := ?_)
              refine ev_local (h := ?_)
              refine ev_spl (h := ?_)
              refine ev_local (h := ?_)
              refine ev_spl (h := ?_)
              refine ev_str (h := fun _ => ?_)
              refine ev_spl0 ?_
              refine ev_newTuple (fun _ _ => ?_) (by simp [sizeLine])
              exact hK (.mk hp0 (List.mem_of_getElem? (i := 11) rfl) (by walk_at "zrow")) ho14 (by walk_at "zmem") (by walk_at "zsub")
            refine ev_splRow (sl := sl) (n := n) hb12 (fun K hK => ?_) (fun v13 o16 δ13 ho16 hv13 hs13 hb13 _ hk13 => ?_) (by with_unfolding_all rfl)
            · refine ev_Tuple ?_
              refine ev_spl (h := ?_)
              refine ev_str (h := fun _ => ?_)
              refine ev_spl (h := ?_)
              refine ev_local (h := ?_)
              refine ev_spl (h := ?_)
              refine ev_local (h := ?_)
              refine ev_spl0 ?_
              refine ev_newTuple (fun _ _ => ?_) (by simp [sizeLine])
              exact hK (.mk hp0 (List.mem_of_getElem? (i := 12) rfl) (by walk_at "zrow")) ho15 (by walk_at "zmem") (by walk_at "zsub")
            refine ev_splRow (sl := sl) (n := n) hb13 (fun K hK => ?_) (fun v14 o17 δ14 ho17 hv14 hs14 hb14 _ hk14 => ?_) (by with_unfolding_all rfl)
            · refine ev_Tuple ?_
              refine ev_spl (h := ?_)
              refine ev_str (h := fun _ => ?_)
              refine ev_spl (h := ?_)
              refine ev_local (h := ?_)
              refine ev_spl0 ?_
              refine ev_newTuple (fun _ _ => ?_) (by simp [sizeLine])
              exact hK (.mk hp0 (List.mem_of_getElem? (i := 13) rfl) (by walk_at "zrow")) ho16 (by walk_at "zmem") (by walk_at "zsub")
            refine ev_splRow (sl := sl) (n := n) hb14 (fun K hK => ?_) (fun v15 o18 δ15 ho18 hv15 hs15 hb15 _ hk15 => ?_) (by with_unfolding_all rfl)
            · refine ev_Tuple ?_
              refine ev_spl (h := ?_)
              refine ev_str (h := fun _ => ?_)
              refine ev_spl (h := ?_)
              refine ev_local (h := ?_)
              refine ev_spl0 ?_
              refine ev_newTuple (fun _ _ => ?_) (by simp [sizeLine])
              exact hK (.mk hp0 (List.mem_of_getElem? (i := 14) rfl) (by walk_at "zrow")) ho17 (by walk_at "zmem") (by walk_at "zsub")
            refine ev_splRow (sl := sl) (n := n) hb15 (fun K hK => ?_) (fun v16 o19 δ16 ho19 hv16 hs16 hb16 _ hk16 => ?_) (by with_unfolding_all rfl)
            · refine ev_Tuple ?_
              refine ev_spl (h := ?_)
              refine ev_str (h := fun _ => ?_)
              refine ev_spl (h := ?_)
              refine ev_local (h := ?_)
              refine ev_spl (h := ?_)
              refine ev_local (h := ?_)
              refine ev_spl0 ?_
              refine ev_newTuple (fun _ _ => ?_) (by simp [sizeLine])
              exact hK (.mk hp0 (List.mem_of_getElem? (i := 15) rfl) (by walk_at "zrow")) ho18 (by walk_at "zmem") (by walk_at "zsub")
            refine ev_splRow (sl := sl) (n := n) hb16 (fun K hK => ?_) (fun v17 o20 δ17 ho20 hv17 hs17 hb17 _ hk17 => ?_) (by with_unfolding_all rfl)
            · refine ev_Tuple ?_
              refine ev_spl (h := ?_)
              refine ev_str (h := fun _ => ?_)
              refine ev_spl (h := ?_)
              refine ev_local (h := ?_)
              refine ev_spl0 ?_
              refine ev_newTuple (fun _ _ => ?_) (by simp [sizeLine])
              exact hK (.mk hp0 (List.mem_of_getElem? (i := 16) rfl) (by walk_at "zrow")) ho19 (by walk_at "zmem") (by walk_at "zsub")
            refine ev_splRow (sl := sl) (n := n) hb17 (fun K hK => ?_) (fun v18 o21 δ18 ho21 hv18 hs18 hb18 _ hk18 => ?_) (by with_unfolding_all rfl)
            · refine ev_Tuple ?_
              refine ev_spl (h := ?_)
              refine ev_str (h := fun _ => ?_)
              refine ev_spl (h := ?_)
              refine ev_local (h := ?_)
              refine ev_spl0 ?_
              refine ev_newTuple (fun _ _ => ?_) (by simp [sizeLine])
              exact hK (.mk hp0 (List.mem_of_getElem? (i := 17) rfl) (by walk_at "zrow")) ho20 (by walk_at "zmem") (by walk_at "zsub")
            refine ev_splRow (sl := sl) (n := n) hb18 (fun K hK => ?_) (fun v19 o22 δ19 ho22 hv19 hs19 hb19 _ hk19 => ?_) (by with_unfolding_all rfl)
            · refine ev_Tuple ?_
              refine ev_spl (h := ?_)
              refine ev_str (h := fun _ => ?_)
              refine ev_spl (h := ?_)
              refine ev_BinOp ?_
              refine ev_int (h := fun _ => ?_)
              refine ev_Call (h := ?_)
              refine ev_bltn (h := ?_)
              refine ev_cwT_0 (h := ?_)
              refine ev_spl (h := ?_)
              refine ev_Compare (h := ?_)
              refine ev_Call (h := ?_)
              refine ev_glob (h := ?_)
              refine ev_cwF_0 (h := ?_)
              refine ev_spl (h := ?_)
              refine ev_cell (h := ?_)
              refine ev_spl (h := ?_)
              refine ev_int (h := fun _ => ?_)
              refine ev_spl0 ?_
              refine c_scoop (ν₁ := δ18 ++ base) (by walk_at "zroom") ho21 (by walk_at "zsub") (ne_app (fun p hp => gtN (hb18 p hp _ (.head _))) hct) (by decide) fun r1 k1 o r10 r11 ho => ?_
              refine ev_int (h := fun _ => ?_)
              refine ev_eq ?_
              refine ev_spl0 ?_
              refine ev_intB fun k6 => ?_
              refine ev_add (h := fun _ => ?_)
              refine ev_spl0 ?_
              refine ev_newTuple (fun _ _ => ?_) (by simp [sizeLine])
              exact hK (.mk (lv := 1 + if (r1 == 0) = true then 1 else 0) ⟨pa, pb, pd, hp0.hst, hp0.hcp, hp0.hmk, hp0.hkw, by split; exact .inr rfl; exact .inl rfl, hp0.hg⟩ (List.mem_of_getElem? (i := 18) rfl) (by walk_at "zrow")) ho (by walk_at "zmem") (by walk_at "zsub")
            refine ev_splRow (sl := sl) (n := n) hb19 (fun K hK => ?_) (fun v20 o23 δ20 ho23 hv20 hs20 hb20 _ hk20 => ?_) (by with_unfolding_all rfl)
            · refine ev_Tuple ?_
              refine ev_spl (h := ?_)
              refine ev_str (h := fun _ => ?_)
              refine ev_spl (h := ?_)
              refine ev_local (h := ?_)
              refine ev_spl0 ?_
              refine ev_newTuple (fun _ _ => ?_) (by simp [sizeLine])
              exact hK (.mk hp0 (List.mem_of_getElem? (i := 19) rfl) (by walk_at "zrow")) ho22 (by walk_at "zmem") (by walk_at "zsub")
            refine ev_splRow (sl := sl) (n := n) hb20 (fun K hK => ?_) (fun v21 o24 δ21 ho24 hv21 hs21 hb21 _ hk21 => ?_) (by with_unfolding_all rfl)
            · refine ev_Tuple ?_
              refine ev_spl (h := ?_)
              refine ev_str (h := fun _ => ?_)
              refine ev_spl0 ?_
              refine ev_newTuple (fun _ _ => ?_) (by simp [sizeLine])
              exact hK (.mk hp0 (List.mem_of_getElem? (i := 20) rfl) (by walk_at "zrow")) ho23 (by walk_at "zmem") (by walk_at "zsub")
            refine ev_splRow (sl := sl) (n := n) hb21 (fun K hK => ?_) (fun v22 o25 δ22 ho25 hv22 hs22 hb22 _ hk22 => ?_) (by with_unfolding_all rfl)
            · refine ev_Tuple ?_
              refine ev_spl (h := ?_)
              refine ev_str (h := fun _ => ?_)
              refine ev_spl (h := ?_)
              refine ev_local (h := ?_)
              refine ev_spl (h := ?_)
              refine ev_str (h := fun _ => ?_)
              refine ev_spl0 ?_
              refine ev_newTuple (fun _ _ => ?_) (by simp [sizeLine])
              exact hK (.mk hp0 (List.mem_of_getElem? (i := 21) rfl) (by walk_at "zrow")) ho24 (by walk_at "zmem") (by walk_at "zsub")
            refine ev_splRow (sl := sl) (n := n) hb22 (fun K hK => ?_) (fun v23 o26 δ23 ho26 hv23 hs23 hb23 _ hk23 => ?_) (by with_unfolding_all rfl)
            · refine ev_Tuple ?_
              refine ev_spl (h := ?_)
              refine ev_str (h := fun _ => ?_)
              refine ev_spl (h := ?_)
              refine ev_str (h := fun _ => ?_)
              refine ev_spl (h := ?_)
              refine ev_local (h := ?_)
              refine ev_spl (h := ?_)
              refine ev_str (h := fun _ => ?_)
              refine ev_spl0 ?_
              refine ev_newTuple (fun _ _ => ?_) (by simp [sizeLine])
              exact hK (.mk hp0 (List.mem_of_getElem? (i := 22) rfl) (by walk_at "zrow")) ho25 (by walk_at "zmem") (by walk_at "zsub")
            refine ev_splRow (sl := sl) (n := n) hb23 (fun K hK => ?_) (fun v24 o27 δ24 ho27 hv24 hs24 hb24 _ hk24 => ?_) (by with_unfolding_all rfl)
            · refine ev_Tuple ?_
              refine ev_spl (h := ?_)
              refine ev_str (h := fun _ => ?_)
              refine ev_spl (h := ?_)
              refine ev_local (h := ?_)
              refine ev_spl (h := ?_)
              refine ev_int (h := fun _ => ?_)
              refine ev_spl (h := ?_)
              refine ev_Tuple ?_
              refine ev_spl (h := ?_)
              refine ev_local (h := ?_)
              refine ev_spl (h := ?_)
              refine ev_local (h := ?_)
              refine ev_spl0 ?_
              refine ev_newTuple (fun _ _ => ?_) (by simp [sizeLine])
              refine ev_spl0 ?_
              refine ev_newTuple (fun _ _ => ?_) (by simp [sizeLine])
              exact hK (.mk hp0 (List.mem_of_getElem? (i := 23) rfl) (by walk_at "zrow")) ho26 (by walk_at "zmem") (by walk_at "zsub")
            refine ev_splRow (sl := sl) (n := n) hb24 (fun K hK => ?_) (fun v25 o28 δ25 ho28 hv25 hs25 hb25 _ hk25 => ?_) (by with_unfolding_all rfl)
            · refine ev_Tuple ?_
              refine ev_spl (h := ?_)
              refine ev_str (h := fun _ => ?_)
              refine ev_spl (h := ?_)
              refine ev_int (h := fun _ => ?_)
              refine ev_spl (h := ?_)
              refine ev_local (h := ?_)
              refine ev_spl0 ?_
              refine ev_newTuple (fun _ _ => ?_) (by simp [sizeLine])
              exact hK (.mk hp0 (List.mem_of_getElem? (i := 24) rfl) (by walk_at "zrow")) ho27 (by walk_at "zmem") (by walk_at "zsub")
            refine ev_spl0 ?_
            refine hk25 (hk24 (hk23 (hk22 (hk21 (hk20 (hk19 (hk18 (hk17 (hk16 (hk15 (hk14 (hk13 (hk12 (hk11 (hk10 (hk9 (hk8 (hk7 (hk6 (hk5 (hk4 (hk3 (hk2 (hk1 ?_))))))))))))))))))))))))
            refine ev_newList (fun l3 hl3 => ?_) (by simp [sizeLine])
            refine ev_store (h := ?_)
            refine then_next ?_
            refine ev_cons ?_
            refine ev_Assign (h := ?_)
            refine ev_Sub ?_
            refine ev_local (h := ?_)
            refine ev_local (h := ?_)
            have hway : way.toNat < 25 := by omega
            have S25 : ∀ p ∈ δ25, p ∈ δ25 := fun _ h => h
            have S24 : ∀ p ∈ δ24, p ∈ δ25 := fun p h => S25 p (hs25 p h)
            have S23 : ∀ p ∈ δ23, p ∈ δ25 := fun p h => S24 p (hs24 p h)
            have S22 : ∀ p ∈ δ22, p ∈ δ25 := fun p h => S23 p (hs23 p h)
            have S21 : ∀ p ∈ δ21, p ∈ δ25 := fun p h => S22 p (hs22 p h)
            have S20 : ∀ p ∈ δ20, p ∈ δ25 := fun p h => S21 p (hs21 p h)
            have S19 : ∀ p ∈ δ19, p ∈ δ25 := fun p h => S20 p (hs20 p h)
            have S18 : ∀ p ∈ δ18, p ∈ δ25 := fun p h => S19 p (hs19 p h)
            have S17 : ∀ p ∈ δ17, p ∈ δ25 := fun p h => S18 p (hs18 p h)
            have S16 : ∀ p ∈ δ16, p ∈ δ25 := fun p h => S17 p (hs17 p h)
            have S15 : ∀ p ∈ δ15, p ∈ δ25 := fun p h => S16 p (hs16 p h)
            have S14 : ∀ p ∈ δ14, p ∈ δ25 := fun p h => S15 p (hs15 p h)
            have S13 : ∀ p ∈ δ13, p ∈ δ25 := fun p h => S14 p (hs14 p h)
            have S12 : ∀ p ∈ δ12, p ∈ δ25 := fun p h => S13 p (hs13 p h)
            have S11 : ∀ p ∈ δ11, p ∈ δ25 := fun p h => S12 p (hs12 p h)
            have S10 : ∀ p ∈ δ10, p ∈ δ25 := fun p h => S11 p (hs11 p h)
            have S9 : ∀ p ∈ δ9, p ∈ δ25 := fun p h => S10 p (hs10 p h)
            have S8 : ∀ p ∈ δ8, p ∈ δ25 := fun p h => S9 p (hs9 p h)
            have S7 : ∀ p ∈ δ7, p ∈ δ25 := fun p h => S8 p (hs8 p h)
            have S6 : ∀ p ∈ δ6, p ∈ δ25 := fun p h => S7 p (hs7 p h)
            have S5 : ∀ p ∈ δ5, p ∈ δ25 := fun p h => S6 p (hs6 p h)
            have S4 : ∀ p ∈ δ4, p ∈ δ25 := fun p h => S5 p (hs5 p h)
            have S3 : ∀ p ∈ δ3, p ∈ δ25 := fun p h => S4 p (hs4 p h)
            have S2 : ∀ p ∈ δ2, p ∈ δ25 := fun p h => S3 p (hs3 p h)
            have S1 : ∀ p ∈ δ1, p ∈ δ25 := fun p h => S2 p (hs2 p h)
            have hall : ∀ u ∈ [v1, v2, v3, v4, v5, v6, v7, v8, v9, v10, v11, v12, v13, v14, v15, v16, v17, v18, v19, v20, v21, v22, v23, v24, v25], RV sl n δ25 u := (allc' (hv1.up S1) (allc' (hv2.up S2) (allc' (hv3.up S3) (allc' (hv4.up S4) (allc' (hv5.up S5) (allc' (hv6.up S6) (allc' (hv7.up S7) (allc' (hv8.up S8) (allc' (hv9.up S9) (allc' (hv10.up S10) (allc' (hv11.up S11) (allc' (hv12.up S12) (allc' (hv13.up S13) (allc' (hv14.up S14) (allc' (hv15.up S15) (allc' (hv16.up S16) (allc' (hv17.up S17) (allc' (hv18.up S18) (allc' (hv19.up S19) (allc' (hv20.up S20) (allc' (hv21.up S21) (allc' (hv22.up S22) (allc' (hv23.up S23) (allc' (hv24.up S24) (allc' (hv25.up S25) alln')))))))))))))))))))))))))
            generalize hvs : ([v1, v2, v3, v4, v5, v6, v7, v8, v9, v10, v11, v12, v13, v14, v15, v16, v17, v18, v19, v20, v21, v22, v23, v24, v25] : List Value) = vs at hall
            obtain ⟨xr, hxr⟩ : ∃ x, vs[way.toNat]? = some x := ⟨_, List.getElem?_eq_getElem (by rw [← hvs]; exact hway)⟩
            refine ev_itemL (.head _) lstO_mk w0 (by omega) hxr ?_ (by with_unfolding_all rfl)
            refine ev_store (h := ?_)
            refine then_next ?_
            refine ev_cons ?_
            refine ev_Assign (h := ?_)
            refine ev_Call (h := ?_)
            refine ev_glob (h := ?_)
            refine ev_cwF_0 (h := ?_)
            refine ev_spl (h := ?_)
            refine ev_cell (h := ?_)
            refine ev_spl (h := ?_)
            refine ev_int (h := fun _ => ?_)
            refine ev_spl0 ?_
            have hνb : ∀ p ∈ ν₁, p ∈ base := by rw [← hbase]; walk_at "zbase"
            refine c_scoop (ν₁ := δ25 ++ base) (by walk_at "zroom") ho28 (by walk_at "zsub") (ne_app (fun p hp => gtN (hb25 p hp _ (.head _))) hct) (by decide) fun r6 k9 o9 r60 r61 ho9 => ?_
            with_reducible refine hide_goal fun _ toG => ?_
            obtain @⟨a', b', d', st, cp, mk, kw, lv, g, rr, hpar, hmem, hrw⟩ := hall xr (List.mem_of_getElem? hxr)
            refine toG ?_
            have hpl := law_len hmem
            with_reducible refine hide_goal fun _ toG => ?_
            obtain ⟨Tr, orr, ktk, pvs, rfl, hmr, hor, hps⟩ := hrw
            refine toG ?_
            have hpl2 : pvs.length ≤ 5 := by rw [hps.length]; exact hpl
            have hnl : (Value.str rr.name ktk :: pvs).length < 2 ^ 40 := by simp only [List.length_cons]; omega
            have hδ : ∀ p ∈ δ25, Above p.1 ((t, o) :: ν₁) := fun p hp => above_swap (above_of (hb25 p hp) (sub_cons (.head _) fun p hp => .tail _ (hνb p hp)))
            refine ev_store (h := ?_)
            refine then_next ?_
            refine ev_cons ?_
            refine ev_If ?_
            refine ev_isCompare (h := ?_)
            refine ev_local (h := ?_)
            refine ev_int (h := fun _ => ?_)
            refine ev_eq ?_
            refine ev_truthyB ?_
            refine ite_B (fun hb => ?_) fun hb => ?_
            · refine ev_cons ?_
              refine ev_Return ?_
              refine ev_Tuple ?_
              refine ev_spl (h := ?_)
              refine ev_str (h := fun _ => ?_)
              refine ev_spl (h := ?_)
              refine ev_local (h := ?_)
              refine ev_spl0 ?_
              refine ev_newTuple (fun _ _ => ?_) (by simp [sizeLine])
              refine then_ret ?_
              refine then_ret ?_
              rename_i y1 Ty hy
              refine ⟨(t, o9) :: ((Ty, _) :: δ25 ++ ν₁), by walk_at "zsub", h _ _ o9 _ (.odd pa.1 pa.2) ho9 (row_mk (.head _) tupO_mk (.cons pv_xi .nil)) fun p hp => ?_⟩
              rcases List.mem_cons.mp hp with rfl | hp
              · exact above_swap (above_of hy (sub_cons (.head _) fun p hp => .tail _ (List.mem_append_right _ (hνb p hp))))
              · exact hδ p hp
            · refine ev_nil ?_
              refine then_next ?_
              refine ev_cons ?_
              refine ev_Return ?_
              refine ev_IfExp ?_
              refine ev_isAnd ?_
              refine ev_isCompare (h := ?_)
              refine ev_local (h := ?_)
              refine ev_int (h := fun _ => ?_)
              refine ev_eq ?_
              refine ev_truthyB ?_
              have hrow : RowV δ25 rr (.ref Tr) := ⟨Tr, orr, ktk, pvs, rfl, hmr, hor, hps⟩
              refine ite_B (fun hb2 => ?_) fun hb2 => ?_
              · refine ev_isAnd ?_
                refine ev_isCompare (h := ?_)
                refine ev_Call (h := ?_)
                refine ev_bltn (h := ?_)
                refine ev_cwB_0 (h := ?_)
                refine ev_spl (h := ?_)
                refine ev_local (h := ?_)
                refine ev_spl0 ?_
                refine ev_lenT (h := fun _ => ?_)
                refine ev_int (h := fun _ => ?_)
                refine ev_gt ?_
                refine ev_truthyB ?_
                refine ite_B (fun hb3 => ?_) fun hb3 => ?_
                · refine ev_isAnd0 ?_
                  refine ite_T ?_
                  refine ev_ToT (h := ?_)
                  refine ev_local (h := ?_)
                  refine ev_UnaryOp ?_
                  refine ev_int (h := fun _ => ?_)
                  refine ev_neg (h := fun _ => ?_)
                  refine ⟨_, _, _, _, _, pvs.length, rfl, rfl, by walk_at "zmem", hor, adj_neg1 rfl, by simp only [List.length_cons]; omega, fun _ D hD => ?_, fun e => absurd e (by simp)⟩
                  refine then_ret ?_
                  have hpn : rr.parts ≠ [] := by
                    intro e
                    rw [e] at hps
                    cases hps
                    simp at hb3
                  have hcutv : (Value.str rr.name ktk :: pvs).take pvs.length = .str rr.name ktk :: pvs.dropLast := by
                    cases pvs with
                    | nil => rw [hps.eq_nil rfl] at hpn; exact absurd rfl hpn
                    | cons x xs => simp [List.dropLast_eq_take]
                  rw [hcutv]
                  refine ⟨(t, o9) :: ((D, _) :: δ25 ++ ν₁), by walk_at "zsub", h _ _ o9 _ (.cut hpar hmem hpn) ho9 (row_mk (.head _) tupO_mk ?_) fun p hp => ?_⟩
                  · have := hps.dropLast
                    exact this.mono fun _ _ y => y.mono (KeepT.of fun p hp => .tail _ hp)
                  · rcases List.mem_cons.mp hp with rfl | hp
                    · exact above_swap (above_of hD (sub_cons (.head _) fun p hp => .tail _ (List.mem_append_right _ (hνb p hp))))
                    · exact hδ p hp
                · refine ite_F ?_
                  refine ev_local (h := ?_)
                  refine then_ret ?_
                  exact ⟨(t, o9) :: (δ25 ++ ν₁), by walk_at "zsub", h _ _ o9 _ (.row hpar hmem) ho9 hrow hδ⟩
              · refine ite_F ?_
                refine ev_local (h := ?_)
                refine then_ret ?_
                exact ⟨(t, o9) :: (δ25 ++ ν₁), by walk_at "zsub", h _ _ o9 _ (.row hpar hmem) ho9 hrow hδ⟩

theorem ev_tupleOfK {c : Cx} {m : Loc} {ν : Led} {P : Value → Loc → Led → Prop} {R : RX} {t : Addr} {vs : Array Value} {n : Nat} (ho : (fr.heap_1 c.w.params).lookup t = some { cls := .type "tuple", data := .seq vs n }) (h : P (.ref t) m ν) : EV c m ν (call (.type "tuple") [.ref t]) P R :=
  fun s Q E F N hQ hE => call_tuple_same (items := vs) ⟨_, (c.X.keeps F.keep) _ _ ho, rfl, n, rfl⟩ (hQ _ _ _ s.heap s.toks h F N)
theorem c_Code6 {c : Cx} {m : Loc} {ν : Led} {P : Value → Loc → Led → Prop} {R : RX} {nm : Str} {ar sl : Int} {l st cp : Addr} {o os oc : Obj} {vs vst vcp : List Value} {t1 t2 t3 : Tok} (hr : Room c 3) (hl : (l, o) ∈ ν) (ho : LstO o vs) (hz : vs.length ≤ 1000)
    (h1 : (st, os) ∈ ν) (h1' : TupO os vst) (h2 : (cp, oc) ∈ ν) (h2' : TupO oc vcp)
    (h : ∀ x rt δ, (∀ p ∈ δ, Above p.1 ν) → Above rt ν → (rt, tupO vs) ∈ δ → CodeAt δ x nm ar sl rt st cp 67 → P (.ref x) m (δ ++ ν)) :
    EV c m ν (call (.ref 85) [.str nm t1, .int ar t2, .int sl t3, .ref l, .ref st, .ref cp]) P R := by
  refine' ev_make (n := 1) (binds := fun x => [("self", .ref x), ("name", .str nm t1), ("arity", .int ar t2), ("slots", .int sl t3), ("rows", .ref l), ("static", .ref st), ("captures", .ref cp), ("marks", .ref 67)]) ?hm ?hi ?hf ?ho ?hcd hr ?hb ?hl ?hk ?hc ?h
  case hm => k_is
  case hi => k_is
  case hf => k_is
  case ho => k_is
  case hcd => k_is
  case hb =>
    intro x s st'
    refine' binds_K (c.X.keeps st') ?hd ?ho2 ?hs ?e1 ?e2
    case hd => exact rfl
    case ho2 => k_is
    case hs => exact rfl
    case e1 => exact rfl
    case e2 => exact rfl
  case hl => exact fun x => locs rfl
  case hk => exact rfl
  case hc => decide
  case h =>
    intro x dx c' hdx hlt hr' _
    dsimp only [bnd]
    have hne : ∀ p ∈ (x, instObj 85 dx) :: ν, p.1 ≠ dx := ne_cons (gtN hlt) hdx.ne
    refine ev_sub (ν' := (dx, dictOf [] 0) :: (x, instObj 85 dx) :: ν) ?_ (sub_cons (.tail _ (.head _)) (sub_cons (.head _) fun p hp => .tail _ (.tail _ hp)))
    refine ev_cons ?_
    refine ev_AssignAttr (h := ?_)
    refine ev_local (h := ?_)
    refine ev_local (h := ?_)
    refine ev_setAttr (hν := fun _ h => h) (h := fun _ => ?_)
    refine then_next ?_
    refine ev_cons ?_
    refine ev_AssignAttr (h := ?_)
    refine ev_local (h := ?_)
    refine ev_local (h := ?_)
    refine ev_setAttr (hν := fun _ h => h) (h := fun _ => ?_)
    refine then_next ?_
    refine ev_cons ?_
    refine ev_AssignAttr (h := ?_)
    refine ev_local (h := ?_)
    refine ev_local (h := ?_)
    refine ev_setAttr (hν := fun _ h => h) (h := fun _ => ?_)
    refine then_next ?_
    refine ev_cons ?_
    refine ev_AssignAttr (h := ?_)
    refine ev_Call (h := ?_)
    refine ev_bltn (h := ?_)
    refine ev_cwT_0 (h := ?_)
    refine ev_spl (h := ?_)
    refine ev_local (h := ?_)
    refine ev_spl0 ?_
    refine ev_tupleOfL (vs := vs) (by walk_at "zmem") ho (Nat.le_trans hz (by decide)) fun rt hrt => ?_
    have hne2 : ∀ p ∈ (x, instObj 85 dx) :: (rt, tupO vs) :: ν, p.1 ≠ dx := ne_cons (gtN hlt) (ne_cons (gtN hrt.head) hdx.ne)
    refine ev_sub (ν' := (dx, dictOf _ _) :: (x, instObj 85 dx) :: (rt, tupO vs) :: ν) ?_ (sub_cons (.tail _ (.head _)) (sub_cons (.tail _ (.tail _ (.head _))) (sub_cons (.head _) fun p hp => .tail _ (.tail _ (.tail _ hp)))))
    refine ev_local (h := ?_)
    refine ev_setAttr (hν := fun _ h => h) (h := fun _ => ?_)
    refine then_next ?_
    refine ev_cons ?_
    refine ev_AssignAttr (h := ?_)
    refine ev_Call (h := ?_)
    refine ev_bltn (h := ?_)
    refine ev_cwT_0 (h := ?_)
    refine ev_spl (h := ?_)
    refine ev_local (h := ?_)
    refine ev_spl0 ?_
    refine ev_tupleOfT (h := ?_)
    refine ev_local (h := ?_)
    refine ev_setAttr (hν := fun _ h => h) (h := fun _ => ?_)
    refine then_next ?_
    refine ev_cons ?_
    refine ev_AssignAttr (h := ?_)
    refine ev_Call (h := ?_)
    refine ev_bltn (h := ?_)
    refine ev_cwT_0 (h := ?_)
    refine ev_spl (h := ?_)
    refine ev_local (h := ?_)
    refine ev_spl0 ?_
    refine ev_tupleOfT (h := ?_)
    refine ev_local (h := ?_)
    refine ev_setAttr (hν := fun _ h => h) (h := fun _ => ?_)
    refine then_next ?_
    refine ev_cons ?_
    refine ev_AssignAttr (h := ?_)
    refine ev_Call (h := ?_)
    refine ev_bltn (h := ?_)
    refine ev_cwT_0 (h := ?_)
    refine ev_spl (h := ?_)
    refine ev_local (h := ?_)
    refine ev_spl0 ?_
    refine ev_tupleOfK (by k_is) ?_
    refine ev_local (h := ?_)
    refine ev_setAttr (hν := fun _ h => h) (h := fun _ => ?_)
    refine then_next ?_
    refine ev_nil ?_
    refine ⟨rfl, h x rt [(dx, _), (x, _), (rt, _)] (fun p hp => ?_) hrt.tail.tail (.tail _ (.tail _ (.head _))) ⟨dx, _, _, .tail _ (.head _), .head _, ⟨⟨_, rfl⟩, ⟨_, rfl⟩, ⟨_, rfl⟩, rfl, rfl, rfl, rfl, rfl⟩⟩⟩
    rcases hp with _ | ⟨_, _ | ⟨_, _ | ⟨_, hp⟩⟩⟩
    · exact hdx
    · exact fun q hq => Nat.lt_trans (hdx q hq) hlt
    · exact hrt.tail.tail
    · cases hp

/-- addresses that are to be told from what comes -/
def BA (_ : List Addr) : Prop := True
theorem ev_ToTj {c : Cx} {m : Loc} {ν : Led} {R : RX} {env : Env} {P : Value → Loc → Led → Prop} {value upper : Expr} {p pos : Pos} {B : List Addr} (_ : BA B) (h : EV c m ν (eval value env) (fun v m₁ ν₁ => EV c m₁ ν₁ (eval upper env) (fun i m₂ ν₂ => ∃ t o vs j u, v = .ref t ∧ i = .int j u ∧ (t, o) ∈ ν₂ ∧ TupO o vs ∧ 0 ≤ j ∧ j ≤ vs.length ∧ vs.length ≤ 2 ^ 20 ∧ (∀ b ∈ B, @LT.lt Nat _ b t) ∧ (∀ b ∈ B, ∃ o, (b, o) ∈ ν₂) ∧
      ∀ D oD ν₃, TupO oD (vs.take j.toNat) → (D, oD) ∈ ν₃ → (∀ p ∈ ν₂, p ∈ ν₃) → (∀ b ∈ B, @LT.lt Nat _ b D) → P (.ref D) m₂ ν₃) R) R)
    (hs : ∀ t S : Addr, subscripted (.Slice none (some upper) none p) false (.ref t) (.ref S) = operate [.ref S, .ref t] (getItem (.ref t) (.ref S)) := by intro _ _; with_unfolding_all rfl) : EV c m ν (eval (.Subscript value (.Slice none (some upper) none p) pos) env) P R :=
  ev_ToT (ev_imp h fun v m1 ν1 g => ev_imp g fun i m2 ν2 x => by
    with_reducible refine hide_goal fun _ toG => ?_
    obtain ⟨t, o, vs, j, u, rfl, rfl, hm, ho, h0, h1, h2, ha, hB, hP⟩ := x
    refine toG ?_
    exact ⟨t, o, vs, j, u, j.toNat, rfl, rfl, hm, ho, adj_to h0 h1, h2, fun _ D hD => hP D _ _ tupO_mk (.head _) (fun p hp => .tail _ hp) (fun b hb => let ⟨o, q⟩ := hB b hb; hD _ q), fun e => hP t o ν2 (by rw [e, List.take_length]; exact ho) hm (fun _ h => h) ha⟩) hs
theorem rows_shaped {rs : List Row} (h : ∀ r ∈ rs, r.data.canLay0 = true) : SeqAt.shaped (.list (rs.map Row.data)) = true := by
  have k : (PyData.list (rs.map Row.data)).canLay0 = true := by simp [PyData.canLay0, lays_all rs h]
  have q := deps_all row_deps rs
  unfold SeqAt.shaped
  simp only [k, PyData.depth, Bool.true_and]
  exact decide_eq_true (by omega)
theorem c_law : ∃ (body : List Stmt) (scope : Scope) (qual : Str) (oc : Value) (od : Option Addr) (osl : Array (Option Value)) (name : Str) (params : Arguments) (dV kV doc pm cdv ct : Value) (an : Option Addr),
    ((∀ P : Params, (fr.heap_1 P).lookup 246 = some ⟨oc, od, .func (fnOf name qual params body scope dV kV doc pm an cdv ct), osl⟩) ∧ scope.kind = .function ∧ scope.isGenerator = false ∧ scope.isCoroutine = false) ∧
    ∀ (c : Cx) (o1 o2 o3 : Obj) (sc : Addr) (vs : List Value) (l : List Int) (fa : Addr) (cd : Value), Room c 120 → c.outer = [] → CodeHd c.base 240 238 → @LT.lt Nat _ 238 c.L → c.base.IsList sc vs.toArray → AllV IntV l vs → vs.length ≤ 63 →
      o1.data = .cell none → o2.data = .cell none → o3.data = .cell none →
      EV c (bnd noLoc [("script", .ref sc)]) [(c.L + 3, o3), (c.L + 2, o2), (c.L + 1, o1), (238, tabObj #[])] (execs body (envOfC qual scope c.L fa cd)) (fun f _ ν' => f = .ret (.bool true) ∧ ∃ ps, (238, tabObj ps) ∈ ν') NoX := by
  refine ⟨_, _, _, _, _, _, _, _, _, _, _, _, _, _, _, ⟨by intro P; k_is, rfl, rfl, rfl⟩, ?_⟩
  intro c o1 o2 o3 sc vs l fa cd hr hout C h238 hl1 hI hlen h1 h2 h3
  dsimp only [bnd]
  have cNe : ∀ j k : Nat, j ≠ k → c.L + j ≠ c.L + k := fun j k h e => h (Nat.add_left_cancel e)
  have c238 : ∀ j : Nat, (238 : Addr) ≠ c.L + j := fun j e => Nat.lt_irrefl _ (Nat.lt_of_lt_of_le h238 (e ▸ Nat.le_add_right c.L j))
  refine ev_cons ?_
  refine ev_Assign (h := ?_)
  refine ev_Call (h := ?_)
  refine ev_glob (h := ?_)
  refine ev_cwF_0 (h := ?_)
  refine ev_spl (h := ?_)
  refine ev_local (h := ?_)
  refine ev_spl0 ?_
  refine c_bowl (by walk_at "zroom") hl1 hI hlen fun t o hab ho => ?_
  have n3 : c.L + 3 ≠ t := hab.ne (c.L + 3, o3) (by walk_at "zmem")
  have n2 : c.L + 2 ≠ t := hab.ne (c.L + 2, o2) (by walk_at "zmem")
  have n1 : c.L + 1 ≠ t := hab.ne (c.L + 1, o1) (by walk_at "zmem")
  have n8 : (238 : Addr) ≠ t := hab.ne (238, tabObj #[]) (by walk_at "zmem")
  clear hab
  refine ev_storeCell (ν₁ := [(t, o), (c.L + 3, o3), (c.L + 2, o2), (238, tabObj #[])]) (by with_unfolding_all rfl) h1 (by walk_at "zsub") (ne_cons (Ne.symm n1) (ne_cons (cNe 3 1 (by decide)) (ne_cons (cNe 2 1 (by decide)) (ne_cons (c238 1) ne_nil)))) (fun o1' h1' => ?_) (by rfl) (by with_unfolding_all rfl)
  refine then_next ?_
  refine ev_cons ?_
  refine ev_AssignTup (h := ?_)
  refine ev_Tuple ?_
  refine ev_spl (h := ?_)
  refine ev_BinOp ?_
  refine ev_int (h := fun _ => ?_)
  refine ev_Call (h := ?_)
  refine ev_glob (h := ?_)
  refine ev_cwF_0 (h := ?_)
  refine ev_spl (h := ?_)
  refine ev_cell (h := ?_)
  refine ev_spl (h := ?_)
  refine ev_int (h := fun _ => ?_)
  refine ev_spl0 ?_
  refine c_scoop (ν₁ := [(c.L + 1, o1'), (c.L + 3, o3), (c.L + 2, o2), (238, tabObj #[])]) (by walk_at "zroom") ho (by walk_at "zsub") (ne_cons n1 (ne_cons n3 (ne_cons n2 (ne_cons n8 ne_nil)))) (by decide) fun a ta oA a0 a1 hoA => ?_
  refine ev_add (h := fun _ => ?_)
  refine ev_spl (h := ?_)
  refine ev_BinOp ?_
  refine ev_int (h := fun _ => ?_)
  refine ev_Call (h := ?_)
  refine ev_glob (h := ?_)
  refine ev_cwF_0 (h := ?_)
  refine ev_spl (h := ?_)
  refine ev_cell (h := ?_)
  refine ev_spl (h := ?_)
  refine ev_int (h := fun _ => ?_)
  refine ev_spl0 ?_
  refine c_scoop (ν₁ := [(c.L + 1, o1'), (c.L + 3, o3), (c.L + 2, o2), (238, tabObj #[])]) (by walk_at "zroom") hoA (by walk_at "zsub") (ne_cons n1 (ne_cons n3 (ne_cons n2 (ne_cons n8 ne_nil)))) (by decide) fun b tb oB b0 b1 hoB => ?_
  obtain ⟨sl, hsl⟩ : ∃ sl : Int, 1 + a = sl := ⟨_, rfl⟩
  obtain ⟨n, hn⟩ : ∃ n : Nat, 1 + b = n := ⟨(1 + b).toNat, by omega⟩
  refine ev_add (h := fun _ => ?_)
  refine ev_spl0 ?_
  rw [hsl, hn]
  refine ev_newTuple (fun T hT => ?_) (by simp [sizeLine])
  clear hT
  refine ev_assignT2 (h := ?_)
  refine ev_storeCell (ν₁ := [(t, oB), (c.L + 1, o1'), (c.L + 3, o3), (238, tabObj #[])]) (by with_unfolding_all rfl) h2 (by walk_at "zsub") (ne_cons (Ne.symm n2) (ne_cons (cNe 1 2 (by decide)) (ne_cons (cNe 3 2 (by decide)) (ne_cons (c238 2) ne_nil)))) (fun o2' h2' => ?_) (by rfl) (by with_unfolding_all rfl)
  refine ev_storeCell (ν₁ := [(t, oB), (c.L + 2, o2'), (c.L + 1, o1'), (238, tabObj #[])]) (by with_unfolding_all rfl) h3 (by walk_at "zsub") (ne_cons (Ne.symm n3) (ne_cons (cNe 2 3 (by decide)) (ne_cons (cNe 1 3 (by decide)) (ne_cons (c238 3) ne_nil)))) (fun o3' h3' => ?_) (by rfl) (by with_unfolding_all rfl)
  have hcs : ∀ p ∈ [(c.L + 3, o3'), (c.L + 2, o2'), (c.L + 1, o1'), (238, tabObj #[])], p.1 ≠ t := ne_cons n3 (ne_cons n2 (ne_cons n1 (ne_cons n8 ne_nil)))
  refine ev_sub (ν' := (t, oB) :: [(c.L + 3, o3'), (c.L + 2, o2'), (c.L + 1, o1'), (238, tabObj #[])]) ?_ (by walk_at "zsub")
  refine ev_cons ?_
  refine ev_Assign (h := ?_)
  refine ev_BinOp ?_
  refine' ev_ListComp (cl := [("slots", c.L + 2), ("many", c.L + 3), ("bowl", c.L + 1)]) (Rb := NoX) ?_ outCompNoX ?h1 ?h2 ?h3 ?h4 ?h5
  case h1 => with_unfolding_all rfl
  case h2 => decide
  case h3 => rfl
  case h4 => decide
  case h5 => exact fun _ => rfl
  refine ev_Call (h := ?_)
  refine ev_bltn (h := ?_)
  refine ev_cwT_0 (h := ?_)
  refine ev_spl (h := ?_)
  refine ev_cell (h := ?_)
  refine ev_spl0 ?_
  refine ev_range1 fun r0 t1 t2 hr0 => ?_
  refine ev_iterR (.head _) (Int.natCast_nonneg _) (by omega) fun it oi hit hoi => ?_
  refine ev_compK (yldR (n := n)) (Nat.le_trans (show n ≤ 6 by omega) (by decide)) (fun k acc ν₂ => ∃ o' rs δ, ν₂ = (t, o') :: (δ ++ [(c.L + 3, o3'), (c.L + 2, o2'), (c.L + 1, o1'), (238, tabObj #[])]) ∧ BowlO c.w o' ∧ RowsV δ rs acc ∧ (∀ r ∈ rs, Drawn sl (n + 1) r) ∧ rs.length = k ∧ ∀ p ∈ δ, Above p.1 ((t, oB) :: [(c.L + 3, o3'), (c.L + 2, o2'), (c.L + 1, o1'), (238, tabObj #[])])) (ν₀ := (t, oB) :: [(c.L + 3, o3'), (c.L + 2, o2'), (c.L + 1, o1'), (238, tabObj #[])]) ⟨oi, rfl, by simpa using hoi⟩ (fun p hp => ltN' (hit p (.tail _ hp))) trivial ⟨oB, [], [], rfl, hoB, .nil, (fun _ h => nomatch h), rfl, (fun _ h => nomatch h)⟩ (by walk_at "zsub") (fun a ha => ⟨_, .head _, ha.symm⟩) (fun k b hb p hp => by obtain ⟨oi', rfl, _⟩ := hb; cases hp with | head => rfl | tail _ h => cases h) (fun L q h => trivial) ?_ ?_
  · intro k acc ν₂ v δ2 b3 Ca oC mC D2 oD2 hk hal zp1 hne2 hsr2 zp2 hδ2 hB2 hNs hoD2 hab2 hDC hbCD hneC K1 N1 hK1 hN1
    with_reducible refine hide_goal fun _ toG => ?_
    obtain ⟨o', rs, δ, rfl, ho', hrs, hdr, hrl, hδ⟩ := zp1
    obtain ⟨⟨tk, rfl⟩, rfl⟩ := zp2
    obtain ⟨oi2, rfl, hoi2⟩ := hB2
    refine toG ?_
    refine ev_assignName ?_
    refine ev_storeC (hν := fun _ h => h) (h := fun _ _ => ?_)
    refine ev_tests0 ?_
    refine ite_T ?_
    refine ev_Call (h := ?_)
    refine ev_glob (h := ?_)
    refine ev_cwF_0 (h := ?_)
    refine ev_spl (h := ?_)
    refine ev_cell (h := ?_)
    refine ev_spl (h := ?_)
    refine ev_cell (h := ?_)
    refine ev_spl (h := ?_)
    refine ev_BinOp ?_
    refine ev_cell (h := ?_)
    refine ev_int (h := fun _ => ?_)
    refine ev_add (h := fun _ => ?_)
    refine ev_spl0 ?_
    rename_i oC2 hNo _ _
    have hδt : ∀ p ∈ δ, p.1 ≠ t := fun p hp => gtN (hδ p hp (t, oB) (.head _))
    refine c_law_row (ν₁ := (Ca, oC2) :: (D2, oD2) :: (it, oi2) :: (δ ++ [(c.L + 3, o3'), (c.L + 2, o2'), (c.L + 1, o1'), (238, tabObj #[])])) (by walk_at "zroom") ho' (by walk_at "zsub") (ne_cons (gtN (Nat.lt_trans (hab2 _ (.head _)) hDC)) (ne_cons (gtN (hab2 _ (.head _))) (ne_cons (gtN (hit _ (.tail _ (.head _)))) (ne_app hδt hcs)))) (by omega) (by omega) fun v r o2 δ' hr1 ho2 hrv hδ' => ?_
    refine' hK1 (ν'' := (t, o2) :: ((δ' ++ δ) ++ [(c.L + 3, o3'), (c.L + 2, o2'), (c.L + 1, o1'), (238, tabObj #[])])) ?sub hNo (fun p hp => ?_) trivial ⟨o2, rs ++ [r], δ' ++ δ, rfl, ho2, (hrs.mono fun _ _ y => y.mono (KeepT.of fun p hp => List.mem_append_right _ hp)).snoc (hrv.mono (KeepT.of fun p hp => List.mem_append_left _ hp)), fun r' hr' => ?_, by rw [List.length_append, hrl]; rfl, fun p hp q hq => ?_⟩
    case sub => walk_at "zsub"
    · rcases List.mem_cons.mp hp with rfl | hp
      · exact hne2 (t, o') (.head _)
      · rcases List.mem_append.mp hp with hp | hp
        · rcases List.mem_append.mp hp with hp | hp
          · exact ⟨gtN (hδ' p hp (it, oi2) (by walk_at "zmem")), gtN (hδ' p hp (Ca, oC2) (by walk_at "zmem")), gtN (hδ' p hp (D2, oD2) (by walk_at "zmem"))⟩
          · exact hne2 p (.tail _ (List.mem_append_left _ hp))
        · exact hne2 p (.tail _ (List.mem_append_right _ hp))
    · rcases List.mem_append.mp hr' with hr' | hr'
      · exact hdr r' hr'
      · rw [List.mem_singleton] at hr'
        subst hr'
        exact hr1
    · rcases List.mem_append.mp hp with hp | hp
      · rcases List.mem_cons.mp hq with rfl | hq
        · exact hδ' p hp (t, o') (.head _)
        · exact hδ' p hp q (by walk_at "zmem")
      · exact hδ p hp q hq
  rintro D oD acc ν₂ hal ⟨o', rs, δ, rfl, ho', hrs, hdr, hrl, hδ⟩ hoD hab2 hne2 hsr2
  refine ev_List ?_
  refine ev_spl (h := ?_)
  refine ev_Tuple ?_
  refine ev_spl (h := ?_)
  refine ev_str (h := fun _ => ?_)
  refine ev_spl (h := ?_)
  refine ev_int (h := fun _ => ?_)
  refine ev_spl0 ?_
  refine ev_newTuple (h := fun _ _ => ?_)
  refine ev_spl0 ?_
  refine ev_newList (h := fun _ _ => ?_)
  rename_i u1 u2 R0 hR0 L0 hL0
  refine ev_addL (a := D) (b := L0) (by walk_at "zmem") hoD (.head _) lstO_mk (Nat.le_trans (show acc.length + 1 ≤ 7 by omega) (by decide)) fun l1 ol1 hl1' hol1 => ?_
  obtain ⟨S, hS⟩ : ∃ S : Led, S = (R0, tupO [.str "return" u1, .int 0 u2]) :: δ := ⟨_, rfl⟩
  have hrs1 : RowsV S (rs ++ [retRow]) (acc ++ [.ref R0]) := by
    rw [hS]
    exact (hrs.mono fun _ _ y => y.mono (KeepT.of fun p hp => .tail _ hp)).snoc (row_mk (.head _) tupO_mk (.cons pv_s .nil))
  have hdr1 : ∀ r ∈ rs ++ [retRow], Drawn sl (n + 1) r := fun r hr => (List.mem_append.mp hr).elim (hdr r) fun h => by
    rw [List.mem_singleton] at h
    subst h
    exact ret_drawn (by omega) (by omega)
  have hSa : ∀ p ∈ S, Above p.1 ((t, oB) :: [(c.L + 3, o3'), (c.L + 2, o2'), (c.L + 1, o1'), (238, tabObj #[])]) := by
    rw [hS]
    exact allc' (fun q hq => by
      rcases List.mem_cons.mp hq with rfl | hq
      · exact hR0 (t, o') (by walk_at "zmem")
      · exact hR0 q (by walk_at "zmem")) hδ
  have hl1a : Above l1 ((t, oB) :: [(c.L + 3, o3'), (c.L + 2, o2'), (c.L + 1, o1'), (238, tabObj #[])]) := fun q hq => by
    rcases List.mem_cons.mp hq with rfl | hq
    · exact hl1' (t, o') (by walk_at "zmem")
    · exact hl1' q (by walk_at "zmem")
  refine ev_sub (ν' := (t, o') :: (l1, ol1) :: (S ++ [(c.L + 3, o3'), (c.L + 2, o2'), (c.L + 1, o1'), (238, tabObj #[])])) ?_ (by rw [hS]; walk_at "zsub")
  have hln : (rs ++ [retRow]).length = n + 1 := by rw [List.length_append, hrl]; rfl
  have hvn : (acc ++ [Value.ref R0]).length = n + 1 := by rw [hrs1.length, hln]
  generalize rs ++ [retRow] = rs at hrs1 hdr1 hln
  generalize acc ++ [Value.ref R0] = acc at hrs1 hol1 hvn
  have hSt : ∀ p ∈ (l1, ol1) :: (S ++ [(c.L + 3, o3'), (c.L + 2, o2'), (c.L + 1, o1'), (238, tabObj #[])]), p.1 ≠ t := ne_cons (gtN (hl1a _ (.head _))) (ne_app (fun p hp => gtN (hSa p hp _ (.head _))) hcs)
  clear hS hrs hdr hδ hR0 hL0 hl1' hoD hab2 hne2 hsr2 hal hrl hr0 hit hoi
  refine ev_store (h := ?_)
  refine then_next ?_
  refine ev_cons (ev_imp (P := fun f m' ν' => f = .next ∧ ∃ l2 ol2 rs2 vs2 o2, m' "rows" = some (.ref l2) ∧ LstO ol2 vs2 ∧ (∀ p ∈ (l2, ol2) :: (t, o2) :: (S ++ [(c.L + 3, o3'), (c.L + 2, o2'), (c.L + 1, o1'), (238, tabObj #[])]), p ∈ ν') ∧ BowlO c.w o2 ∧ RowsV S rs2 vs2 ∧ (∀ r ∈ rs2, Drawn sl (n + 1) r) ∧ 0 < rs2.length ∧ rs2.length ≤ 7 ∧ Above l2 ((t, oB) :: [(c.L + 3, o3'), (c.L + 2, o2'), (c.L + 1, o1'), (238, tabObj #[])])) ?_ ?_)
  · refine ev_If ?_
    refine ev_isCompare (h := ?_)
    refine ev_Call (h := ?_)
    refine ev_glob (h := ?_)
    refine ev_cwF_0 (h := ?_)
    refine ev_spl (h := ?_)
    refine ev_cell (h := ?_)
    refine ev_spl (h := ?_)
    refine ev_int (h := fun _ => ?_)
    refine ev_spl0 ?_
    refine c_scoop (ν₁ := (l1, ol1) :: (S ++ [(c.L + 3, o3'), (c.L + 2, o2'), (c.L + 1, o1'), (238, tabObj #[])])) (by walk_at "zroom") ho' (by walk_at "zsub") hSt (by decide) fun r1 k1 o2 _ _ ho2 => ?_
    refine ev_int (h := fun _ => ?_)
    refine ev_eq ?_
    refine ev_truthyB ?_
    refine ite_B (fun hb => ?_) fun hb => ?_
    · refine ev_cons ?_
      refine ev_Assign (h := ?_)
      refine ev_ToL (h := ?_)
      refine ev_local (h := ?_)
      refine ev_UnaryOp ?_
      refine ev_int (h := fun _ => ?_)
      refine ev_neg (h := fun _ => ?_)
      refine ⟨l1, ol1, acc, _, _, rfl, rfl, by walk_at "zmem", hol1, by omega, fun D2 hD2 => ?_⟩
      rw [pick_butLast]
      refine ev_store (h := ?_)
      refine then_next ?_
      refine ev_nil ?_
      refine ⟨rfl, D2, _, rs.dropLast, acc.dropLast, o2, upd_self, lstO_mk, by walk_at "zsub", ho2, hrs1.dropLast, fun r hr => hdr1 r (List.dropLast_subset _ hr), by rw [List.length_dropLast]; omega, by rw [List.length_dropLast]; omega, fun q hq => ?_⟩
      rcases List.mem_cons.mp hq with rfl | hq
      · exact hD2 (t, o2) (by walk_at "zmem")
      · exact hD2 q (by walk_at "zmem")
    · refine ev_nil ?_
      exact ⟨rfl, l1, ol1, rs, acc, o2, by walk_at "zlk", hol1, by walk_at "zsub", ho2, hrs1, hdr1, by omega, by omega, hl1a⟩
  rintro f m' ν' ⟨rfl, l2, ol2, rs2, vs2, o2, hmr, hol2, hsub, ho2, hrs2, hdr2, hlen0, hlen7, hl2a⟩
  refine then_next (ev_sub ?_ hsub)
  clear hsub hol1 hrs1 hdr1 hl1a hvn hln ho'
  have hSt2 : ∀ p ∈ (l2, ol2) :: (S ++ [(c.L + 3, o3'), (c.L + 2, o2'), (c.L + 1, o1'), (238, tabObj #[])]), p.1 ≠ t := ne_cons (gtN (hl2a _ (.head _))) (ne_app (fun p hp => gtN (hSa p hp _ (.head _))) hcs)
  have hvl := hrs2.length
  refine ev_cons ?_
  refine ev_Assign (h := ?_)
  refine ev_BinOp ?_
  refine ev_int (h := fun _ => ?_)
  refine ev_Call (h := ?_)
  refine ev_glob (h := ?_)
  refine ev_cwF_0 (h := ?_)
  refine ev_spl (h := ?_)
  refine ev_cell (h := ?_)
  refine ev_spl (h := ?_)
  refine ev_BinOp ?_
  refine ev_cell (h := ?_)
  refine ev_Call (h := ?_)
  refine ev_bltn (h := ?_)
  refine ev_cwT_0 (h := ?_)
  refine ev_spl (h := ?_)
  refine ev_Compare (h := ?_)
  refine ev_Call (h := ?_)
  refine ev_glob (h := ?_)
  refine ev_cwF_0 (h := ?_)
  refine ev_spl (h := ?_)
  refine ev_cell (h := ?_)
  refine ev_spl (h := ?_)
  refine ev_int (h := fun _ => ?_)
  refine ev_spl0 ?_
  refine c_scoop (ν₁ := (l2, ol2) :: (S ++ [(c.L + 3, o3'), (c.L + 2, o2'), (c.L + 1, o1'), (238, tabObj #[])])) (by walk_at "zroom") ho2 (by walk_at "zsub") hSt2 (by decide) fun r2 k2 o4 _ _ ho4 => ?_
  refine ev_int (h := fun _ => ?_)
  refine ev_eq ?_
  refine ev_spl0 ?_
  refine ev_intB fun _ => ?_
  refine ev_add (h := fun _ => ?_)
  refine ev_spl0 ?_
  refine c_scoop (ν₁ := (l2, ol2) :: (S ++ [(c.L + 3, o3'), (c.L + 2, o2'), (c.L + 1, o1'), (238, tabObj #[])])) (by walk_at "zroom") ho4 (by walk_at "zsub") hSt2 (by split <;> omega) fun r3 k3 o5 h30 h31 ho5 => ?_
  have hBA : BA [238, t] := trivial
  refine ev_add (h := fun _ => ?_)
  refine ev_store (h := ?_)
  refine then_next ?_
  refine ev_cons ?_
  refine ev_Assign (h := ?_)
  refine ev_Call (h := ?_)
  refine ev_glob (h := ?_)
  refine ev_cwF_0 (h := ?_)
  refine ev_spl (h := ?_)
  refine ev_str (h := fun _ => ?_)
  refine ev_spl (h := ?_)
  refine ev_local (h := ?_)
  refine ev_spl (h := ?_)
  refine ev_cell (h := ?_)
  refine ev_spl (h := ?_)
  refine ev_local (h := ?_)
  refine ev_spl (h := ?_)
  refine ev_ToTj (by assumption) (h := ?_)
  refine ev_Tuple ?_
  refine ev_spl (h := ?_)
  refine ev_str (h := fun _ => ?_)
  refine ev_spl (h := ?_)
  refine ev_str (h := fun _ => ?_)
  refine ev_spl0 ?_
  refine ev_newTuple (h := fun _ _ => ?_)
  refine ev_BinOp ?_
  refine ev_int (h := fun _ => ?_)
  refine ev_Call (h := ?_)
  refine ev_glob (h := ?_)
  refine ev_cwF_0 (h := ?_)
  refine ev_spl (h := ?_)
  refine ev_cell (h := ?_)
  refine ev_spl (h := ?_)
  refine ev_int (h := fun _ => ?_)
  refine ev_spl0 ?_
  rename_i w1 w2 T1 hT1 _ _
  refine c_scoop (ν₁ := (T1, tupO [.str "T.1" w1, .str "T.2" w2]) :: (l2, ol2) :: (S ++ [(c.L + 3, o3'), (c.L + 2, o2'), (c.L + 1, o1'), (238, tabObj #[])])) (by walk_at "zroom") ho5 (by walk_at "zsub") (ne_cons (gtN (hT1 _ (.head _))) hSt2) (by decide) fun r4 k4 o6 h40 h41 ho6 => ?_
  refine ev_add (h := fun _ => ?_)
  refine ⟨T1, _, _, _, _, rfl, rfl, by walk_at "zmem", tupO_mk, by omega, by simp only [List.length_cons, List.length_nil]; omega, Nat.le_of_ble_eq_true rfl, allc' (hT1 (238, tabObj #[]) (by walk_at "zmem")) (allc' (hT1 (t, o5) (.head _)) alln'), allc' ⟨_, by walk_at "zmem"⟩ (allc' ⟨_, .head _⟩ alln'), fun st ost ν3 host hst hs3 hsta => ?_⟩
  refine ev_sub (ν' := (t, o6) :: (st, ost) :: (l2, ol2) :: (S ++ [(c.L + 3, o3'), (c.L + 2, o2'), (c.L + 1, o1'), (238, tabObj #[])])) ?_ (sub_cons (hs3 _ (by walk_at "zmem")) (sub_cons hst fun p hp => hs3 p (by walk_at "zmem")))
  obtain ⟨sts, hsts⟩ : ∃ sts, StrsAre ([Value.str "T.1" w1, .str "T.2" w2].take (1 + r4).toNat) sts := by
    obtain rfl | rfl : r4 = 0 ∨ r4 = 1 := by omega
    · exact ⟨["T.1"], .cons _ _ .nil⟩
    · exact ⟨["T.1", "T.2"], .cons _ _ (.cons _ _ .nil)⟩
  have hst8 : @LT.lt Nat _ 238 st := hsta 238 (.head _)
  have hstt : st ≠ t := gtN (hsta t (.tail _ (.head _)))
  clear hs3 hst hT1 hsta
  refine ev_spl (h := ?_)
  refine ev_ToTj (by assumption) (h := ?_)
  refine ev_Tuple ?_
  refine ev_spl (h := ?_)
  refine ev_str (h := fun _ => ?_)
  refine ev_spl (h := ?_)
  refine ev_str (h := fun _ => ?_)
  refine ev_spl0 ?_
  refine ev_newTuple (h := fun _ _ => ?_)
  refine ev_BinOp ?_
  refine ev_int (h := fun _ => ?_)
  refine ev_Call (h := ?_)
  refine ev_glob (h := ?_)
  refine ev_cwF_0 (h := ?_)
  refine ev_spl (h := ?_)
  refine ev_cell (h := ?_)
  refine ev_spl (h := ?_)
  refine ev_int (h := fun _ => ?_)
  refine ev_spl0 ?_
  rename_i w3 w4 T2 hT2 _ _
  refine c_scoop (ν₁ := (T2, tupO [.str "x" w3, .str "y" w4]) :: (st, ost) :: (l2, ol2) :: (S ++ [(c.L + 3, o3'), (c.L + 2, o2'), (c.L + 1, o1'), (238, tabObj #[])])) (by walk_at "zroom") ho6 (by walk_at "zsub") (ne_cons (gtN (hT2 _ (.head _))) (ne_cons hstt hSt2)) (by decide) fun r5 k5 o7 h50 h51 ho7 => ?_
  refine ev_add (h := fun _ => ?_)
  refine ⟨T2, _, _, _, _, rfl, rfl, by walk_at "zmem", tupO_mk, by omega, by simp only [List.length_cons, List.length_nil]; omega, Nat.le_of_ble_eq_true rfl, allc' (hT2 (238, tabObj #[]) (by walk_at "zmem")) (allc' (hT2 (t, o6) (.head _)) alln'), allc' ⟨_, by walk_at "zmem"⟩ (allc' ⟨_, .head _⟩ alln'), fun cp ocp ν3 hocp hcp hs3 hcpa => ?_⟩
  refine ev_sub (ν' := (cp, ocp) :: (st, ost) :: (l2, ol2) :: (S ++ [(c.L + 3, o3'), (c.L + 2, o2'), (c.L + 1, o1'), (238, tabObj #[])])) ?_ (sub_cons hcp fun p hp => hs3 p (by walk_at "zmem"))
  have hcp8 : @LT.lt Nat _ 238 cp := hcpa 238 (.head _)
  clear hs3 hcp hT2 hcpa hBA
  refine ev_spl0 ?_
  refine c_Code6 (by walk_at "zroom") (by walk_at "zmem") hol2 (by omega) (by walk_at "zmem") host (.head _) hocp fun x rt δ2 hδ2 hrt hin hat => ?_
  obtain ⟨S2, nc, code1, hS2, hS8, hnc⟩ : ∃ (S2 : Led) (nc : Nat), CodeIs S2 x "f" (1 + r3) sl rt st cp 67 sts nc rs2 vs2 ∧ (∀ p ∈ S2, p ∈ δ2 ++ ((cp, ocp) :: (st, ost) :: (l2, ol2) :: (S ++ [(c.L + 3, o3'), (c.L + 2, o2'), (c.L + 1, o1'), (238, tabObj #[])]))) ∧ (∀ p ∈ S2, p.1 ≠ 238) ∧ nc < 1000 :=
    ⟨δ2 ++ ((cp, ocp) :: (st, ost) :: S), _, ⟨hat.mono (by walk_at "zbase"), ⟨_, List.mem_append_left _ hin, tupO_mk⟩, hrs2.mono fun _ _ y => y.mono (KeepT.of (by walk_at "zbase")), ⟨ost, _, by walk_at "zmem", host, hsts⟩, ⟨ocp, _, by walk_at "zmem", hocp, rfl⟩⟩, by walk_at "zsub",
      ne_app (fun p hp => gtN (hδ2 p hp (238, tabObj #[]) (by walk_at "zmem"))) (ne_cons (gtN hcp8) (ne_cons (gtN hst8) fun p hp => gtN (hSa p hp (238, tabObj #[]) (by walk_at "zmem")))), by rw [List.length_take]; exact Nat.lt_of_le_of_lt (Nat.min_le_right _ _) (by simp)⟩
  have hl28 : l2 ≠ 238 := gtN (hl2a (238, tabObj #[]) (by walk_at "zmem"))
  have hrs3 := code1.each
  have har : 1 ≤ 1 + r3 := by omega
  have har2 : (1 + r3).natAbs ≤ 1900 := by split at h31 <;> omega
  have hsl2 : sl.natAbs ≤ 1900 := by omega
  have hslb : sl ≤ 10 := by omega
  have hnb : (n : Int) + 1 ≤ 10 := by omega
  refine ev_sub (ν' := (238, tabObj #[]) :: (l2, ol2) :: S2) ?_ (sub_cons (by walk_at "zmem") (sub_cons (by walk_at "zmem") hS2))
  clear hδ2 hrt hin hat hS2 hst8 hcp8 host hocp hsts hSa hl2a hrs2 h1' h2' h3' hcs hSt hSt2 ho7 ho6 ho5 ho4 ho2
  refine ev_store (h := ?_)
  refine then_next ?_
  refine ev_locals fun m7 hm7 => ?_
  have q1 : m7 "rows" = some (.ref l2) := by rw [hm7]; walk_at "zlk"
  have q2 : m7 "code" = some (.ref x) := by rw [hm7]; walk_at "zlk"
  clear hm7 hmr
  refine ev_cons (ev_imp (P := fun f m' ν' => f = .next ∧ m' = m7 ∧ ∃ ps, ∀ p ∈ (238, tabObj ps) :: (l2, ol2) :: S2, p ∈ ν') ?_ ?_)
  · refine ev_If ?_
    refine ev_isCompare (h := ?_)
    refine' ev_ListComp (cl := []) (Rb := NoX) ?_ outCompNoX ?h1 ?h2 ?h3 ?h4 ?h5
    case h1 => with_unfolding_all rfl
    case h2 => decide
    case h3 => rfl
    case h4 => decide
    case h5 => exact fun _ => rfl
    refine ev_local (h := ?_)
    refine ev_iterL (by walk_at "zmem") hol2 fun it1 oj hit hoj => ?_
    refine ev_compK (yldL hol2) (Nat.le_trans (show vs2.length ≤ 7 by omega) (by decide)) (fun k acc ν₂ => acc = [] ∧ ∃ ps δ, ν₂ = (238, tabObj ps) :: (δ ++ ((l2, ol2) :: S2)) ∧ TabOk rowQ ps δ ∧ ∀ p ∈ δ, p.1 ≠ 238) (ν₀ := (238, tabObj #[]) :: (l2, ol2) :: S2) ⟨oj, rfl, hoj⟩ (fun p hp => ltN' (hit p hp)) (by walk_at "zmem") ⟨rfl, #[], [], rfl, ⟨trivial, fun _ => .inl rfl⟩, ne_nil⟩ (by walk_at "zsub") (fun a ha => ⟨_, .head _, ha.symm⟩) (fun k b hb p hp => by obtain ⟨oi', rfl, _⟩ := hb; cases hp with | head => rfl | tail _ h => cases h) (fun L q h => .tail _ h) ?_ ?_
    · intro k acc ν₂ v δ0 b3 Ca oC mC D2 oD2 hk hal zp3 hne2 hsr2 zp4 hδ0 hB2 hNs hoD2 hab2 hDC hbCD hneC K2 N2 hK2 hN2
      with_reducible refine hide_goal fun _ toG => ?_
      obtain ⟨rfl, ps, δ, rfl, hT, hδ⟩ := zp3
      obtain ⟨hv, rfl⟩ := zp4
      obtain ⟨oj2, rfl, hoj2⟩ := hB2
      obtain ⟨r, hrk, hrv⟩ := hrs3.at hv
      refine toG ?_
      have hD8 : D2 ≠ 238 := gtN (hab2 (238, tabObj #[]) (.head _))
      have hC8 : Ca ≠ 238 := gtN (Nat.lt_trans (hab2 (238, tabObj #[]) (.head _)) hDC)
      have hi8 : it1 ≠ 238 := gtN (hit (238, tabObj #[]) (.head _))
      have hrd := hdr2 r (List.mem_of_getElem? hrk)
      refine ev_assignName ?_
      refine ev_storeC (hν := fun _ h => h) (h := fun _ _ => ?_)
      refine ev_tests1 ?_
      refine ev_isNot ?_
      refine ev_isPlain (h := ?_)
      refine ev_Call (h := ?_)
      refine ev_glob (h := ?_)
      refine ev_cwF_0 (h := ?_)
      refine ev_spl (h := ?_)
      refine ev_localC (h := ?_)
      refine ev_spl0 ?_
      rename_i oC2 hNo
      rcases drawn_fine hrd with hf | hodd
      · refine c_row_right (core := δ) (ν₁ := (Ca, oC2) :: (D2, oD2) :: (it1, oj2) :: (δ ++ ((l2, ol2) :: S2))) (by walk_at "zroom") C (by walk_at "zsub") (ne_cons hC8 (ne_cons hD8 (ne_cons hi8 (ne_app hδ (ne_cons hl28 hS8))))) (by walk_at "zbase") hT (hrv.mono (KeepT.of (by walk_at "zbase"))) hf (drawn_lay hrd hslb hnb) fun ps' δ' hT' hδ' => ?_
        refine ev_truthyB ?_
        refine ite_isF rfl ?_
        refine hN2 (ν'' := (238, tabObj ps') :: ((δ' ++ δ) ++ ((l2, ol2) :: S2))) (by walk_at "zsub") hNo (fun p hp => ?_) (by walk_at "zmem") ⟨rfl, ps', δ' ++ δ, rfl, hT', ne_app (fun p hp => gtN (hδ' p hp (238, tabObj ps) (.head _))) hδ⟩
        rcases List.mem_cons.mp hp with rfl | hp
        · exact hne2 (238, tabObj ps) (.head _)
        · rcases List.mem_append.mp hp with hp | hp
          · rcases List.mem_append.mp hp with hp | hp
            · exact ⟨gtN (hδ' p hp (it1, oj2) (by walk_at "zmem")), gtN (hδ' p hp (Ca, oC2) (by walk_at "zmem")), gtN (hδ' p hp (D2, oD2) (by walk_at "zmem"))⟩
            · exact hne2 p (.tail _ (List.mem_append_left _ hp))
          · exact hne2 p (.tail _ (List.mem_append_right _ hp))
      · refine c_row_right_odd hout (by walk_at "zroom") (hrv.mono (KeepT.of (by walk_at "zbase"))) hodd ?_
        refine ev_truthyB ?_
        refine ite_isF rfl ?_
        exact hN2 (ν'' := (238, tabObj ps) :: (δ ++ ((l2, ol2) :: S2))) (by walk_at "zsub") hNo hne2 (by walk_at "zmem") ⟨rfl, ps, δ, rfl, hT, hδ⟩
    rintro D9 oD9 acc9 ν₂ hal ⟨rfl, ps, δ, rfl, hT, hδ⟩ hoD9 hab9 hne9 hsr9
    refine ev_List ?_
    refine ev_spl0 ?_
    refine ev_newList (h := fun _ _ => ?_)
    refine ev_neD (da := .list []) (db := .list []) (via_lst (by walk_at "zmem") hoD9 .nil) (via_lst (.head _) lstO_mk .nil) rfl rfl (by walk_at "zroom") ?_
    rw [show PyData.eqv (.list []) (.list []) = true from rfl]
    refine ev_truthyB ?_
    refine ite_isF rfl ?_
    refine ev_nil ?_
    exact ⟨rfl, rfl, ps, by walk_at "zsub"⟩
  rintro f m8 ν8 ⟨rfl, rfl, ps, hsub⟩
  refine then_next (ev_sub (ν' := (238, tabObj ps) :: (l2, ol2) :: S2) ?_ hsub)
  clear hsub
  refine ev_consC True (fun _ hc => ?_) fun _ => ?_
  · refine ev_If ?_
    refine ev_isCompare (h := ?_)
    refine ev_Compare (h := ?_)
    refine ev_Call (h := ?_)
    refine ev_glob (h := ?_)
    refine ev_cwF_0 (h := ?_)
    refine ev_spl (h := ?_)
    refine ev_local (h := ?_)
    refine ev_spl0 ?_
    refine c_law_checked hout (by walk_at "zroom") (code1.mono (by walk_at "zbase")) har hlen0 (by omega) hnc (fun r hr => drawn_fine (hdr2 r hr)) (fun ok => ?_) fun no => ?_
    · refine ev_local (h := ?_)
      refine ev_isSelf ?_
      refine ev_Call (h := ?_)
      refine ev_glob (h := ?_)
      refine ev_cwF_0 (h := ?_)
      refine ev_spl (h := ?_)
      refine ev_local (h := ?_)
      refine ev_spl0 ?_
      refine c_is_right (by walk_at "zroom") (code1.mono (by walk_at "zbase")) har hlen0 hlen7 hnc (fun r hr => drawn_fine (hdr2 r hr)) fun b hb => ?_
      rw [hb.mpr ok]
      refine ev_neB ?_
      refine ev_truthyB ?_
      refine ite_isF rfl ?_
      refine ev_nil ?_
      exact hc trivial
    · refine ev_local (h := ?_)
      refine ev_isNoneRef ?_
      refine ev_Call (h := ?_)
      refine ev_glob (h := ?_)
      refine ev_cwF_0 (h := ?_)
      refine ev_spl (h := ?_)
      refine ev_local (h := ?_)
      refine ev_spl0 ?_
      refine c_is_right (by walk_at "zroom") (code1.mono (by walk_at "zbase")) har hlen0 hlen7 hnc (fun r hr => drawn_fine (hdr2 r hr)) fun b hb => ?_
      rw [show b = false from by cases b; rfl; exact absurd (hb.mp rfl) no]
      refine ev_neB ?_
      refine ev_truthyB ?_
      refine ite_isF rfl ?_
      refine ev_nil ?_
      exact hc trivial
  refine ev_cons ?_
  refine ev_Return ?_
  refine ev_BoolOr ?_
  refine ev_Compare (h := ?_)
  refine' ev_ListComp (cl := []) (Rb := NoX) ?_ outCompNoX ?h1 ?h2 ?h3 ?h4 ?h5
  case h1 => with_unfolding_all rfl
  case h2 => decide
  case h3 => rfl
  case h4 => decide
  case h5 => exact fun _ => rfl
  refine ev_local (h := ?_)
  refine ev_iterL (by walk_at "zmem") hol2 fun it1 oj hit hoj => ?_
  refine ev_compK (yldL hol2) (Nat.le_trans (show vs2.length ≤ 7 by omega) (by decide)) (fun k acc ν₂ => ν₂ = (238, tabObj ps) :: (l2, ol2) :: S2 ∧ ∃ os, RowsV S2 os acc ∧ (∀ r ∈ os, r.data.canLay0 = true) ∧ (os = [] → ∀ r ∈ rs2.take k, Fine r)) (ν₀ := (238, tabObj ps) :: (l2, ol2) :: S2) ⟨oj, rfl, hoj⟩ (fun p hp => ltN' (hit p hp)) (by walk_at "zmem") ⟨rfl, [], .nil, alln', fun _ => alln'⟩ (by walk_at "zsub") (fun a ha => ⟨_, .head _, ha.symm⟩) (fun k b hb p hp => by obtain ⟨oi', rfl, _⟩ := hb; cases hp with | head => rfl | tail _ h => cases h) (fun L q h => .tail _ h) ?_ ?_
  · intro k acc ν₂ v δ0 b3 Ca oC mC D2 oD2 hk hal zp5 hne2 hsr2 zp6 hδ0 hB2 hNs hoD2 hab2 hDC hbCD hneC K3 N3 hK3 hN3
    with_reducible refine hide_goal fun _ toG => ?_
    obtain ⟨rfl, os, hos, hlay, hfine⟩ := zp5
    obtain ⟨hv, rfl⟩ := zp6
    obtain ⟨oj2, rfl, hoj2⟩ := hB2
    obtain ⟨r, hrk, hrv⟩ := hrs3.at hv
    refine toG ?_
    have hrd := hdr2 r (List.mem_of_getElem? hrk)
    refine ev_assignName ?_
    refine ev_storeC (hν := fun _ h => h) (h := fun _ _ => ?_)
    refine ev_tests1 ?_
    refine ev_isCompare (h := ?_)
    refine ev_Call (h := ?_)
    refine ev_glob (h := ?_)
    refine ev_cwF_0 (h := ?_)
    refine ev_spl (h := ?_)
    refine ev_localC (h := ?_)
    refine ev_spl0 ?_
    rename_i oC2 hNo
    rcases drawn_fine hrd with hf | hodd
    · refine c_law_parts (by walk_at "zroom") (hrv.mono (KeepT.of (by walk_at "zbase"))) hf.shaped hf.many fun T S1 S3 sv oo1 oo2 us gs hsv ho1 ho2 hus hgs a1 a2 a3 => ?_
      refine ev_none ?_
      refine ev_isNone ?_
      refine ev_truthyB ?_
      refine ite_isF (b := (Value.ref T == Value.none)) rfl ?_
      refine hN3 (ν'' := (238, tabObj ps) :: (l2, ol2) :: S2) (by walk_at "zsub") hNo hne2 (by walk_at "zmem") ⟨rfl, os, hos, hlay, fun e r' hr' => ?_⟩
      rw [List.take_add_one, hrk] at hr'
      rcases List.mem_append.mp hr' with hr' | hr'
      · exact hfine e r' hr'
      · rw [Option.toList_some, List.mem_singleton] at hr'
        subst hr'
        exact hf
    · refine c_law_parts_odd (by walk_at "zroom") (hrv.mono (KeepT.of (by walk_at "zbase"))) hodd ?_
      refine ev_none ?_
      refine ev_isNone ?_
      refine ev_truthyB ?_
      refine ite_isT vn_none ?_
      refine ev_localC (h := ?_)
      refine hK3 (ν'' := (238, tabObj ps) :: (l2, ol2) :: S2) (by walk_at "zsub") hNo hne2 (by walk_at "zmem") ⟨rfl, os ++ [r], hos.snoc hrv, fun r' hr' => ?_, fun e => absurd e (by simp)⟩
      rcases List.mem_append.mp hr' with hr' | hr'
      · exact hlay r' hr'
      · rw [List.mem_singleton] at hr'
        subst hr'
        exact drawn_lay hrd hslb hnb
  rintro D9 oD9 acc9 ν₂ hal ⟨rfl, os, hos, hlay, hfine⟩ hoD9 hab9 hne9 hsr9
  rw [hvl, List.take_length] at hfine
  refine ev_List ?_
  refine ev_spl0 ?_
  refine ev_newList (h := fun _ _ => ?_)
  refine ev_neD (da := .list (os.map Row.data)) (db := .list []) (via_lst (by walk_at "zmem") hoD9 (via_all via_row (hos.mono fun _ _ y => y.mono (KeepT.of (by walk_at "zbase"))))) (via_lst (.head _) lstO_mk .nil) (rows_shaped hlay) rfl (by walk_at "zroom") ?_
  refine ev_truthyB ?_
  by_cases he : os = []
  · subst he
    refine ite_isF rfl ?_
    have hf := hfine rfl
    refine ev_Compare (h := ?_)
    refine ev_CallM (h := ?_)
    refine ev_Call (h := ?_)
    refine ev_glob (h := ?_)
    refine ev_cwF_0 (h := ?_)
    refine ev_spl (h := ?_)
    refine ev_local (h := ?_)
    refine ev_spl0 ?_
    refine c_code_text (by walk_at "zroom") (code1.mono (by walk_at "zbase")) (by omega) ⟨by unfold NoNL; decide, by decide⟩ har2 hsl2 (fun r hr => drawn_txt (hdr2 r hr) hslb hnb (hf r hr)) fun X head Xs t hX hnl hXl _ _ => ?_
    refine ev_getCount ?_
    refine ev_cwB_1 (h := ?_)
    refine ev_spl (h := ?_)
    refine ev_Call (h := ?_)
    refine ev_bltn (h := ?_)
    refine ev_cwB_0 (h := ?_)
    refine ev_spl (h := ?_)
    refine ev_int (h := fun _ => ?_)
    refine ev_spl0 ?_
    refine ev_chr (by decide) (by decide) fun _ => ?_
    refine ev_spl0 ?_
    refine ev_count fun _ => ?_
    refine ev_Call (h := ?_)
    refine ev_bltn (h := ?_)
    refine ev_cwB_0 (h := ?_)
    refine ev_spl (h := ?_)
    refine ev_local (h := ?_)
    refine ev_spl0 ?_
    refine ev_lenL (h := fun _ => ?_)
    refine ev_eq ?_
    refine then_ret ?_
    rw [hX, show Txt.count (Str.join "\n" (head :: Xs)) ⟨#[(10 : Int).toNat]⟩ = (Xs.length : Int) from count_join head Xs hnl, hXl, ← hvl]
    exact ⟨by rw [beq_self_eq_true], ps, by walk_at "zmem"⟩
  · rw [rows_ne he]
    refine ite_isT rfl ?_
    exact ⟨rfl, ps, by walk_at "zmem"⟩

theorem c_law2 {P : Params} {body : List Stmt} {scope : Scope} {qual : Str} {oc : Value} {od : Option Addr} {osl : Array (Option Value)} {name : Str} {params : Arguments} {dV kV doc pm cdv ct : Value} {an : Option Addr} (h : (fr.heap_1 P).lookup 246 = some ⟨oc, od, .func (fnOf name qual params body scope dV kV doc pm an cdv ct), osl⟩)
    {c : Cx} {o1 o2 o3 : Obj} {sc : Addr} {vs : List Value} {l : List Int} {fa : Addr} {cd : Value} (hr : Room c 120) (ho : c.outer = []) (hC : CodeHd c.base 240 238) (hL : @LT.lt Nat _ 238 c.L) (hl : c.base.IsList sc vs.toArray) (hI : AllV IntV l vs) (hn : vs.length ≤ 63)
    (h1 : o1.data = .cell none) (h2 : o2.data = .cell none) (h3 : o3.data = .cell none) :
    EV c (bnd noLoc [("script", .ref sc)]) [(c.L + 3, o3), (c.L + 2, o2), (c.L + 1, o1), (238, tabObj #[])] (execs body (envOfC qual scope c.L fa cd)) (fun f _ ν' => f = .ret (.bool true) ∧ ∃ ps, (238, tabObj ps) ∈ ν') NoX := by
  obtain ⟨body', scope', qual', oc', od', osl', name', params', dV', kV', doc', pm', cdv', ct', an', ⟨hlk, -⟩, H⟩ := c_law
  have e := (hlk P).symm.trans h
  simp only [Option.some.injEq, Obj.mk.injEq, Data.func.injEq, fnOf, FuncData.mk.injEq, FuncBody.stmts.injEq] at e
  obtain ⟨-, -, ⟨-, e1, -, e2, e3, -⟩, -⟩ := e
  subst e1 e2 e3
  exact H c o1 o2 o3 sc vs l fa cd hr ho hC hL hl hI hn h1 h2 h3
/-- the law's own frame -/
theorem law_enter {w : World} {g : Heap} {s : Shared} {L sc : Addr} {m : Loc} {o1 o2 o3 : Obj} {loose : List Str} {mean : ExcName → Option Value} {mg mb : Str → Option Value} {p : Program} {body : List Stmt} {q : Str} {scope : Scope} {fa : Addr} {cd : Value} {Q : Flow → Shared → Prop} {E : Value → Shared → Prop}
    (X : (fr.heap_1 w.params).In g) (T : Top p loose mean mg mb g) (K : Below callerA g [] g) (F : Fr g L s.heap m) (N : News g L s.heap [(L + 1 + 1 + 1, o3), (L + 1 + 1, o2), (L + 1, o1), (238, tabObj #[])]) (l0 : @LT.lt Nat _ 238 L) (hS : g.NoSeer)
    (hm : m = bnd noLoc [("script", .ref sc)]) (h3 : o3.data = .cell none) (h2 : o2.data = .cell none) (h1 : o1.data = .cell none) (hk : scope.kind = .function) (hgen : scope.isGenerator = false) (hco : scope.isCoroutine = false)
    (h : ∀ (c : Cx) (o1 o2 o3 : Obj), Room c 120 → c.outer = [] → c.base = g → @LT.lt Nat _ 238 c.L → o1.data = .cell none → o2.data = .cell none → o3.data = .cell none → EV c (bnd noLoc [("script", .ref sc)]) [(c.L + 3, o3), (c.L + 2, o2), (c.L + 1, o1), (238, tabObj #[])] (execs body (envOfC q scope c.L fa cd)) (fun f _ ν' => f = .ret (.bool true) ∧ ∃ ps, (238, tabObj ps) ∈ ν') NoX)
    (hQ : ∀ m' ν' h' tk' ps, (238, tabObj ps) ∈ ν' → Fr g L h' m' → News g L h' ν' → Q (.ret (.bool true)) { s with heap := h', toks := tk' }) :
    wpAny (model Pg w) (callerA.deeper (envOfC q scope L fa cd)) (execs body (envOfC q scope L fa cd)) Q E s := by
  subst hm
  let c : Cx := ⟨w, L, callerA.deeper (envOfC q scope L fa cd), callerA, g, g, [], envOfC q scope L fa cd, p, loose, mean, mg, mb, K, X, T, X, T, rfl, rfl, hk, hgen, hco, rfl, rfl, hS, rfl, rfl, rfl⟩
  refine (h c o1 o2 o3 ?_ rfl rfl l0 h1 h2 h3).any s Q E F N (fun v m' ν' h' tk' hp F' N' => ?_)
  · exact ⟨show callerA.depth + 1 + 120 < recursionLimit by decide, show callerA.units + 3 + 8 * 120 < cLine by decide⟩
  · obtain ⟨rfl, ps, hm⟩ := hp
    exact hQ m' ν' h' tk' ps hm F' N'

def head.tw6474009502463322548 : Unit := ()
def head.tw13335025841360890868 : Unit := ()
def head.tw13635917487720901777 : Unit := ()
def head.tw14824453555314281606 : Unit := ()
def head.tw17068824599700077352 : Unit := ()
def head.tw9585072729554991084 : Unit := ()
def head.tw9328142537993144618 : Unit := ()
def head.tw9982104753788512723 : Unit := ()
def head.tw2400818531096893172 : Unit := ()
def head.tw15539854500240908086 : Unit := ()
def head.tw11325123074623421636 : Unit := ()
def head.tw12865059321931465230 : Unit := ()
def head.tw467416434755642258 : Unit := ()
def head.tw13353151263460963528 : Unit := ()
def head.tw3496171461512900480 : Unit := ()
def head.tw18384547517478447814 : Unit := ()
def head.tw5253091568745631028 : Unit := ()
def head.tw17854896373637125580 : Unit := ()
def head.tw15296082917334920728 : Unit := ()
def head.tw15895551434495452948 : Unit := ()
def head.tw7450023128482652576 : Unit := ()
def head.tw16610897072028732714 : Unit := ()
def head.tw15520248196984853422 : Unit := ()
def head.tw11427066125472700054 : Unit := ()
def head.tw3083302935323014018 : Unit := ()
def head.tw7994106446794305319 : Unit := ()
def head.tw9325057278558614444 : Unit := ()
def head.tw2355103038987944067 : Unit := ()
def head.tw1506576300011279404 : Unit := ()
def head.tw2096541523181747872 : Unit := ()
def head.tw8715499118904818895 : Unit := ()
def head.tw18332285231265401824 : Unit := ()
def head.tw9082462177598256812 : Unit := ()
def head.tw2611935402230173564 : Unit := ()
def head.tw12903917746401883607 : Unit := ()
def head.tw6776032007060665784 : Unit := ()
def head.tw9984397402777080727 : Unit := ()
def head.tw9716329373054682134 : Unit := ()
def head.tw17197444120159719569 : Unit := ()
def head.tw11005904730967762025 : Unit := ()
def head.tw2340069552987342377 : Unit := ()
def head.tw4964814941381164201 : Unit := ()
def head.tw5207666765276788736 : Unit := ()
def head.tw14788773977795034992 : Unit := ()
def head.tw15064752311394979489 : Unit := ()
def head.tw1212124681294104184 : Unit := ()
def head.tw5438144065070405397 : Unit := ()
def head.tw3501597964444990463 : Unit := ()
def head.tw5487235932777146282 : Unit := ()
def head.tw6737735255597943219 : Unit := ()
def head.tw3088210815446039105 : Unit := ()
def head.tw8603420104599213669 : Unit := ()
def head.tw8912104118211102971 : Unit := ()
def head.tw11290360913936777911 : Unit := ()
def head.tw5331137831679937033 : Unit := ()
def head.tw12478146576626367362 : Unit := ()
def head.tw3665506230870052707 : Unit := ()
def head.tw17348764703882912863 : Unit := ()
def head.tw1832916270232011604 : Unit := ()
def head.tw10987702880554017565 : Unit := ()
def head.tw8097174177036852075 : Unit := ()
def head.tw14417885227837004991 : Unit := ()
def head.tw6507506987150044280 : Unit := ()
def head.tw8476099583838051002 : Unit := ()
def head.tw13078646160514809887 : Unit := ()
def head.tw12773685731770592110 : Unit := ()
def head.tw3991279037241028524 : Unit := ()
def head.tw17411354535832351560 : Unit := ()
def head.tw11714945338242495837 : Unit := ()
def head.tw13954853420313727417 : Unit := ()
def head.tw2393098407364606883 : Unit := ()
def head.tw14843749296085226474 : Unit := ()
def head.tw4857777746444614323 : Unit := ()
def head.tw12475708393154427166 : Unit := ()
def head.tw10010264046613662565 : Unit := ()
def head.tw17464823870196871000 : Unit := ()
def head.tw6202090305015876224 : Unit := ()
def head.tw17552560543380974038 : Unit := ()
def head.tw17212568112599259466 : Unit := ()
def head.tw10079960370226730655 : Unit := ()
def head.tw14842460003800876886 : Unit := ()
def head.tw733406405333840765 : Unit := ()
def head.tw16031315777459398524 : Unit := ()
def head.tw12822298378996975857 : Unit := ()
def head.tw4972248218790579157 : Unit := ()
def head.tw16128420640991077102 : Unit := ()
def head.tw12604462930493870256 : Unit := ()
def head.tw14393718171448925343 : Unit := ()
def head.tw16847831306532103052 : Unit := ()
def head.tw13896987355042952010 : Unit := ()
def head.tw748731779930912776 : Unit := ()
def head.tw8185714761375850791 : Unit := ()
def head.tw18007968972792079559 : Unit := ()
def head.tw10533634037010066435 : Unit := ()
def head.tw5092371620264689978 : Unit := ()
def head.tw8534208459206503383 : Unit := ()
def head.tw7313386461004707312 : Unit := ()
def head.tw3973953319845086491 : Unit := ()
def head.tw930087139818521243 : Unit := ()
def head.tw15468718075485040107 : Unit := ()
def head.tw9702098958229961203 : Unit := ()
def head.tw17014734716931888790 : Unit := ()
def head.tw16714887947964762639 : Unit := ()
def head.tw17243387458012846398 : Unit := ()
def head.tw8812732774380208333 : Unit := ()
def head.tw2581250870941146908 : Unit := ()
def head.tw8382746154173761051 : Unit := ()
def head.tw12147184966966947637 : Unit := ()
def head.tw13689084217373910675 : Unit := ()
def head.tw13585267454733459922 : Unit := ()
def head.tw4975070653579243887 : Unit := ()
def head.tw13988103294471073821 : Unit := ()
def head.tw13294958713779813728 : Unit := ()
def head.tw6857060684267632606 : Unit := ()
def head.tw7758381527925395934 : Unit := ()
def head.tw11105056867450500199 : Unit := ()
def head.tw15112835437128306455 : Unit := ()
def head.tw5944575059761466720 : Unit := ()
def head.tw13199516396595161752 : Unit := ()
def head.tw4381510469713062047 : Unit := ()
def head.tw7712916153251135833 : Unit := ()
def head.tw4063747431996464497 : Unit := ()
def head.tw3160712208675142370 : Unit := ()
def head.tw1748456618969930982 : Unit := ()
def head.tw9062998866958442273 : Unit := ()
def head.tw3547240966391284428 : Unit := ()
def head.tw15895748673760503845 : Unit := ()
def head.tw4433315090154635215 : Unit := ()
def head.tw820421773197932041 : Unit := ()
def head.tw15037083628117588352 : Unit := ()
def head.tw17674571679781333832 : Unit := ()
def head.tw18433677622606106133 : Unit := ()
def head.tw3547030090768783262 : Unit := ()
def head.tw1276956409769668328 : Unit := ()
def head.tw7661765248129044261 : Unit := ()
def head.tw1499353310998574721 : Unit := ()
def head.tw18123143868385100064 : Unit := ()
def head.tw15841401105113185080 : Unit := ()
def head.tw2879759524354350568 : Unit := ()
def head.tw15148963937461231693 : Unit := ()
def head.tw9515422150858430662 : Unit := ()
def head.tw15798066900824788120 : Unit := ()
def head.tw15510365090734361527 : Unit := ()
def head.tw3556061257289618393 : Unit := ()
def head.tw17789423225533864492 : Unit := ()
def head.tw1463646239528298992 : Unit := ()
def head.tw2260579728952749127 : Unit := ()
def head.tw17142359554024780413 : Unit := ()
def head.tw16874305072444578374 : Unit := ()
def head.tw7512725033676591148 : Unit := ()
def head.tw5699714656086353306 : Unit := ()
def head.tw10018764681926925449 : Unit := ()
def head.tw4709128311485490483 : Unit := ()
def head.tw9592777112578238593 : Unit := ()
def head.tw1457377512435260902 : Unit := ()
def head.tw3749026756887285471 : Unit := ()
def head.tw8451290768687142514 : Unit := ()
def head.tw3103639331685909893 : Unit := ()
def head.tw8874674299285249911 : Unit := ()
def head.tw9074772780463953568 : Unit := ()
def head.tw12892129938458570674 : Unit := ()
def head.tw10356212845559719233 : Unit := ()
def head.tw14512941343882779238 : Unit := ()
def head.tw4415685298772064003 : Unit := ()
def head.tw17700853532424174462 : Unit := ()
def head.tw12870424476946447624 : Unit := ()
def head.tw4746297304354101679 : Unit := ()
def head.tw11484358847640170188 : Unit := ()
def head.tw9746458257258439470 : Unit := ()
def head.tw10668533816033670360 : Unit := ()
def head.tw5638995163158488052 : Unit := ()
def head.tw8159583801465064534 : Unit := ()
def head.tw14527164170590304321 : Unit := ()
def head.tw14643560169476415855 : Unit := ()
def head.tw6121141971511671821 : Unit := ()
def head.tw7658410731251134818 : Unit := ()
def head.tw17508272824862286709 : Unit := ()
def head.tw12032222614953749359 : Unit := ()
def head.tw16817119741492734445 : Unit := ()
def head.tw8773370040425892893 : Unit := ()
def head.tw10366927770000222440 : Unit := ()
def head.tw4693820183103290663 : Unit := ()
def head.tw7802898811600756450 : Unit := ()
def head.tw17782148633632673465 : Unit := ()
def head.tw14877080517539528568 : Unit := ()
def head.tw3746228215898030841 : Unit := ()
def head.tw5764021196749891206 : Unit := ()
def head.tw262713603470380999 : Unit := ()
def head.tw13942192884097748152 : Unit := ()
def head.tw12310735299239354703 : Unit := ()
def head.tw6587087628758450585 : Unit := ()
def head.tw11862927689305589065 : Unit := ()
def head.tw9658139154387788515 : Unit := ()
def head.tw11308087075614649832 : Unit := ()
def head.tw8866670633112419022 : Unit := ()
def head.tw9978949632667528635 : Unit := ()
def head.tw315434073420411817 : Unit := ()
def head.tw7494366503370351645 : Unit := ()
def head.tw6846597200999610202 : Unit := ()
def head.tw7876399200375917224 : Unit := ()
def head.tw9101448428047585222 : Unit := ()
def head.tw14205479233844494046 : Unit := ()
def head.tw14982685227137828758 : Unit := ()
def head.tw6211381574409162282 : Unit := ()
def head.tw11692735721529064706 : Unit := ()
def head.tw2249667046024356820 : Unit := ()
def head.tw15506723302920939300 : Unit := ()
def head.tw7090939061502383884 : Unit := ()
def head.tw16997897962222511 : Unit := ()
def head.tw10015159338476511836 : Unit := ()
def head.tw14999265807660949796 : Unit := ()
def head.tw5651425540991249520 : Unit := ()
def head.tw6388477656530123435 : Unit := ()
def head.tw3581614266968435656 : Unit := ()
def head.tw3615648651819825313 : Unit := ()
set_option Elab.async true in
theorem head : PySem.Challenge.rw_pc0191_01.Holds := by
  w_on
  o_law
  k_head
  (case hw => w_witness2)
  k_go0
  rename PySem.W.Frag.In _ (ghostOf _ _) => X0
  have X1 : (Mine.fr.heap_1 _).In (ghostOf _ _) := X0
  rename Below callerA _ _ _ => K1
  rename Top topProg _ _ _ _ (ghostOf _ _) => T1
  rename Top _ (looseW _ _) _ _ _ _ => T0
  rename TabsAt _ _ => hT
  rename Fr _ _ _ _ => F1
  rename News _ _ _ _ => N1
  rename CodeHd _ _ _ => hC
  rename IntsAre _ _ => hI
  rename @LT.lt Addr _ 238 _ => l0
  rename PySem.Heap.IsList (ghostOf _ _) _ _ => hl1
  refine Mine.law_enter X1 T1 K1 F1 N1 l0 (ghost_noSeer hT (T0.seer (by decide +kernel))) rfl (by assumption) (by assumption) (by assumption) rfl rfl rfl ?_ ?_
  · clear F1 N1 T1 X1 K1 T0 hT X0
    intro c o1 o2 o3 hr ho hb h238 h1 h2 h3
    rw [← hb] at hC hl1
    replace hI := ints_of hI
    have hlen := hI.length
    rename ¬ (_ < _) => hcond
    exact Mine.c_law2 (P := c.w.params) (by k_is) hr ho hC h238 hl1 hI (by omega) h1 h2 h3
  · intro m' ν' h' tk' ps hm F N
    refine ⟨goodW_bool F (by assumption) (raisesW_false ?_) ?_, GrownAt.of N hm, trivial⟩
    · wrow_none_raised
    · wrow_post

end Mine
theorem PySem.Challenge.cw_pc0191_01_holds : PySem.Challenge.rw_pc0191_01.Holds :=
  Mine.head
