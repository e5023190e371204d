import PyProof.Rows.All
import Wide.All
import OpenK.AllK
import Wide.FinOn
import PySem.Challenge.RW_pc0191_02
open PySem PySem.W PyProof.Rows PySem.Spec PySem.Calls PyProof.Rows.LCg
set_option Elab.async false
set_option maxRecDepth 100000
set_option maxHeartbeats 8000000
set_option linter.unusedVariables false
set_option linter.unusedSimpArgs false
set_option genInjectivity false
set_option genSizeOf false
set_option genSizeOfSpec false
namespace Mine
section
local macro_rules | `(tactic| o_head $_) => `(tactic| skip)
/-- the written objects of the top, told by the kit's own word: only the constant that it leaves behind is wanted -/
theorem fr : True := by
  refine Classical.byContradiction fun hn => ?_
  have hF : False := hn trivial
  have h : PySem.Challenge.rw_pc0191_02.Holds := by
    refine holds_law hF.elim fun said => ?_
    k_head
    exact hF.elim
  exact hF
end
noncomputable abbrev PgX : Program := PySem.Challenge.rw_pc0191_02.row.prog
end Mine
namespace Mine

noncomputable abbrev Pg : Program := PgX
abbrev Loc := Str → Option Value
abbrev Led := List (Addr × Obj)

/-- what stands around one frame of the text -/
structure Cx where
  w : World
  L : Addr
  A : Around
  A₀ : Around
  base : Heap
  h₀ : Heap
  outer : List Env
  env : Env
  p : Program
  loose : List Str
  mean : ExcName → Option Value
  mg : Str → Option Value
  mb : Str → Option Value
  B : Below A₀ base outer h₀
  X : (fr.heap_1 w.params).In h₀
  T : Top p loose mean mg mb h₀
  hA : A.frames = some (env :: outer)
  hf : env.frame = some L
  hk : env.scope.kind = .function
  hgen : env.scope.isGenerator = false
  hco : env.scope.isCoroutine = false
  hb : env.builtins = builtinsNs
  hg : env.globals = mainGlobals
  hi : h₀.NoSeer
  ht : Pg.given.tree = none
  hh : A.handled = none
  hgd : A.guards = some []

section

def Cx.in1 (c : Cx) : Cx := { c with A := c.A.in1, hA := c.hA, hh := c.hh, hgd := c.hgd }
def Room (c : Cx) (n : Nat) : Prop := c.A.depth + n < recursionLimit ∧ c.A.units + 8 * n < cLine
theorem Room.in1 {c : Cx} {n : Nat} (h : Room c (n + 1)) : Room c.in1 n :=
  ⟨Nat.lt_of_succ_lt h.1, by have := h.2; show c.A.units + 1 + 8 * n < cLine; omega⟩
theorem Room.le {c : Cx} {n k : Nat} (h : Room c n) (hk : k ≤ n) : Room c k := ⟨by have := h.1; omega, by have := h.2; omega⟩

def EV {α : Type} (c : Cx) (m : Loc) (ν : Led) (t : Sem α) (P : α → Loc → Led → Prop) (R : Value → Loc → Led → Prop) : Prop :=
  ∀ (s : Shared) (Q : α → Shared → Prop) (E : Value → Shared → Prop), Fr c.h₀ c.L s.heap m → News c.h₀ c.L s.heap ν →
    (∀ v m' ν' h' tk', P v m' ν' → Fr c.h₀ c.L h' m' → News c.h₀ c.L h' ν' → Q v { s with heap := h', toks := tk' }) →
    (∀ e m' ν' h' tk', R e m' ν' → Fr c.h₀ c.L h' m' → News c.h₀ c.L h' ν' → E e { s with heap := h', toks := tk' }) →
    wpAny (model Pg c.w) c.A t Q E s

section rules
variable {α β : Type} {c : Cx} {m : Loc} {ν : Led} {R : Value → Loc → Led → Prop} {env : Env}

theorem ev_pure {a : α} {P : α → Loc → Led → Prop} (h : P a m ν) : EV c m ν (pure a) P R :=
  fun s Q E F N hQ hE => wpAny_pure (hQ a m ν s.heap s.toks h F N)
theorem ev_bind {t : Sem α} {k : α → Sem β} {P : β → Loc → Led → Prop} (h : EV c m ν t (fun a m' ν' => EV c m' ν' (k a) P R) R) : EV c m ν (t >>= k) P R :=
  fun s Q E F N hQ hE => wpAny_bind (h s _ E F N (fun a m₁ ν₁ h₁ k₁ x F₁ N₁ => x _ Q E F₁ N₁ hQ hE) hE)
theorem ev_mono {t : Sem α} {P P' : α → Loc → Led → Prop} {R' : Value → Loc → Led → Prop} (h : EV c m ν t P R) (hp : ∀ a m' ν', P a m' ν' → P' a m' ν') (hr : ∀ a m' ν', R a m' ν' → R' a m' ν') : EV c m ν t P' R' :=
  fun s Q E F N hQ hE => h s Q E F N (fun a m₁ ν₁ h₁ k₁ x => hQ a m₁ ν₁ h₁ k₁ (hp _ _ _ x)) (fun a m₁ ν₁ h₁ k₁ x => hE a m₁ ν₁ h₁ k₁ (hr _ _ _ x))
theorem ev_imp {t : Sem α} {P P' : α → Loc → Led → Prop} (h : EV c m ν t P R) (hp : ∀ a m' ν', P a m' ν' → P' a m' ν') : EV c m ν t P' R := ev_mono h hp fun _ _ _ x => x
/-- fewer, or in another order -/
theorem ev_sub {t : Sem α} {ν' : Led} {P : α → Loc → Led → Prop} (h : EV c m ν' t P R) (hs : ∀ p ∈ ν', p ∈ ν) : EV c m ν t P R :=
  fun s Q E F N hQ hE => h s Q E F (fun p hp => N p (hs p hp)) hQ hE
theorem ev_wp {t : Sem α} {P : α → Loc → Led → Prop} (h : ∀ (s : Shared) (Q : α → Shared → Prop) (E : Value → Shared → Prop), Fr c.h₀ c.L s.heap m → News c.h₀ c.L s.heap ν → (∀ v m' ν' h' tk', P v m' ν' → Fr c.h₀ c.L h' m' → News c.h₀ c.L h' ν' → Q v { s with heap := h', toks := tk' }) → wpAny (model Pg c.w) c.A t Q E s) : EV c m ν t P R :=
  fun s Q E F N hQ _ => h s Q E F N hQ
theorem ev_standAt {pos : Pos} {P : Unit → Loc → Led → Prop} (h : P () m ν) : EV c m ν (standAt pos) P R :=
  fun s Q E F N hQ hE => wpAny_standAt (hQ () m ν s.heap s.toks h F N)
theorem ev_point {P : Unit → Loc → Led → Prop} (h : P () m ν) : EV c m ν point P R :=
  fun s Q E F N hQ hE => wpAny_point (hQ () m ν s.heap s.toks h F N)
theorem ev_rule {tag : String} {P : Unit → Loc → Led → Prop} (h : P () m ν) : EV c m ν (rule tag) P R :=
  fun s Q E F N hQ hE => wpAny_rule (hQ () m ν s.heap s.toks h F N)
theorem ev_ask {P : Setting → Loc → Led → Prop} (h : P ⟨Pg, c.w.params⟩ m ν) : EV c m ν ask P R :=
  fun s Q E F N hQ hE => wpAny_askSetting (hQ _ m ν s.heap s.toks h F N)
theorem ev_holding {vs : List Value} {t : Sem α} {P : α → Loc → Led → Prop} (h : EV c m ν t P R) : EV c m ν (holding vs t) P R :=
  fun s Q E F N hQ hE => wpAny_holding (h s Q E F N hQ hE)
theorem ev_operate {vs : List Value} {t : Sem Value} {P : Value → Loc → Led → Prop} (h : EV c m ν t P R) : EV c m ν (operate vs t) P R :=
  fun s Q E F N hQ hE => wpAny_operate' (h s Q E F N hQ hE)
theorem ev_release {vs ks : List Value} {P : Unit → Loc → Led → Prop} (h : P () m ν) : EV c m ν (release vs ks) P R :=
  fun s Q E F N hQ hE => wpAny_release' (hQ () m ν s.heap s.toks h F N)

end rules
abbrev RX := Value → Loc → Led → Prop
/-- then e is evaluated; k has both values -/
abbrev kE (c : Cx) (env : Env) (e : Expr) (k : Value → Value → Loc → Led → Prop) (R : RX) : Value → Loc → Led → Prop := fun a m ν => EV c m ν (eval e env) (k a) R
abbrev kOp (c : Cx) (op : Operator) (P : Value → Loc → Led → Prop) (R : RX) : Value → Value → Loc → Led → Prop := fun a b m ν => EV c m ν (binaryOp op a b) P R
abbrev kUn (c : Cx) (op : UnaryOp) (P : Value → Loc → Led → Prop) (R : RX) : Value → Loc → Led → Prop := fun a m ν => EV c m ν (unaryOp op a) P R
abbrev kCmp (c : Cx) (op : CmpOp) (P : Value → Loc → Led → Prop) (R : RX) : Value → Value → Loc → Led → Prop := fun a b m ν => EV c m ν (compareOp op a b) P R
abbrev kTr (c : Cx) (P : Bool → Loc → Led → Prop) (R : RX) : Value → Loc → Led → Prop := fun v m ν => EV c m ν (truthy v) P R
abbrev kIf (c : Cx) (env : Env) (a b : Expr) (P : Value → Loc → Led → Prop) (R : RX) : Bool → Loc → Led → Prop := fun x m ν => if x then EV c m ν (eval a env) P R else EV c m ν (eval b env) P R
abbrev kIfS (c : Cx) (env : Env) (a b : List Stmt) (P : Flow → Loc → Led → Prop) (R : RX) : Bool → Loc → Led → Prop := fun x m ν => if x then EV c m ν (execs a env) P R else EV c m ν (execs b env) P R
abbrev kNot (P : Bool → Loc → Led → Prop) : Bool → Loc → Led → Prop := fun b m ν => P (!b) m ν
abbrev kAnd (c : Cx) (env : Env) (rest : List Expr) (pos : Pos) (whole : Sem Value) (P : Bool → Loc → Led → Prop) (R : RX) : Bool → Loc → Led → Prop := fun b m ν => if b then EV c m ν (isTrue (.BoolOp .And rest pos) env whole) P R else P false m ν
abbrev kOr (c : Cx) (env : Env) (rest : List Expr) (pos : Pos) (whole : Sem Value) (P : Bool → Loc → Led → Prop) (R : RX) : Bool → Loc → Led → Prop := fun b m ν => if b then P true m ν else EV c m ν (isTrue (.BoolOp .Or rest pos) env whole) P R
abbrev kChain (c : Cx) (env : Env) (op₁ op₂ : CmpOp) (r₂ : Expr) (P : Bool → Loc → Led → Prop) (R : RX) : Value → Value → Loc → Led → Prop := fun a b m ν => EV c m ν (compareOp op₁ a b) (kTr c (fun t m₄ ν₄ => if t then EV c m₄ ν₄ (eval r₂ env) (kCmp c op₂ (kTr c P R) R b) R else P false m₄ ν₄) R) R
abbrev kSpl (c : Cx) (env : Env) (pos : Pos) (rest : List Expr) (P : List Value → Loc → Led → Prop) (R : RX) : Value → Loc → Led → Prop := fun v m ν => EV c m ν (spliced (backTo pos (starEach rest env))) (fun vs => P (v :: vs)) R
abbrev kTup (c : Cx) (P : Value → Loc → Led → Prop) (R : RX) : List Value → Loc → Led → Prop := fun vs m ν => EV c m ν (newTuple vs) P R
abbrev kLst (c : Cx) (P : Value → Loc → Led → Prop) (R : RX) : List Value → Loc → Led → Prop := fun vs m ν => EV c m ν (newList vs) P R
abbrev kNext (P : Flow → Loc → Led → Prop) : Unit → Loc → Led → Prop := fun _ => P .next
abbrev kRet (P : Flow → Loc → Led → Prop) : Value → Loc → Led → Prop := fun v => P (.ret v)
abbrev kStore (c : Cx) (env : Env) (x : Str) (P : Flow → Loc → Led → Prop) (R : RX) : Value → Loc → Led → Prop := fun v m ν => EV c m ν (storeName env x v) (kNext P) R
abbrev kSetI (c : Cx) (env : Env) (i : Expr) (P : Flow → Loc → Led → Prop) (R : RX) : Value → Value → Loc → Led → Prop := fun v ov m ν => EV c m ν (eval i env) (fun iv m₁ ν₁ => EV c m₁ ν₁ (setItem ov iv v) (kNext P) R) R
abbrev kSetA (c : Cx) (attr : Str) (P : Flow → Loc → Led → Prop) (R : RX) : Value → Value → Loc → Led → Prop := fun v ov m ν => EV c m ν (setAttr ov attr v) (kNext P) R
section rules
variable {α β : Type} {c : Cx} {m : Loc} {ν : Led} {R : Value → Loc → Led → Prop} {env : Env}
/- expressions -/
variable {P : Value → Loc → Led → Prop} {PB : Bool → Loc → Led → Prop} {PF : Flow → Loc → Led → Prop} {PU : Unit → Loc → Led → Prop} {PL : List Value → Loc → Led → Prop}

theorem ev_int {i : Int} {k : Nat} {pos : Pos} (h : ∀ t, P (.int i t) m ν) : EV c m ν (eval (.Constant (.int i) k pos) env) P R :=
  fun s Q E F N hQ hE => wpAny_Constant_int (hQ _ m ν s.heap _ (h _) F N)
theorem ev_str {x : Str} {k : Nat} {pos : Pos} (h : ∀ t, P (.str x t) m ν) : EV c m ν (eval (.Constant (.str x) k pos) env) P R :=
  fun s Q E F N hQ hE => Constant_str (hQ _ m ν s.heap _ (h _) F N)
theorem ev_none {k : Nat} {pos : Pos} (h : P .none m ν) : EV c m ν (eval (.Constant .none k pos) env) P R := ev_pure h
theorem ev_bool {b : Bool} {k : Nat} {pos : Pos} (h : P (.bool b) m ν) : EV c m ν (eval (.Constant (.bool b) k pos) env) P R := ev_pure h

theorem ev_BinOp {l r : Expr} {op : Operator} {pos : Pos} (h : EV c m ν (eval l env) (kE c env r (kOp c op P R) R) R) : EV c m ν (eval (.BinOp l op r pos) env) P R :=
  fun s Q E F N hQ hE => wpAny_BinOp (h s _ E F N (fun a m₁ ν₁ h₁ k₁ x F₁ N₁ => x _ _ E F₁ N₁ (fun b m₂ ν₂ h₂ k₂ y F₂ N₂ => y _ Q E F₂ N₂ hQ hE) hE) hE)
theorem ev_UnaryOp {op : UnaryOp} {x : Expr} {pos : Pos} (h : EV c m ν (eval x env) (kUn c op P R) R) : EV c m ν (eval (.UnaryOp op x pos) env) P R :=
  fun s Q E F N hQ hE => UnaryOp_ (h s _ E F N (fun a m₁ ν₁ h₁ k₁ x F₁ N₁ => x _ Q E F₁ N₁ hQ hE) hE)
theorem ev_IfExp {t b o : Expr} {pos : Pos} (h : EV c m ν (isTrue t env (eval t env)) (kIf c env b o P R) R) : EV c m ν (eval (.IfExp t b o pos) env) P R :=
  fun s Q E F N hQ hE => IfExp_ (h s _ E F N (fun a m₁ ν₁ h₁ k₁ x F₁ N₁ => by cases a <;> exact x _ Q E F₁ N₁ hQ hE) hE)

theorem ev_Compare {l r : Expr} {op : CmpOp} {pos : Pos} (h : EV c m ν (eval l env) (kE c env r (kCmp c op P R) R) R) (hm : behindInMarks op r = false := by with_unfolding_all rfl) : EV c m ν (eval (.Compare l [op] [r] pos) env) P R :=
  fun s Q E F N hQ hE => wpAny_Compare1 (h s _ E F N (fun a m₁ ν₁ h₁ k₁ x F₁ N₁ => x _ _ E F₁ N₁ (fun b m₂ ν₂ h₂ k₂ y F₂ N₂ => y _ Q E F₂ N₂ hQ hE) hE) hE) hm
theorem ev_isCompare {l r : Expr} {op : CmpOp} {pos : Pos} {whole : Sem Value} (h : EV c m ν (eval l env) (kE c env r (kCmp c op (kTr c PB R) R) R) R) (hm : behindInMarks op r = false := by with_unfolding_all rfl) : EV c m ν (isTrue (.Compare l [op] [r] pos) env whole) PB R :=
  fun s Q E F N hQ hE => wpAny_isTrue_Compare1 (h s _ E F N (fun a m₁ ν₁ h₁ k₁ x F₁ N₁ => x _ _ E F₁ N₁ (fun b m₂ ν₂ h₂ k₂ y F₂ N₂ => y _ _ E F₂ N₂ (fun v m₃ ν₃ h₃ k₃ z F₃ N₃ => z _ Q E F₃ N₃ hQ hE) hE) hE) hE) hm
/-- a op₁ b op₂ d, as a test -/
theorem ev_isChain {l r₁ r₂ : Expr} {op₁ op₂ : CmpOp} {pos : Pos} {whole : Sem Value}
    (h : EV c m ν (eval l env) (kE c env r₁ (kChain c env op₁ op₂ r₂ PB R) R) R)
    (hm : lastMarks [op₁, op₂] [r₁, r₂] = false := by with_unfolding_all rfl) : EV c m ν (isTrue (.Compare l [op₁, op₂] [r₁, r₂] pos) env whole) PB R :=
  fun s Q E F N hQ hE => isTrue_chain (h s _ E F N (fun a m₁ ν₁ h₁ k₁ x F₁ N₁ => test_link (x _ _ E F₁ N₁ (fun b m₂ ν₂ h₂ k₂ y F₂ N₂ => y _ _ E F₂ N₂ (fun v m₃ ν₃ h₃ k₃ z F₃ N₃ => z _ _ E F₃ N₃ (fun t m₄ ν₄ h₄ k₄ u F₄ N₄ => by
    cases t
    · exact hQ _ _ _ _ _ u F₄ N₄
    · exact test_last (u _ _ E F₄ N₄ (fun d m₅ ν₅ h₅ k₅ q F₅ N₅ => q _ _ E F₅ N₅ (fun v m₆ ν₆ h₆ k₆ r F₆ N₆ => r _ Q E F₆ N₆ hQ hE) hE) hE)) hE) hE) hE)) hE) hm
theorem ev_isNot {x : Expr} {pos : Pos} {whole : Sem Value} (h : EV c m ν (isTrue x env (eval x env)) (kNot PB) R) : EV c m ν (isTrue (.UnaryOp .Not x pos) env whole) PB R :=
  fun s Q E F N hQ hE => isTrue_not (h s _ E F N (fun a m₁ ν₁ h₁ k₁ x F₁ N₁ => hQ _ _ _ _ _ x F₁ N₁) hE)
theorem ev_isAnd {x : Expr} {rest : List Expr} {pos : Pos} {whole : Sem Value} (h : EV c m ν (isTrue x env (eval x env)) (kAnd c env rest pos whole PB R) R) : EV c m ν (isTrue (.BoolOp .And (x :: rest) pos) env whole) PB R :=
  fun s Q E F N hQ hE => isTrue_and (h s _ E F N (fun a m₁ ν₁ h₁ k₁ x F₁ N₁ => by cases a; exact hQ _ _ _ _ _ x F₁ N₁; exact x _ _ E F₁ N₁ hQ hE) hE)
theorem ev_isOr {x : Expr} {rest : List Expr} {pos : Pos} {whole : Sem Value} (h : EV c m ν (isTrue x env (eval x env)) (kOr c env rest pos whole PB R) R) : EV c m ν (isTrue (.BoolOp .Or (x :: rest) pos) env whole) PB R :=
  fun s Q E F N hQ hE => isTrue_or (h s _ E F N (fun a m₁ ν₁ h₁ k₁ x F₁ N₁ => by cases a; exact x _ _ E F₁ N₁ hQ hE; exact hQ _ _ _ _ _ x F₁ N₁) hE)
theorem ev_isAnd0 {pos : Pos} {whole : Sem Value} (h : PB true m ν) : EV c m ν (isTrue (.BoolOp .And [] pos) env whole) PB R :=
  fun s Q E F N hQ hE => isTrue_and_nil (hQ _ _ _ s.heap s.toks h F N)
theorem ev_isOr0 {pos : Pos} {whole : Sem Value} (h : PB false m ν) : EV c m ν (isTrue (.BoolOp .Or [] pos) env whole) PB R :=
  fun s Q E F N hQ hE => isTrue_or_nil (hQ _ _ _ s.heap s.toks h F N)
theorem ev_isPlain {e : Expr} {whole : Sem Value} (h : EV c m ν whole (kTr c PB R) R) (he : isTrue e env whole = (do let v ← whole; standAt e.pos; holding [v] (truthy v)) := by rfl) : EV c m ν (isTrue e env whole) PB R :=
  fun s Q E F N hQ hE => isTrue_plain (h s _ E F N (fun a m₁ ν₁ h₁ k₁ x F₁ N₁ => x _ Q E F₁ N₁ hQ hE) hE) he
theorem ev_BoolAnd {a b : Expr} {pos : Pos} (h : EV c m ν (eval a env) (fun v m₁ ν₁ => EV c m₁ ν₁ (truthy v) (fun t m₂ ν₂ => if t then EV c m₂ ν₂ (eval b env) P R else P v m₂ ν₂) R) R) : EV c m ν (eval (.BoolOp .And [a, b] pos) env) P R :=
  fun s Q E F N hQ hE => BoolOp_and (h s _ E F N (fun v m₁ ν₁ h₁ k₁ x F₁ N₁ => x _ _ E F₁ N₁ (fun t m₂ ν₂ h₂ k₂ y F₂ N₂ => by cases t; exact hQ _ _ _ _ _ y F₂ N₂; exact BoolOp_one (y _ Q E F₂ N₂ hQ hE)) hE) hE)
theorem ev_BoolOr {a b : Expr} {pos : Pos} (h : EV c m ν (eval a env) (fun v m₁ ν₁ => EV c m₁ ν₁ (truthy v) (fun t m₂ ν₂ => if t then P v m₂ ν₂ else EV c m₂ ν₂ (eval b env) P R) R) R) : EV c m ν (eval (.BoolOp .Or [a, b] pos) env) P R :=
  fun s Q E F N hQ hE => BoolOp_or (h s _ E F N (fun v m₁ ν₁ h₁ k₁ x F₁ N₁ => x _ _ E F₁ N₁ (fun t m₂ ν₂ h₂ k₂ y F₂ N₂ => by cases t; exact BoolOp_one (y _ Q E F₂ N₂ hQ hE); exact hQ _ _ _ _ _ y F₂ N₂) hE) hE)
theorem ev_truthyB {b : Bool} (h : PB b m ν) : EV c m ν (truthy (.bool b)) PB R := fun s Q E F N hQ hE => wpAny_truthy_bool (hQ _ _ _ s.heap s.toks h F N)
theorem ev_truthyN (h : PB false m ν) : EV c m ν (truthy .none) PB R := fun s Q E F N hQ hE => truthy_none (hQ _ _ _ s.heap s.toks h F N)

theorem ev_spl0 {pos : Pos} (h : PL [] m ν) : EV c m ν (spliced (backTo pos (starEach [] env))) PL R := fun s Q E F N hQ hE => spliced_none (hQ _ _ _ s.heap s.toks h F N)
theorem ev_spl {e : Expr} {rest : List Expr} {pos : Pos} (h : EV c m ν (eval e env) (kSpl c env pos rest PL R) R)
    (he : starEach (e :: rest) env = (false, eval e env) :: starEach rest env := by rfl) : EV c m ν (spliced (backTo pos (starEach (e :: rest) env))) PL R :=
  fun s Q E F N hQ hE => spliced_more (h s _ E F N (fun v m₁ ν₁ h₁ k₁ x F₁ N₁ => x _ _ E F₁ N₁ (fun vs m₂ ν₂ h₂ k₂ y F₂ N₂ => hQ _ _ _ _ _ y F₂ N₂) hE) hE) he

/- objects -/
abbrev tupO (vs : List Value) (n : Nat := 0) : Obj := { cls := .type "tuple", data := .seq vs.toArray n }
abbrev lstO (vs : List Value) (n : Nat := 0) : Obj := { cls := .type "list", data := .seq vs.toArray n }

/-- above all that the ledger tells -/
def Above (a : Addr) (ν : Led) : Prop := ∀ p ∈ ν, p.1 < a
theorem ev_newObj {o : Obj} {P : Value → Loc → Led → Prop} (hq : ∀ a, Above a ν → P (.ref a) m ((a, o) :: ν)) (t : Sem Value) (ht : ∀ s (Q : Value → Shared → Prop) E, Q (.ref s.heap.objs.size) { s with heap := s.heap.push o } → wpAny (model Pg c.w) c.A t Q E s) (hfree : o.isFreed = false := by rfl) : EV c m ν t P R :=
  fun s Q E F N hQ hE => ht s Q E (hQ _ m _ _ s.toks (hq s.heap.objs.size (fun p hp => Heap.lt_size (N p hp).1)) (F.push o) (N.push F o hfree))
theorem ev_newTuple {vs : List Value} (h : ∀ a, Above a ν → P (.ref a) m ((a, tupO vs) :: ν)) (hsz : vs.length ≤ sizeLine := by size_fits) : EV c m ν (newTuple vs) P R :=
  ev_newObj h _ fun s Q E q => wpAny_newObj_type q (by show vs.toArray.size ≤ sizeLine; rw [List.size_toArray]; exact hsz)
theorem ev_newList {vs : List Value} (h : ∀ a, Above a ν → P (.ref a) m ((a, lstO vs) :: ν)) (hsz : vs.length ≤ sizeLine := by size_fits) : EV c m ν (newList vs) P R :=
  ev_newObj h _ fun s Q E q => wpAny_newObj_type q (by show vs.toArray.size ≤ sizeLine; rw [List.size_toArray]; exact hsz)
theorem ev_Tuple {elts : List Expr} {k : Nat} {pos : Pos} (h : EV c m ν (spliced (backTo pos (starEach elts env))) (kTup c P R) R) : EV c m ν (eval (.Tuple elts k pos) env) P R :=
  fun s Q E F N hQ hE => Tuple_ (h s _ E F N (fun v m₁ ν₁ h₁ k₁ x F₁ N₁ => x _ _ E F₁ N₁ hQ hE) hE)
theorem ev_List {elts : List Expr} {pos : Pos} (h : EV c m ν (spliced (backTo pos (starEach elts env))) (kLst c P R) R) : EV c m ν (eval (.List elts pos) env) P R :=
  fun s Q E F N hQ hE => List_ (h s _ E F N (fun v m₁ ν₁ h₁ k₁ x F₁ N₁ => x _ _ E F₁ N₁ hQ hE) hE)

/- statements -/
theorem ev_nil (h : PF .next m ν) : EV c m ν (execs [] env) PF R := fun s Q E F N hQ hE => wpAny_execs_nil (hQ _ _ _ s.heap s.toks h F N)
def Then (c : Cx) (env : Env) (rest : List Stmt) (PF : Flow → Loc → Led → Prop) (R : Value → Loc → Led → Prop) : Flow → Loc → Led → Prop
  | .next, m, ν => EV c m ν (execs rest env) PF R
  | f, m, ν => PF f m ν
theorem then_next {rest : List Stmt} (h : EV c m ν (execs rest env) PF R) : Then c env rest PF R .next m ν := h
theorem then_ret {rest : List Stmt} {v : Value} (h : PF (.ret v) m ν) : Then c env rest PF R (.ret v) m ν := h
theorem then_cont {rest : List Stmt} (h : PF .cont m ν) : Then c env rest PF R .cont m ν := h
theorem ev_cons {st : Stmt} {rest : List Stmt} (h : EV c m ν (exec st env) (Then c env rest PF R) R) : EV c m ν (execs (st :: rest) env) PF R :=
  fun s Q E F N hQ hE => wpAny_execs_cons (h s _ E F N (fun f m₁ ν₁ h₁ k₁ x F₁ N₁ => by cases f <;> first | exact hQ _ _ _ _ _ x F₁ N₁ | exact x _ Q E F₁ N₁ hQ hE) hE)
theorem ev_Assign {x : Str} {pos' pos : Pos} {value : Expr} (h : EV c m ν (eval value env) (kStore c env x PF R) R)
    (hs : swapsWith value (some (.Name x pos')) pos.line env = pure false := by rfl) : EV c m ν (exec (.Assign [.Name x pos'] value pos) env) PF R :=
  fun s Q E F N hQ hE => wpAny_Assign_Name (h s _ E F N (fun v m₁ ν₁ h₁ k₁ x F₁ N₁ => x _ _ E F₁ N₁ (fun _ m₂ ν₂ h₂ k₂ y F₂ N₂ => hQ _ _ _ _ _ y F₂ N₂) hE) hE) hs
theorem ev_AssignSub {o i value : Expr} {pos' pos : Pos} (h : EV c m ν (eval value env) (kE c env o (kSetI c env i PF R) R) R)
    (hs : swapsWith value (some (.Subscript o i pos')) pos.line env = pure false := by rfl) : EV c m ν (exec (.Assign [.Subscript o i pos'] value pos) env) PF R :=
  fun s Q E F N hQ hE => wpAny_Assign_Subscript (h s _ E F N (fun v m₁ ν₁ h₁ k₁ x F₁ N₁ => x _ _ E F₁ N₁ (fun _ m₂ ν₂ h₂ k₂ y F₂ N₂ => y _ _ E F₂ N₂ (fun _ m₃ ν₃ h₃ k₃ z F₃ N₃ => z _ _ E F₃ N₃ (fun _ m₄ ν₄ h₄ k₄ u F₄ N₄ => hQ _ _ _ _ _ u F₄ N₄) hE) hE) hE) hE) hs
theorem ev_AssignAttr {o value : Expr} {attr : Str} {pos' pos : Pos} (h : EV c m ν (eval value env) (kE c env o (kSetA c attr PF R) R) R)
    (hs : swapsWith value (some (.Attribute o attr pos')) pos.line env = pure false := by rfl) : EV c m ν (exec (.Assign [.Attribute o attr pos'] value pos) env) PF R :=
  fun s Q E F N hQ hE => plainObj_wpAny_Assign_Attribute (h s _ E F N (fun v m₁ ν₁ h₁ k₁ x F₁ N₁ => x _ _ E F₁ N₁ (fun _ m₂ ν₂ h₂ k₂ y F₂ N₂ => y _ _ E F₂ N₂ (fun _ m₄ ν₄ h₄ k₄ u F₄ N₄ => hQ _ _ _ _ _ u F₄ N₄) hE) hE) hE) hs
theorem ev_AssignTup {elts : List Expr} {k : Nat} {tpos pos : Pos} {value : Expr} (h : EV c m ν (eval value env) (fun v m₁ ν₁ => EV c m₁ ν₁ (assign (.Tuple elts k tpos) env v) (fun _ m₂ ν₂ => PF .next m₂ ν₂) R) R)
    (hs : swapsWithSole [.Tuple elts k tpos] value pos.line env = pure false := by rfl) (hw : swappedStores [.Tuple elts k tpos] value env = pure none := by rfl) : EV c m ν (exec (.Assign [.Tuple elts k tpos] value pos) env) PF R :=
  fun s Q E F N hQ hE => Assign_Tuple (h s _ E F N (fun v m₁ ν₁ h₁ k₁ x F₁ N₁ => x _ _ E F₁ N₁ (fun _ m₂ ν₂ h₂ k₂ y F₂ N₂ => hQ _ _ _ _ _ y F₂ N₂) hE) hE) hs hw
theorem ev_AssignSwap {elts : List Expr} {k : Nat} {tpos pos : Pos} {value : Expr} {names : List Str} (h : EV c m ν (eval value env) (fun v m₁ ν₁ => EV c m₁ ν₁ (unpackItems v names.length none) (fun items m₂ ν₂ => EV c m₂ ν₂ (assignInOrder (names.reverse.map fun n => bindName env n) items.reverse) (fun _ m₃ ν₃ => PF .next m₃ ν₃) R) R) R)
    (hs : swapsWithSole [.Tuple elts k tpos] value pos.line env = pure false := by rfl) (hw : swappedStores [.Tuple elts k tpos] value env = pure (some names) := by rfl) : EV c m ν (exec (.Assign [.Tuple elts k tpos] value pos) env) PF R :=
  fun s Q E F N hQ hE => Assign_Tuple_swapped (h s _ E F N (fun v m₁ ν₁ h₁ k₁ x F₁ N₁ => x _ _ E F₁ N₁ (fun _ m₂ ν₂ h₂ k₂ y F₂ N₂ => y _ _ E F₂ N₂ (fun _ m₃ ν₃ h₃ k₃ z F₃ N₃ => hQ _ _ _ _ _ z F₃ N₃) hE) hE) hE) hs hw
theorem ev_Return {e : Expr} {pos : Pos} (h : EV c m ν (eval e env) (kRet PF) R) : EV c m ν (exec (.Return (some e) pos) env) PF R :=
  fun s Q E F N hQ hE => wpAny_Return_some (h s _ E F N (fun v m₁ ν₁ h₁ k₁ x F₁ N₁ => hQ _ _ _ _ _ x F₁ N₁) hE)
theorem ev_If {t : Expr} {a b : List Stmt} {pos : Pos} (h : EV c m ν (isTrue t env (eval t env)) (kIfS c env a b PF R) R) : EV c m ν (exec (.If t a b pos) env) PF R :=
  fun s Q E F N hQ hE => wpAny_If (h s _ E F N (fun x m₁ ν₁ h₁ k₁ y F₁ N₁ => by cases x <;> exact y _ Q E F₁ N₁ hQ hE) hE)
theorem ev_Continue {pos : Pos} (h : PF .cont m ν) : EV c m ν (exec (.Continue pos) env) PF R := fun s Q E F N hQ hE => wpAny_Continue (hQ _ _ _ s.heap s.toks h F N)
/-- a call's value dropped: None -/
theorem ev_ExprS {e : Expr} {pos : Pos} (h : EV c m ν (eval e env) (fun v m₁ ν₁ => v = .none ∧ PF .next m₁ ν₁) R) (hi : interactive env = false := by rfl) (hs : swapsWith e none pos.line env = pure false := by rfl) : EV c m ν (exec (.Expr e pos) env) PF R :=
  fun s Q E F N hQ hE => wpAny_Expr (h s _ E F N (fun v m₁ ν₁ h₁ k₁ x F₁ N₁ => by obtain ⟨rfl, x⟩ := x; exact hQ _ _ _ _ _ x F₁ N₁) hE) hi hs
end rules
end
end Mine

namespace Mine
section
variable {α β : Type} {c : Cx} {m : Loc} {ν : Led} {R : Value → Loc → Led → Prop} {env : Env}
variable {P : Value → Loc → Led → Prop} {PB : Bool → Loc → Led → Prop} {PF : Flow → Loc → Led → Prop} {PU : Unit → Loc → Led → Prop} {PL : List Value → Loc → Led → Prop}

def upd (m : Loc) (x : Str) (v : Value) : Loc := fun y => if y = x then some v else m y
theorem upd_self {m : Loc} {x : Str} {v : Value} : upd m x v x = some v := by simp [upd]
theorem upd_ne {m : Loc} {x y : Str} {v : Value} (h : y ≠ x) : upd m x v y = m y := by simp [upd, h]
theorem upd_to {m : Loc} {x y : Str} {v u : Value} (e : m y = some u) (h : y ≠ x := by decide) : upd m x v y = some u := (upd_ne h).trans e
/- names -/
theorem ev_name {x : Str} {pos : Pos} (h : EV c m ν (loadName env x) P R) (hd : (x == ("__debug__" : Str)) = false := by decide) : EV c m ν (eval (.Name x pos) env) P R :=
  fun s Q E F N hQ hE => wpAny_Name (h s Q E F N hQ hE) hd
theorem ev_local {x : Str} {pos : Pos} {v : Value} (hv : m x = some v) (h : P v m ν) (hL : env.locals = c.L := by rfl) (hk : env.scope.kind = .function := by rfl) (hx : env.kindOf x = some .local := by rfl)
    (hd : (x == ("__debug__" : Str)) = false := by decide) : EV c m ν (eval (.Name x pos) env) P R :=
  fun s Q E F N hQ hE => wpAny_Name (wpAny_loadName_local hk hx (hL ▸ F.ns) hv (hQ _ _ _ s.heap s.toks h F N)) hd
theorem ev_cell {x : Str} {pos : Pos} {v : Value} {cc : Addr} {o : Obj} (hc : env.cells.lookup x = some cc) (hm : (cc, o) ∈ ν) (ho : o.data = .cell (some v)) (h : P v m ν) (hk : env.scope.kind = .function := by rfl) (hx : env.kindOf x = some .cell := by rfl)
    (hd : (x == ("__debug__" : Str)) = false := by decide) : EV c m ν (eval (.Name x pos) env) P R :=
  fun s Q E F N hQ hE => wpAny_Name (wpAny_loadName_cell hk hx hc ⟨o, N.get hm, ho⟩ (hQ _ _ _ s.heap s.toks h F N)) hd
theorem ev_free {x : Str} {pos : Pos} {v : Value} {cc : Addr} {o : Obj} (hc : env.cells.lookup x = some cc) (hm : (cc, o) ∈ ν) (ho : o.data = .cell (some v)) (h : P v m ν) (hk : env.scope.kind = .function := by rfl) (hx : env.kindOf x = some .free := by rfl)
    (hd : (x == ("__debug__" : Str)) = false := by decide) (hn : (x == ("__classdict__" : Str)) = false := by decide) : EV c m ν (eval (.Name x pos) env) P R :=
  fun s Q E F N hQ hE => wpAny_Name (wpAny_loadName_free hk hx hc ⟨o, N.get hm, ho⟩ (hQ _ _ _ s.heap s.toks h F N) hn) hd
theorem ev_glob {x : Str} {pos : Pos} {v : Value} (e : nsIn (fr.heap_1 c.w.params) mainGlobals x = some (some v)) (h : P v m ν) (hg : env.globals = mainGlobals := by rfl) (hk : env.scope.kind = .function := by rfl) (hx : env.kindOf x = some .globalImplicit := by rfl)
    (hd : (x == ("__debug__" : Str)) = false := by decide) : EV c m ν (eval (.Name x pos) env) P R :=
  fun s Q E F N hQ hE => Name_function_global hk hx (loadGlobal_global (hg ▸ c.T.g.keeps F.keep) (mg_of c.X c.T.g e) (hQ _ _ _ s.heap s.toks h F N)) hd
theorem ev_bltn {x : Str} {pos : Pos} {v : Value} (e : nsIn (fr.heap_1 c.w.params) mainGlobals x = some none) (hv : bootBuiltins x = some v) (h : P v m ν) (hn : x ≠ "__name__" := by decide) (hg : env.globals = mainGlobals := by rfl) (hb : env.builtins = builtinsNs := by rfl) (hk : env.scope.kind = .function := by rfl) (hx : env.kindOf x = some .globalImplicit := by rfl)
    (hd : (x == ("__debug__" : Str)) = false := by decide) : EV c m ν (eval (.Name x pos) env) P R :=
  fun s Q E F N hQ hE => Name_function_global hk hx (loadGlobal_builtin (hg ▸ c.T.g.keeps F.keep) (mg_none_of c.X c.T.g e) (hb ▸ c.T.b.keeps F.keep) ((c.T.builtins x hn).trans hv) (hQ _ _ _ s.heap s.toks h F N)) hd

theorem ev_store {x : Str} {v : Value} (h : PU () (upd m x v) ν) (hL : env.locals = c.L := by rfl) (hk : env.scope.kind = .function := by rfl) (hx : env.kindOf x = some .local := by rfl) : EV c m ν (storeName env x v) PU R :=
  fun s Q E F N hQ hE => wpAny_storeName_local hx (hL ▸ F.ns) (fun h' hn hs => hQ _ _ _ h' _ h (F.set (hL ▸ hn) (hL ▸ hs)) (N.set (hL ▸ hs))) (by rw [hk]; rfl)
theorem ev_storeCell {x : Str} {v : Value} {cc : Addr} {o : Obj} {v₀ : Option Value} {ν₁ : Led} (hc : env.cells.lookup x = some cc) (ho : o.data = .cell v₀) (hν : ∀ p ∈ (cc, o) :: ν₁, p ∈ ν) (hne : ∀ p ∈ ν₁, p.1 ≠ cc) (h : ∀ o', o'.data = .cell (some v) → PU () m ((cc, o') :: ν₁))
    (hk : env.scope.kind = .function := by rfl) (hx : env.kindOf x = some .cell := by rfl) : EV c m ν (storeName env x v) PU R := by
  intro s Q E F N hQ hE
  have N₁ : News c.h₀ c.L s.heap ((cc, o) :: ν₁) := fun p hp => N p (hν p hp)
  have M := N₁ (cc, o) (.head _)
  refine wpAny_storeName_cell hk hx hc ⟨o, M.1, ho⟩ fun h' hv hs => ?_
  obtain ⟨o', ho', hd'⟩ := hv
  refine hQ _ _ _ h' s.toks (h o' hd') ⟨F.ns.sameBut hs (Ne.symm M.2.1), fun b ob e => (hs.2 b (fun q => ?_)).trans (F.keep b ob e), F.above⟩ (fun p hp => ?_)
  · rw [q, M.2.2] at e; cases e
  · rcases List.mem_cons.mp hp with rfl | hp
    · exact ⟨ho', M.2⟩
    · have P₁ := N₁ p (.tail _ hp)
      exact ⟨(hs.2 _ (hne p hp)).trans P₁.1, P₁.2⟩

/- one object turned -/
theorem news_put {h₀ h h' : Heap} {L a : Addr} {m : Loc} {o o' : Obj} {ν₁ : Led} (F : Fr h₀ L h m) (N₁ : News h₀ L h ((a, o) :: ν₁)) (hne : ∀ p ∈ ν₁, p.1 ≠ a) (ho : h'.get? a = some o') (hs : Heap.SameBut a h h') : Fr h₀ L h' m ∧ News h₀ L h' ((a, o') :: ν₁) := by
  have M := N₁ (a, o) (.head _)
  refine ⟨⟨F.ns.sameBut hs (Ne.symm M.2.1), fun b ob e => (hs.2 b (fun q => ?_)).trans (F.keep b ob e), F.above⟩, (fun p hp => ?_)⟩
  · rw [q, M.2.2] at e; cases e
  · rcases List.mem_cons.mp hp with rfl | hp
    · exact ⟨ho, M.2⟩
    · have P₁ := N₁ p (.tail _ hp)
      exact ⟨(hs.2 _ (hne p hp)).trans P₁.1, P₁.2⟩

/- ints -/
theorem ev_add {a b : Int} {t u : Tok} (h : ∀ k, P (.int (a + b) k) m ν) : EV c m ν (binaryOp .Add (.int a t) (.int b u)) P R := fun s Q E F N hQ hE => PyProof.Rows.add_int (hQ _ _ _ s.heap _ (h _) F N)
theorem ev_sub' {a b : Int} {t u : Tok} (h : ∀ k, P (.int (a - b) k) m ν) : EV c m ν (binaryOp .Sub (.int a t) (.int b u)) P R := fun s Q E F N hQ hE => PyProof.Rows.sub_int (hQ _ _ _ s.heap _ (h _) F N)
theorem ev_mul {a b : Int} {t u : Tok} (hm : PySem.IntMulOk a b) (h : ∀ k, P (.int (a * b) k) m ν) : EV c m ν (binaryOp .Mult (.int a t) (.int b u)) P R := fun s Q E F N hQ hE => PyProof.Rows.mul_int (hQ _ _ _ s.heap _ (h _) F N) hm
theorem ev_mod {a b : Int} {t u : Tok} (hb : b ≠ 0) (h : ∀ k, P (.int (a.fmod b) k) m ν) : EV c m ν (binaryOp .Mod (.int a t) (.int b u)) P R := fun s Q E F N hQ hE => PyProof.Rows.mod_int hb (hQ _ _ _ s.heap _ (h _) F N)
theorem ev_fdiv {a b : Int} {t u : Tok} (hb : b ≠ 0) (hr : Room c 101) (h : ∀ k, P (.int (a.fdiv b) k) m ν) : EV c m ν (binaryOp .FloorDiv (.int a t) (.int b u)) P R :=
  fun s Q E F N hQ hE => PyProof.Rows.floordiv_int hb (hQ _ _ _ s.heap _ (h _) F N) (.inr (PySem.PylongRoom.of (c.T.nolimit.keeps F.keep) (Nat.lt_of_succ_lt hr.1) (PySem.SeerAt.of (c.hi.keeps F.keep) c.ht c.hA c.hgen c.hco c.hb c.hg)))
theorem ev_lt {a b : Int} {t u : Tok} (h : P (.bool (decide (a < b))) m ν) : EV c m ν (compareOp .Lt (.int a t) (.int b u)) P R := fun s Q E F N hQ hE => PyProof.Rows.lt_int (hQ _ _ _ s.heap s.toks h F N)
theorem ev_le {a b : Int} {t u : Tok} (h : P (.bool (decide (a ≤ b))) m ν) : EV c m ν (compareOp .LtE (.int a t) (.int b u)) P R := fun s Q E F N hQ hE => PyProof.Rows.le_int (hQ _ _ _ s.heap s.toks h F N)
theorem ev_gt {a b : Int} {t u : Tok} (h : P (.bool (decide (b < a))) m ν) : EV c m ν (compareOp .Gt (.int a t) (.int b u)) P R := fun s Q E F N hQ hE => PyProof.Rows.gt_int (hQ _ _ _ s.heap s.toks h F N)
theorem ev_ge {a b : Int} {t u : Tok} (h : P (.bool (decide (b ≤ a))) m ν) : EV c m ν (compareOp .GtE (.int a t) (.int b u)) P R := fun s Q E F N hQ hE => PyProof.Rows.ge_int (hQ _ _ _ s.heap s.toks h F N)
theorem ev_eq {a b : Int} {t u : Tok} (h : P (.bool (a == b)) m ν) : EV c m ν (compareOp .Eq (.int a t) (.int b u)) P R := fun s Q E F N hQ hE => PyProof.Rows.eq_int (hQ _ _ _ s.heap s.toks h F N)
end
end Mine

namespace Mine
abbrev NoX : Value → Loc → Led → Prop := fun _ _ _ => False
theorem lookup_app {y : Str} {b : List (Str × Value)} : ∀ a : List (Str × Value), (a ++ b).lookup y = (match a.lookup y with | some v => some v | none => b.lookup y)
  | [] => rfl
  | p :: r => by
    obtain ⟨x, v⟩ := p
    simp only [List.cons_append, List.lookup]
    cases h : y == x <;> simp [lookup_app r]
/-- what a call's binds make of the locals -/
def bnd (m : Loc) : List (Str × Value) → Loc
  | [] => m
  | p :: r => bnd (upd m p.1 p.2) r
abbrev noLoc : Loc := fun _ => none
theorem bnd_app (y : Str) : ∀ (l : List (Str × Value)) (m : Loc), bnd m l y = (match l.reverse.lookup y with | some v => some v | none => m y)
  | [], m => rfl
  | p :: r, m => by
    rw [bnd, bnd_app y r, List.reverse_cons, lookup_app]
    cases r.reverse.lookup y with
    | some v => rfl
    | none =>
      obtain ⟨x, v⟩ := p
      by_cases h : y = x
      · subst h; simp [upd, List.lookup]
      · have : (y == x) = false := by simpa using h
        simp [upd, h, List.lookup, this]
theorem bnd_eq (l : List (Str × Value)) : (fun y => l.reverse.lookup y) = bnd noLoc l := by
  funext y
  rw [bnd_app]
  cases l.reverse.lookup y <;> rfl
abbrev retOf : Flow → Value
  | .ret v => v
  | _ => .none
section
variable {α β : Type} {c : Cx} {m : Loc} {ν : Led} {R : Value → Loc → Led → Prop}
variable {P : Value → Loc → Led → Prop}

theorem room_deeper {A : Around} {env : Env} {n : Nat} (h : A.depth + (n + 1) < recursionLimit ∧ A.units + 8 * (n + 1) < cLine) : (A.deeper env).depth + n < recursionLimit ∧ (A.deeper env).units + 8 * n < cLine :=
  ⟨by have := h.1; show A.depth + 1 + n < _; omega, by have := h.2; show A.units + 3 + 8 * n < _; omega⟩

/-- a def of the top without cells is called -/
theorem cev_call {Rs : Result → Shared → Prop} {s : Shared} {f : Addr} {args : List Value} {kw : List (Str × Value)} {n : Nat} {name qual : Str} {params : Arguments} {body : List Stmt} {scope : Scope} {dV kV doc pm cdv ct oc : Value} {an od : Option Addr} {osl : Array (Option Value)} {binds : List (Str × Value)} {Rb : Value → Loc → Led → Prop}
    (F : Fr c.h₀ c.L s.heap m) (N : News c.h₀ c.L s.heap ν)
    (hQ : ∀ v ν' h' tk', P v m ν' → Fr c.h₀ c.L h' m → News c.h₀ c.L h' ν' → Rs (.ok (.ret v)) { s with heap := h', toks := tk' }) (hE : ∀ e ν' h' tk', R e m ν' → Fr c.h₀ c.L h' m → News c.h₀ c.L h' ν' → Rs (.error e) { s with heap := h', toks := tk' })
    (ho : (fr.heap_1 c.w.params).lookup f = some ⟨oc, od, .func (fnOf name qual params body scope dV kV doc pm an cdv ct), osl⟩) (hcd : codeIn (fr.heap_1 c.w.params) cdv qual = true) (hr : Room c (n + 1))
    (hbind : ∀ s : Shared, c.h₀.StaysIn s.heap → BindsTo s (fnOf name qual params body scope dV kV doc pm an cdv ct) ⟨args, kw⟩ binds) (hloc : ∀ y ∈ binds, scope.names.lookup y.1 = some .local)
    (hck : (scope.isCoroutine, scope.isGenerator, scope.kind) = (false, false, .function)) (hcell : ∀ x ∈ scope.names, x.2 ≠ .cell)
    (h : ∀ c' : Cx, Room c' n → (c'.base = c.base ∧ c'.w = c.w) → EV c' (bnd noLoc binds) ν (execs body (envOf qual scope c'.L f cdv)) (fun fl _ ν' => P (retOf fl) m ν') Rb)
    (hR : ∀ c' : Cx, Room c' n → c'.env = envOf qual scope c'.L f cdv → ∀ e m' ν', Rb e m' ν' → EV c' m' ν' (leaving (envOf qual scope c'.L f cdv) e) (fun _ _ ν'' => R e m ν'') NoX) :
    codeAny (model Pg c.w) c.A (.call (.ref f) ⟨args, kw⟩) Rs s := by
  obtain ⟨hco, hk'⟩ := Prod.mk.inj hck
  obtain ⟨hgen, hk⟩ := Prod.mk.inj hk'
  have lift : ∀ (s' : Shared) (L' : Addr) (m' : Loc) (ν' : Led), Fr (hideAll s.heap (ν.map (fun x : Addr × Obj => x.1))) L' s'.heap m' → News (hideAll s.heap (ν.map (fun x : Addr × Obj => x.1))) L' s'.heap ν' → Fr c.h₀ c.L s'.heap m ∧ News c.h₀ c.L s'.heap ν' := by
    intro s' L' m' ν' F' N'
    exact (groundX (R := fun _ s' => Fr c.h₀ c.L s'.heap m ∧ News c.h₀ c.L s'.heap ν') c.B F N c.hA c.hf c.hk).2.2.2 .none s' ⟨L', m', ν', F', N', fun a b => ⟨a, b⟩⟩
  obtain ⟨FG, BG, st, -⟩ := groundX (R := fun _ _ => True) c.B F N c.hA c.hf c.hk
  refine codeAny_call_def (fd := fnOf name qual params body scope dV kV doc pm an cdv ct) (body := body) (binds := binds) (Nat.lt_of_le_of_lt (Nat.le_add_right _ _) hr.1) ((c.X.keeps F.keep) _ _ ho) rfl (c.T.nolimit.keeps F.keep) (codeRec_of (c.X.keeps F.keep) hcd) rfl (hbind s F.keep) hcell hloc (fun h₁ hns hk₁ => ?_) hco hgen hk
  let c' : Cx := ⟨c.w, s.heap.objs.size, c.A.deeper (envOf qual scope s.heap.objs.size f cdv), c.A, c.base, hideAll s.heap (ν.map (fun x : Addr × Obj => x.1)), c.env :: c.outer, envOf qual scope s.heap.objs.size f cdv,
    c.p, c.loose, c.mean, c.mg, c.mb, BG, c.X.keeps st, c.T.keeps st, Around.frames_deeper c.hA, rfl, hk, hgen, hco, rfl, rfl, c.hi.keeps st, c.ht, c.hh, c.hgd⟩
  have r' : Room c' n := room_deeper hr
  refine h c' r' ⟨rfl, rfl⟩ _ _ _ ⟨bnd_eq binds ▸ hns, fun b o e => hk₁ b o (of_hideAll _ e), Nat.le_of_eq (hideAll_size _ _)⟩ (fun p hp => ⟨hk₁ _ _ (N p hp).1, Nat.ne_of_lt (Heap.lt_size (N p hp).1), hideAll_none _ (List.mem_map_of_mem hp)⟩) (fun fl m' ν' h' tk' hp F' N' => ?_) (fun e m' ν' h' tk' hx F' N' => ?_)
  · obtain ⟨a, b⟩ := lift { s with heap := h', toks := tk' } _ _ _ F' N'
    cases fl <;> exact hQ _ _ _ _ hp a b
  · refine hR c' r' rfl e m' ν' hx _ _ _ F' N' (fun _ m'' ν'' h'' tk'' hy F'' N'' => ?_) (fun _ _ _ _ _ hy _ _ => hy.elim)
    obtain ⟨a, b⟩ := lift { s with heap := h'', toks := tk'' } _ _ _ F'' N''
    exact hE e ν'' h'' tk'' hy a b
theorem ev_call {f : Addr} {args : List Value} {kw : List (Str × Value)} {n : Nat} {name qual : Str} {params : Arguments} {body : List Stmt} {scope : Scope} {dV kV doc pm cdv ct oc : Value} {an od : Option Addr} {osl : Array (Option Value)} {binds : List (Str × Value)} {Rb : Value → Loc → Led → Prop}
    (ho : (fr.heap_1 c.w.params).lookup f = some ⟨oc, od, .func (fnOf name qual params body scope dV kV doc pm an cdv ct), osl⟩) (hcd : codeIn (fr.heap_1 c.w.params) cdv qual = true) (hr : Room c (n + 1))
    (hbind : ∀ s : Shared, BindsTo s (fnOf name qual params body scope dV kV doc pm an cdv ct) ⟨args, kw⟩ binds) (hloc : ∀ y ∈ binds, scope.names.lookup y.1 = some .local)
    (hck : (scope.isCoroutine, scope.isGenerator, scope.kind) = (false, false, .function)) (hcell : ∀ x ∈ scope.names, x.2 ≠ .cell)
    (h : ∀ c' : Cx, Room c' n → (c'.base = c.base ∧ c'.w = c.w) → EV c' (bnd noLoc binds) ν (execs body (envOf qual scope c'.L f cdv)) (fun fl _ ν' => P (retOf fl) m ν') Rb)
    (hR : ∀ c' : Cx, Room c' n → c'.env = envOf qual scope c'.L f cdv → ∀ e m' ν', Rb e m' ν' → EV c' m' ν' (leaving (envOf qual scope c'.L f cdv) e) (fun _ _ ν'' => R e m ν'') NoX) :
    EV c m ν (call (.ref f) args kw) P R :=
  fun s Q E F N hQ hE => wpAny_call (cev_call F N (fun v ν' h' tk' hp F' N' => hQ v m ν' h' tk' hp F' N') (fun e ν' h' tk' hp F' N' => hE e m ν' h' tk' hp F' N') ho hcd hr (fun s _ => hbind s) hloc hck hcell h hR)
end
end Mine

namespace Mine
/-- a list's object; a tuple's -/
def LstO (o : Obj) (vs : List Value) : Prop := ∃ n, o = lstO vs n
def TupO (o : Obj) (vs : List Value) : Prop := ∃ n, o = tupO vs n
theorem lstO_mk {vs : List Value} {n : Nat} : LstO (lstO vs n) vs := ⟨n, rfl⟩
theorem tupO_mk {vs : List Value} {n : Nat} : TupO (tupO vs n) vs := ⟨n, rfl⟩
theorem LstO.at {h : Heap} {a : Addr} {o : Obj} {vs : List Value} (L : LstO o vs) (e : h.get? a = some o) : h.IsList a vs.toArray := by
  obtain ⟨n, rfl⟩ := L
  exact ⟨_, e, rfl, n, rfl⟩
theorem LstO.isL {h : Heap} {a : Addr} {o : Obj} {vs : List Value} (L : LstO o vs) (e : h.get? a = some o) : h.PlainList a vs.toArray := by
  obtain ⟨n, rfl⟩ := L
  exact ⟨n, e⟩
theorem LstO.cls {o : Obj} {vs : List Value} (L : LstO o vs) : o.cls = .type "list" := by
  obtain ⟨n, rfl⟩ := L
  rfl
theorem LstO.dict {o : Obj} {vs : List Value} (L : LstO o vs) : o.dict = none := by
  obtain ⟨n, rfl⟩ := L
  rfl
theorem TupO.at {h : Heap} {a : Addr} {o : Obj} {vs : List Value} (L : TupO o vs) (e : h.get? a = some o) : h.IsTuple a vs.toArray := by
  obtain ⟨n, rfl⟩ := L
  exact ⟨_, e, rfl, n, rfl⟩
theorem TupO.at' {h : Heap} {a : Addr} {o : Obj} {vs : List Value} (L : TupO o vs) (e : h.get? a = some o) : IsTup h a vs.toArray := by
  obtain ⟨n, rfl⟩ := L
  exact ⟨_, e, rfl, n, rfl⟩
theorem LstO.inj {o : Obj} {vs vs' : List Value} (a : LstO o vs) (b : LstO o vs') : vs = vs' := by
  obtain ⟨n, rfl⟩ := a
  obtain ⟨n', e'⟩ := b
  cases e'
  rfl
theorem TupO.inj {o : Obj} {vs vs' : List Value} (a : TupO o vs) (b : TupO o vs') : vs = vs' := by
  obtain ⟨n, rfl⟩ := a
  obtain ⟨n', e'⟩ := b
  cases e'
  rfl
/-- a list's object put anew -/
theorem lst_up {h : Heap} {l : Addr} {vs ws : List Value} {n : Nat} {f : Array Value → Array Value} (e : h.get? l = some (lstO vs n)) (hf : f vs.toArray = ws.toArray) : ∃ o', (h.update l (Obj.mapSeq f)).get? l = some o' ∧ LstO o' ws := by
  have q : Obj.mapSeq f (lstO vs n) = lstO ws (if (f vs.toArray).size == vs.toArray.size then n else n + 1) := by
    show (⟨_, _, .seq (f vs.toArray) _, _⟩ : Obj) = ⟨_, _, .seq ws.toArray _, _⟩
    rw [hf]
  exact ⟨_, (Heap.get?_update_self _ e (by rw [q]; rfl)).trans (by rw [q]), _, rfl⟩
abbrev kSub (c : Cx) (value slice : Expr) (P : Value → Loc → Led → Prop) (R : RX) : Value → Value → Loc → Led → Prop := fun o i m ν => EV c m ν (subscriptTail value slice o i) P R
section
variable {α β : Type} {c : Cx} {m : Loc} {ν : Led} {R : Value → Loc → Led → Prop} {env : Env}
variable {P : Value → Loc → Led → Prop} {PB : Bool → Loc → Led → Prop} {PF : Flow → Loc → Led → Prop} {PU : Unit → Loc → Led → Prop} {PL : List Value → Loc → Led → Prop}

theorem ev_Sub {value slice : Expr} {pos : Pos} (h : EV c m ν (eval value env) (kE c env slice (kSub c value slice P R) R) R) : EV c m ν (eval (.Subscript value slice pos) env) P R :=
  fun s Q E F N hQ hE => Subscript_ (h s _ E F N (fun v m₁ ν₁ h₁ k₁ x F₁ N₁ => x _ _ E F₁ N₁ (fun _ m₂ ν₂ h₂ k₂ y F₂ N₂ => y _ Q E F₂ N₂ hQ hE) hE) hE)
/-- a list's item at a place that lies in it -/
theorem ev_itemL {value slice : Expr} {l : Addr} {o : Obj} {vs : List Value} {k : Int} {u : Tok} {x : Value} (hm : (l, o) ∈ ν) (ho : LstO o vs) (h0 : 0 ≤ k) (hhi : k < 2 ^ 63) (hx : vs[k.toNat]? = some x) (h : P x m ν)
    (hs : subscripted slice false (.ref l) (.int k u) = operate [.ref l, .int k u] (getItem (.ref l) (.int k u)) := by with_unfolding_all rfl) : EV c m ν (subscriptTail value slice (.ref l) (.int k u)) P R :=
  fun s Q E F N hQ hE => tail_any (ho.at (N.get hm)).typeIs slot_list_getitem.lookup (wpAny_getItem_list (ho.at (N.get hm)) h0 hhi (by simpa using hx) (hQ _ _ _ s.heap s.toks h F N)) hs
theorem ev_itemT {value slice : Expr} {l : Addr} {o : Obj} {vs : List Value} {k : Int} {u : Tok} {j : Nat} {x : Value} (hm : (l, o) ∈ ν) (ho : TupO o vs) (hlo : -(2 ^ 63) ≤ k) (hhi : k < 2 ^ 63) (hj : seqIndex? k vs.length = some j) (hx : vs[j]? = some x) (h : P x m ν)
    (hs : subscripted slice false (.ref l) (.int k u) = operate [.ref l, .int k u] (getItem (.ref l) (.int k u)) := by with_unfolding_all rfl) : EV c m ν (subscriptTail value slice (.ref l) (.int k u)) P R :=
  fun s Q E F N hQ hE => item_tupleT (ho.at' (N.get hm)) hlo hhi hj hx (hQ _ _ _ s.heap s.toks h F N) hs

/-- one object of the ledger is turned -/
theorem ev_mut {t : Sem α} {P : α → Loc → Led → Prop} {v : α} {a : Addr} {o : Obj} {ν₁ : Led} (Good : Obj → Prop) (hν : ∀ p ∈ (a, o) :: ν₁, p ∈ ν) (hne : ∀ p ∈ ν₁, p.1 ≠ a)
    (ht : ∀ s (Q : α → Shared → Prop) E, s.heap.get? a = some o → (∀ h' tk' o', h'.get? a = some o' → Good o' → Heap.SameBut a s.heap h' → Q v { s with heap := h', toks := tk' }) → wpAny (model Pg c.w) c.A t Q E s)
    (h : ∀ o', Good o' → P v m ((a, o') :: ν₁)) : EV c m ν t P R := by
  intro s Q E F N hQ hE
  have N₁ : News c.h₀ c.L s.heap ((a, o) :: ν₁) := fun p hp => N p (hν p hp)
  refine ht s Q E (N₁ (a, o) (.head _)).1 fun h' tk' o' e g hs => ?_
  obtain ⟨F', N'⟩ := news_put F N₁ hne e hs
  exact hQ _ _ _ h' tk' (h o' g) F' N'
theorem ev_setL {l : Addr} {o : Obj} {vs : List Value} {k : Int} {t : Tok} {v : Value} {ν₁ : Led} (ho : LstO o vs) (hν : ∀ p ∈ (l, o) :: ν₁, p ∈ ν) (hne : ∀ p ∈ ν₁, p.1 ≠ l) (h0 : 0 ≤ k) (hhi : k < 2 ^ 63) (hn : k < vs.length)
    (h : ∀ o', LstO o' (vs.set k.toNat v) → PU () m ((l, o') :: ν₁)) : EV c m ν (setItem (.ref l) (.int k t) v) PU R :=
  ev_mut (fun o' => LstO o' (vs.set k.toNat v)) hν hne (fun s Q E e hQ => by
    obtain ⟨n, rfl⟩ := ho
    obtain ⟨o', e', g⟩ := lst_up (ws := vs.set k.toNat v) (f := (·.setIfInBounds k.toNat v)) e (by simp)
    exact ki_setAt (n := n) e h0 hhi (by simpa using hn) (hQ _ _ o' e' g (Heap.SameBut.update ..))) h
theorem ite_D {p : Prop} [Decidable p] {a b : Prop} (h : p → a) (h' : ¬ p → b) : if decide p = true then a else b := by
  by_cases q : p
  · simpa [q] using h q
  · simpa [q] using h' q
theorem ite_T {a b : Prop} (h : a) : if true = true then a else b := by rw [if_pos rfl]; exact h
theorem ite_F {a b : Prop} (h : b) : if false = true then a else b := by rw [if_neg Bool.false_ne_true]; exact h
end
end Mine

namespace Mine
section
variable {α β : Type} {c : Cx} {m : Loc} {ν : Led} {R : Value → Loc → Led → Prop} {env : Env}
variable {P : Value → Loc → Led → Prop} {PB : Bool → Loc → Led → Prop} {PF : Flow → Loc → Led → Prop} {PU : Unit → Loc → Led → Prop} {PO : Option Value → Loc → Led → Prop}

def LIt (o : Obj) (l : Addr) (i : Nat) : Prop := o.cls = .type "list_iterator" ∧ o.data = .fields #[.ref l, .int i 0]
def TIt (o : Obj) (l : Addr) (i : Nat) : Prop := o.cls = .type "tuple_iterator" ∧ o.data = .fields #[.ref l, .int i 0]
def RIt (o : Obj) (x left : Int) : Prop := o = { cls := .type "range_iterator", dict := none, data := .fields #[rawInt x, rawInt left, rawInt 1], slots := #[] }

theorem news_ext {h₀ h h' : Heap} {L a : Addr} {m : Loc} {ν₁ : Led} (F : Fr h₀ L h m) (N₁ : News h₀ L h ν₁) (haL : a ≠ L) (h0 : h₀.get? a = none) (hne : ∀ p ∈ ν₁, p.1 ≠ a) (he : Heap.ExtBut a h h') : Fr h₀ L h' m ∧ News h₀ L h' ν₁ :=
  ⟨⟨F.ns.extBut he (Ne.symm haL), fun b o e => he b o (fun q => by rw [q, h0] at e; cases e) (F.keep b o e), F.above⟩, fun p hp => ⟨he _ _ (hne p hp) (N₁ p hp).1, (N₁ p hp).2⟩⟩

/- an iterator is made -/
theorem ev_iterL {l : Addr} {o : Obj} {vs : List Value} (hm : (l, o) ∈ ν) (ho : LstO o vs) (h : ∀ it oi, Above it ν → LIt oi l 0 → P (.ref it) m ((it, oi) :: ν)) : EV c m ν (pyIter (.ref l)) P R :=
  fun s Q E F N hQ hE => wpAny_pyIter_list (ho.at (N.get hm)) (hQ _ m _ _ s.toks (h s.heap.objs.size _ (fun p hp => Heap.lt_size (N p hp).1) ⟨rfl, rfl⟩) (F.push _) (N.push F _ rfl))
theorem ev_iterT {l : Addr} {o : Obj} {vs : List Value} (hm : (l, o) ∈ ν) (ho : TupO o vs) (h : ∀ it oi, Above it ν → TIt oi l 0 → P (.ref it) m ((it, oi) :: ν)) : EV c m ν (pyIter (.ref l)) P R :=
  fun s Q E F N hQ hE => wpAny_pyIter_tuple (ho.at (N.get hm)) (hQ _ m _ _ s.toks (h s.heap.objs.size _ (fun p hp => Heap.lt_size (N p hp).1) ⟨rfl, rfl⟩) (F.push _) (N.push F _ rfl))
theorem small1 {n : Int} (h0 : 0 ≤ n) (h1 : n < 2 ^ 40) : Builtin.Range.small 0 n 1 = true ∧ Builtin.Range.rangeSize 0 n 1 = n := by
  have e : Builtin.Range.rangeSize 0 n 1 = n := by unfold Builtin.Range.rangeSize; simp; omega
  refine ⟨?_, e⟩
  unfold Builtin.Range.small
  rw [e]
  simp [Builtin.Range.rangeFitsLong]
  omega
/-- range(n) walked at once -/
theorem ev_range1 {n : Int} {t : Tok} (h : ∀ r t' u, Above r ν → P (.ref r) m ((r, { cls := .type "range", dict := none, data := .fields #[.int 0 t', .int n t, .int 1 u], slots := #[] }) :: ν)) : EV c m ν (call (.type "range") [.int n t]) P R :=
  fun s Q E F N hQ hE => call_range_1 (hQ _ m _ _ _ (h s.heap.objs.size _ _ (fun p hp => Heap.lt_size (N p hp).1)) (F.push _) (N.push F _ rfl))
theorem ev_iterR {r : Addr} {n : Int} {t t' u : Tok} (hm : (r, { cls := .type "range", dict := none, data := .fields #[.int 0 t', .int n t, .int 1 u], slots := #[] }) ∈ ν) (h0 : 0 ≤ n) (h1 : n < 2 ^ 40) (h : ∀ it oi, Above it ν → RIt oi 0 n → P (.ref it) m ((it, oi) :: ν)) : EV c m ν (pyIter (.ref r)) P R :=
  fun s Q E F N hQ hE => wpAny_pyIter_range (N.get hm) (small1 h0 h1).1 (hQ _ m _ _ s.toks (h s.heap.objs.size _ (fun p hp => Heap.lt_size (N p hp).1) (by unfold RIt; rw [(small1 h0 h1).2])) (F.push _) (N.push F _ rfl))
/- an iterator is asked -/
theorem ev_nextL {it l : Addr} {oi o : Obj} {i : Nat} {vs : List Value} {x : Value} {ν₁ : Led} (hi : LIt oi l i) (hm : (l, o) ∈ ν₁) (ho : LstO o vs) (hx : vs[i]? = some x) (hν : ∀ p ∈ (it, oi) :: ν₁, p ∈ ν) (hne : ∀ p ∈ ν₁, p.1 ≠ it)
    (h : ∀ oi', LIt oi' l (i + 1) → PO (some x) m ((it, oi') :: ν₁)) : EV c m ν (pyNext (.ref it)) PO R := by
  intro s Q E F N hQ hE
  have N₁ : News c.h₀ c.L s.heap ((it, oi) :: ν₁) := fun p hp => N p (hν p hp)
  refine wpAny_pyNext_list_item ⟨oi, (N₁ _ (.head _)).1, hi.1, hi.2⟩ (ho.at (N₁ _ (.tail _ hm)).1) (by simpa using hx) fun h' hit hs => ?_
  obtain ⟨o', e, h1, h2⟩ := hit
  obtain ⟨F', N'⟩ := news_put F N₁ hne e hs
  exact hQ _ _ _ h' s.toks (h o' ⟨h1, h2⟩) F' N'
theorem ev_endL {it l : Addr} {oi o : Obj} {i : Nat} {vs : List Value} {ν₁ : Led} (hi : LIt oi l i) (hm : (l, o) ∈ ν₁) (ho : LstO o vs) (hx : vs[i]? = none) (hν : ∀ p ∈ (it, oi) :: ν₁, p ∈ ν) (hne : ∀ p ∈ ν₁, p.1 ≠ it)
    (h : PO none m ν₁) : EV c m ν (pyNext (.ref it)) PO R := by
  intro s Q E F N hQ hE
  have N₁ : News c.h₀ c.L s.heap ((it, oi) :: ν₁) := fun p hp => N p (hν p hp)
  refine wpAny_pyNext_list_end c.hh ⟨oi, (N₁ _ (.head _)).1, hi.1, hi.2⟩ (ho.at (N₁ _ (.tail _ hm)).1) (by simpa using hx) fun h' he => ?_
  obtain ⟨F', N'⟩ := news_ext F (fun p hp => N₁ p (.tail _ hp)) (N₁ _ (.head _)).2.1 (N₁ _ (.head _)).2.2 hne he
  exact hQ _ _ _ h' s.toks h F' N'
theorem ev_nextT {it l : Addr} {oi o : Obj} {i : Nat} {vs : List Value} {x : Value} {ν₁ : Led} (hi : TIt oi l i) (hm : (l, o) ∈ ν₁) (ho : TupO o vs) (hx : vs[i]? = some x) (hν : ∀ p ∈ (it, oi) :: ν₁, p ∈ ν) (hne : ∀ p ∈ ν₁, p.1 ≠ it)
    (h : ∀ oi', TIt oi' l (i + 1) → PO (some x) m ((it, oi') :: ν₁)) : EV c m ν (pyNext (.ref it)) PO R := by
  intro s Q E F N hQ hE
  have N₁ : News c.h₀ c.L s.heap ((it, oi) :: ν₁) := fun p hp => N p (hν p hp)
  refine wpAny_pyNext_tuple_item ⟨oi, (N₁ _ (.head _)).1, hi.1, hi.2⟩ (ho.at (N₁ _ (.tail _ hm)).1) (by simpa using hx) fun h' hit hs => ?_
  obtain ⟨o', e, h1, h2⟩ := hit
  obtain ⟨F', N'⟩ := news_put F N₁ hne e hs
  exact hQ _ _ _ h' s.toks (h o' ⟨h1, h2⟩) F' N'
theorem ev_endT {it l : Addr} {oi o : Obj} {i : Nat} {vs : List Value} {ν₁ : Led} (hi : TIt oi l i) (hm : (l, o) ∈ ν₁) (ho : TupO o vs) (hx : vs[i]? = none) (hν : ∀ p ∈ (it, oi) :: ν₁, p ∈ ν) (hne : ∀ p ∈ ν₁, p.1 ≠ it)
    (h : PO none m ν₁) : EV c m ν (pyNext (.ref it)) PO R := by
  intro s Q E F N hQ hE
  have N₁ : News c.h₀ c.L s.heap ((it, oi) :: ν₁) := fun p hp => N p (hν p hp)
  refine wpAny_pyNext_tuple_end c.hh ⟨oi, (N₁ _ (.head _)).1, hi.1, hi.2⟩ (ho.at (N₁ _ (.tail _ hm)).1) (by simpa using hx) fun h' he => ?_
  obtain ⟨F', N'⟩ := news_ext F (fun p hp => N₁ p (.tail _ hp)) (N₁ _ (.head _)).2.1 (N₁ _ (.head _)).2.2 hne he
  exact hQ _ _ _ h' s.toks h F' N'
theorem ev_nextR {it : Addr} {oi : Obj} {x left : Int} {ν₁ : Led} (hi : RIt oi x left) (hx : 0 < left) (hν : ∀ p ∈ (it, oi) :: ν₁, p ∈ ν) (hne : ∀ p ∈ ν₁, p.1 ≠ it)
    (h : ∀ oi' t, RIt oi' (x + 1) (left - 1) → PO (some (.int x t)) m ((it, oi') :: ν₁)) : EV c m ν (pyNext (.ref it)) PO R := by
  intro s Q E F N hQ hE
  have N₁ : News c.h₀ c.L s.heap ((it, oi) :: ν₁) := fun p hp => N p (hν p hp)
  have e0 := (N₁ _ (.head _)).1
  rw [hi] at e0
  refine wpAny_pyNext_range_item (step := 1) e0 hx fun h' hit hs => ?_
  obtain ⟨F', N'⟩ := news_put F N₁ hne hit hs
  exact hQ _ _ _ h' _ (h _ _ rfl) F' N'
theorem ev_endR {it : Addr} {oi : Obj} {x left : Int} {ν₁ : Led} (hi : RIt oi x left) (hx : left ≤ 0) (hν : ∀ p ∈ (it, oi) :: ν₁, p ∈ ν) (hne : ∀ p ∈ ν₁, p.1 ≠ it)
    (h : PO none m ν₁) : EV c m ν (pyNext (.ref it)) PO R := by
  intro s Q E F N hQ hE
  have N₁ : News c.h₀ c.L s.heap ((it, oi) :: ν₁) := fun p hp => N p (hν p hp)
  have e0 := (N₁ _ (.head _)).1
  rw [hi] at e0
  refine wpAny_pyNext_range_end (step := 1) c.hh e0 hx fun h' he => ?_
  obtain ⟨F', N'⟩ := news_ext F (fun p hp => N₁ p (.tail _ hp)) (N₁ _ (.head _)).2.1 (N₁ _ (.head _)).2.2 hne he
  exact hQ _ _ _ h' s.toks h F' N'

/- loops -/
/-- what an exception meets that leaves a loop's own activation (env's) -/
def cameBack (e : Value) (env : Env) : Sem Unit := do
  if (← field e 1) == .none then unsupported "frame.own-activation:exception-without-traceback"
  setFlight e env.frame
def OutOfLoop (c : Cx) (env : Env) (Rb R : RX) : Prop := ∀ e m ν, Rb e m ν → EV c m ν (noteFrame e env) (fun _ m₁ ν₁ => EV c m₁ ν₁ (cameBack e env) (fun _ => R e) NoX) NoX
theorem outNoX {c : Cx} {env : Env} {R : RX} : OutOfLoop c env NoX R := fun _ _ _ h => h.elim

def Turned (J : Nat → Loc → Led → Prop) (k : Nat) (PF : Flow → Loc → Led → Prop) : Flow → Loc → Led → Prop
  | .next, m, ν | .cont, m, ν => ∃ k', k' < k ∧ J k' m ν
  | .brk, m, ν => PF .next m ν
  | .ret v, m, ν => PF (.ret v) m ν
def ForTurn (c : Cx) (env : Env) (target : Expr) (it : Value) (body : List Stmt) (J : Nat → Loc → Led → Prop) (k : Nat) (PF : Flow → Loc → Led → Prop) (Rb : RX) : Option Value → Loc → Led → Prop
  | none, m, ν => PF .next m ν
  | some v, m, ν => EV c m ν (letOwnedTupleGo target it v) (fun _ m₁ ν₁ => EV c m₁ ν₁ (assign target env v) (fun _ m₂ ν₂ => EV c m₂ ν₂ (execs body env) (Turned J k PF) Rb) Rb) Rb
theorem ev_For {target iter : Expr} {body : List Stmt} {pos : Pos} {Rb : RX}
    (h : EV c m ν (eval iter env) (fun x m₁ ν₁ => EV c m₁ ν₁ (pyIter x) (fun it m₂ ν₂ => ∃ (J : Nat → Loc → Led → Prop) (n : Nat), J n m₂ ν₂ ∧ ∀ k m₃ ν₃, J k m₃ ν₃ → EV c m₃ ν₃ (pyNext it) (ForTurn c env target it body J k PF Rb) Rb) R) R)
    (hX : OutOfLoop c env Rb R) (hs : ∀ x, foldedSetIterable iter env x = pure x := by intro _; rfl) : EV c m ν (exec (.For target iter body [] pos) env) PF R := by
  intro s Q E F N hQ hE
  refine wpAny_For (h s _ E F N (fun x m₁ ν₁ h₁ k₁ a F₁ N₁ => a _ _ E F₁ N₁ (fun it m₂ ν₂ h₂ k₂ b F₂ N₂ => ?_) hE) hE) hs
  obtain ⟨J, n, j0, turn⟩ := b
  have ex : ∀ e m₄ ν₄ h₄ k₄, Rb e m₄ ν₄ → Fr c.h₀ c.L h₄ m₄ → News c.h₀ c.L h₄ ν₄ → notedBy (model Pg c.w) c.A env (fun e s' => cameBackBy (model Pg c.w) c.A env E e s') e { s with heap := h₄, toks := k₄ } := by
    intro e m₄ ν₄ h₄ k₄ x F₄ N₄
    exact hX e m₄ ν₄ x _ _ _ F₄ N₄ (fun _ m₅ ν₅ h₅ k₅ y F₅ N₅ => y _ _ _ F₅ N₅ (fun _ m₆ ν₆ h₆ k₆ z F₆ N₆ => hE _ _ _ _ _ z F₆ N₆) (fun _ _ _ _ _ z => z.elim)) (fun _ _ _ _ _ z => z.elim)
  refine codeAny_forLoop_any (fun k s' => ∃ h' tk m' ν', s' = { s with heap := h', toks := tk } ∧ J k m' ν' ∧ Fr c.h₀ c.L h' m' ∧ News c.h₀ c.L h' ν') ?_ n ⟨h₂, k₂, m₂, ν₂, rfl, j0, F₂, N₂⟩
  rintro k s' ⟨h', tk, m', ν', rfl, hj, F', N'⟩
  refine turn k m' ν' hj _ _ _ F' N' (fun r m₃ ν₃ h₃ k₃ a F₃ N₃ => ?_) (fun e m₄ ν₄ h₄ k₄ x F₄ N₄ => ex e m₄ ν₄ h₄ k₄ x F₄ N₄)
  cases r with
  | none => exact wpAny_execs_nil (hQ _ _ _ _ _ a F₃ N₃)
  | some v =>
    refine a _ _ _ F₃ N₃ (fun _ m₄ ν₄ h₄ k₄ b F₄ N₄ => b _ _ _ F₄ N₄ (fun _ m₅ ν₅ h₅ k₅ d F₅ N₅ => d _ _ _ F₅ N₅ (fun f m₆ ν₆ h₆ k₆ g F₆ N₆ => ?_) (fun e m₄ ν₄ h₄ k₄ x F₄ N₄ => ex e m₄ ν₄ h₄ k₄ x F₄ N₄)) (fun e m₄ ν₄ h₄ k₄ x F₄ N₄ => ex e m₄ ν₄ h₄ k₄ x F₄ N₄)) (fun e m₄ ν₄ h₄ k₄ x F₄ N₄ => ex e m₄ ν₄ h₄ k₄ x F₄ N₄)
    cases f with
    | next => obtain ⟨k', hk, j'⟩ := g; exact ⟨k', hk, h₆, k₆, m₆, ν₆, rfl, j', F₆, N₆⟩
    | cont => obtain ⟨k', hk, j'⟩ := g; exact ⟨k', hk, h₆, k₆, m₆, ν₆, rfl, j', F₆, N₆⟩
    | brk => exact hQ _ _ _ _ _ g F₆ N₆
    | ret v => exact hQ _ _ _ _ _ g F₆ N₆
theorem ev_While {test : Expr} {body : List Stmt} {pos : Pos} {Rb : RX} (J : Nat → Loc → Led → Prop) (n : Nat) (h0 : J n m ν)
    (turn : ∀ k m₃ ν₃, J k m₃ ν₃ → EV c m₃ ν₃ (isTrue test env (eval test env)) (fun b m₄ ν₄ => if b then EV c m₄ ν₄ (execs body env) (Turned J k PF) Rb else PF .next m₄ ν₄) Rb)
    (hX : OutOfLoop c env Rb R) : EV c m ν (exec (.While test body [] pos) env) PF R := by
  intro s Q E F N hQ hE
  have ex : ∀ e m₄ ν₄ h₄ k₄, Rb e m₄ ν₄ → Fr c.h₀ c.L h₄ m₄ → News c.h₀ c.L h₄ ν₄ → notedBy (model Pg c.w) c.A env (fun e s' => cameBackBy (model Pg c.w) c.A env E e s') e { s with heap := h₄, toks := k₄ } := by
    intro e m₄ ν₄ h₄ k₄ x F₄ N₄
    exact hX e m₄ ν₄ x _ _ _ F₄ N₄ (fun _ m₅ ν₅ h₅ k₅ y F₅ N₅ => y _ _ _ F₅ N₅ (fun _ m₆ ν₆ h₆ k₆ z F₆ N₆ => hE _ _ _ _ _ z F₆ N₆) (fun _ _ _ _ _ z => z.elim)) (fun _ _ _ _ _ z => z.elim)
  refine wpAny_While (codeAny_whileLoop (fun k s' => ∃ h' tk m' ν', s' = { s with heap := h', toks := tk } ∧ J k m' ν' ∧ Fr c.h₀ c.L h' m' ∧ News c.h₀ c.L h' ν') ?_ n ⟨s.heap, s.toks, m, ν, rfl, h0, F, N⟩)
  rintro k s' ⟨h', tk, m', ν', rfl, hj, F', N'⟩
  refine turn k m' ν' hj _ _ _ F' N' (fun b m₃ ν₃ h₃ k₃ a F₃ N₃ => ?_) (fun e m₄ ν₄ h₄ k₄ x F₄ N₄ => ex e m₄ ν₄ h₄ k₄ x F₄ N₄)
  cases b with
  | false => exact wpAny_execs_nil (hQ _ _ _ _ _ a F₃ N₃)
  | true =>
    refine a _ _ _ F₃ N₃ (fun f m₆ ν₆ h₆ k₆ g F₆ N₆ => ?_) (fun e m₄ ν₄ h₄ k₄ x F₄ N₄ => ex e m₄ ν₄ h₄ k₄ x F₄ N₄)
    cases f with
    | next => obtain ⟨k', hk, j'⟩ := g; exact ⟨k', hk, h₆, k₆, m₆, ν₆, rfl, j', F₆, N₆⟩
    | cont => obtain ⟨k', hk, j'⟩ := g; exact ⟨k', hk, h₆, k₆, m₆, ν₆, rfl, j', F₆, N₆⟩
    | brk => exact hQ _ _ _ _ _ g F₆ N₆
    | ret v => exact hQ _ _ _ _ _ g F₆ N₆
end
end Mine

namespace Mine
section
variable {α β : Type} {c : Cx} {m : Loc} {ν : Led} {R : Value → Loc → Led → Prop} {env : Env}
variable {P : Value → Loc → Led → Prop} {PB : Bool → Loc → Led → Prop} {PF : Flow → Loc → Led → Prop} {PU : Unit → Loc → Led → Prop} {PO : Option Value → Loc → Led → Prop}

/-- the comprehension's tests: none or one -/
def testsOf (ifs : List Expr) (cenv : Env) : Sem Bool := forIn ifs true fun c r => if r = true then do let ok ← isTrue c cenv (eval c cenv); pure (ForInStep.yield ok) else pure (ForInStep.yield r)
theorem ev_tests0 {cenv : Env} (h : PB true m ν) : EV c m ν (testsOf [] cenv) PB R := fun s Q E F N hQ hE => wpAny_pure (hQ _ _ _ s.heap s.toks h F N)
theorem ev_tests1 {cenv : Env} {t : Expr} (h : EV c m ν (isTrue t cenv (eval t cenv)) PB R) : EV c m ν (testsOf [t] cenv) PB R := by
  intro s Q E F N hQ hE
  unfold testsOf
  simp only [List.forIn_cons, List.forIn_nil, if_true]
  refine wpAny_bind (wpAny_bind (h s _ E F N (fun b m₁ ν₁ h₁ k₁ x F₁ N₁ => wpAny_pure (wpAny_pure (hQ _ _ _ _ _ x F₁ N₁))) hE))

def Back (J : Nat → Loc → Led → Prop) (k : Nat) : Loc → Led → Prop := fun m ν => ∃ k', k' < k ∧ J k' m ν
abbrev kApp (c : Cx) (acc : Value) (P : Loc → Led → Prop) (R : RX) : Value → Loc → Led → Prop := fun y m ν => EV c m ν (call (.builtin "list.append") [acc, y]) (fun _ => P) R
abbrev kElt (c : Cx) (cenv : Env) (elt : Expr) (acc : Value) (P : Loc → Led → Prop) (R : RX) : Bool → Loc → Led → Prop := fun ok m ν => if ok then EV c m ν (eval elt cenv) (kApp c acc P R) R else P m ν
def CompTurn (c : Cx) (cenv : Env) (target : Expr) (it : Value) (ifs : List Expr) (elt : Expr) (acc : Value) (J : Nat → Loc → Led → Prop) (k : Nat) (PE : Loc → Led → Prop) (Rb : RX) : Option Value → Loc → Led → Prop
  | none, m, ν => PE m ν
  | some v, m, ν => EV c m ν (letOwnedTupleGo target it v) (fun _ m₁ ν₁ => EV c m₁ ν₁ (assign target cenv v) (fun _ m₂ ν₂ => EV c m₂ ν₂ (testsOf ifs cenv) (kElt c cenv elt acc (Back J k) Rb) Rb) Rb) Rb
/-- behind the comprehension: its own names' dict C is let go -/
def CompPE (C : Addr) (P : Loc → Led → Prop) : Loc → Led → Prop := fun m ν => ∃ oC mC ν₁, NsObj oC mC ∧ (∀ p ∈ (C, oC) :: ν₁, p ∈ ν) ∧ (∀ p ∈ ν₁, p.1 ≠ C) ∧ P m ν₁
def CompIt (c : Cx) (env : Env) (scope : Scope) (cl : List (Str × Addr)) (target : Expr) (ifs : List Expr) (elt : Expr) (P : Value → Loc → Led → Prop) (Rb : RX) : Value → Loc → Led → Prop := fun it m ν =>
  ∀ D C oC, Above D ν → @LT.lt Nat _ D C → NsObj oC (fun _ => none) → EV c m ((C, oC) :: (D, lstO []) :: ν) (pyIter it) (fun it' m' ν' => it' = it ∧ m' = m ∧ ν' = (C, oC) :: (D, lstO []) :: ν) NoX ∧
    ∃ (J : Nat → Loc → Led → Prop) (n : Nat), J n m ((C, oC) :: (D, lstO []) :: ν) ∧ ∀ k m₁ ν₁, J k m₁ ν₁ → EV c m₁ ν₁ (pyNext it) (CompTurn c (compEnvC scope cl C env) target it ifs elt (.ref D) J k (CompPE C (P (.ref D))) Rb) Rb

/-- the exceptional way out of a comprehension -/
def OutOfComp (c : Cx) (env : Env) (scope : Scope) (cl : List (Str × Addr)) (Rb R : RX) : Prop := ∀ C e m ν, Rb e m ν → EV c m ν (noteFrame e (compEnvC scope cl C env)) (fun _ m₁ ν₁ => ∃ oC mC ν₂, NsObj oC mC ∧ (∀ p ∈ (C, oC) :: ν₂, p ∈ ν₁) ∧ (∀ p ∈ ν₂, p.1 ≠ C) ∧ ∀ cenv : Env, cenv.locals = C → EV c m₁ ν₂ (passOn "comprehension.variables-let-go" e cenv : Sem Value) (fun _ _ _ => False) R) NoX
theorem outCompNoX {scope : Scope} {cl : List (Str × Addr)} {R : RX} : OutOfComp c env scope cl NoX R := fun _ _ _ _ h => h.elim

theorem ev_ListComp {elt target iter : Expr} {ifs : List Expr} {scope : Scope} {cl : List (Str × Addr)} {pos : Pos} {Rb : RX}
    (h : EV c m ν (eval iter env) (fun x m₁ ν₁ => EV c m₁ ν₁ (pyIter x) (CompIt c env scope cl target ifs elt P Rb) R) R)
    (hX : OutOfComp c env scope cl Rb R)
    (hclos : closureFor scope env = pure cl) (hcell : ∀ y ∈ scope.names, y.2 ≠ .cell) (hkind : scope.kind = .function)
    (hnames : ∀ x ∈ scope.names, x.2 = .local → scope.names.lookup x.1 = some .local) (hs : ∀ x, foldedSetIterable iter env x = pure x) :
    EV c m ν (eval (.ListComp elt [⟨target, iter, ifs, 0⟩] scope pos) env) P R := by
  intro s Q E F N hQ hE
  show wpAny _ _ (comprehension (.ListComp elt [⟨target, iter, ifs, 0⟩] scope pos) scope env iter.pos (newList []) false (eval iter env)) Q E s
  refine wpAny_comprehension_free (g := ⟨target, iter, ifs, 0⟩) (gs := []) rfl hs hclos hkind hnames ?_
  refine h s _ E F N (fun x m₁ ν₁ h₁ k₁ a F₁ N₁ => a _ _ E F₁ N₁ (fun it m₂ ν₂ h₂ k₂ b F₂ N₂ => ?_) hE) hE
  refine wpAny_newObj_type (wpAny_newFunctionEnv hcell (by intro y hy; simp at hy) (fun h₃ hns hsb => ?_) hkind)
  dsimp only at hns hsb ⊢
  generalize hH : h₂.push { cls := .type "list", dict := none, data := .seq ([] : List Value).toArray } = H at hns hsb ⊢
  have hD : H.objs.size = h₂.objs.size + 1 := by rw [← hH, Heap.size_push]
  obtain ⟨oC, heC, hoC⟩ := ns_obj hns
  have hDC : h₂.objs.size < H.objs.size := by rw [hD]; exact Nat.lt_succ_self _
  have old : ∀ b o, H.get? b = some o → h₃.get? b = some o := fun b o e => hsb.extBut b o (Nat.ne_of_lt (Heap.lt_size e)) (Heap.get?_push_of_some _ e)
  have FH : Fr c.h₀ c.L H m₂ := hH ▸ F₂.push _
  have NH : News c.h₀ c.L H ((h₂.objs.size, lstO []) :: ν₂) := hH ▸ N₂.push F₂ _ rfl
  have F₃ : Fr c.h₀ c.L h₃ m₂ := FH.keeps old
  have N₃ : News c.h₀ c.L h₃ ((H.objs.size, oC) :: (h₂.objs.size, lstO []) :: ν₂) := by
    intro p hp
    rcases List.mem_cons.mp hp with rfl | hp
    · refine ⟨heC, Nat.ne_of_gt FH.ns.lt, ?_⟩
      cases hq : c.h₀.get? H.objs.size with
      | none => rfl
      | some o' => exact absurd (Heap.lt_size (FH.keep _ _ hq)) (Nat.lt_irrefl _)
    · exact ⟨old _ _ (NH p hp).1, (NH p hp).2⟩
  obtain ⟨self, J, n, j0, turn⟩ := b h₂.objs.size H.objs.size oC (fun p hp => Heap.lt_size (N₂ p hp).1) hDC hoC
  have post : ∀ e m₄ ν₄ h₄ k₄, Rb e m₄ ν₄ → Fr c.h₀ c.L h₄ m₄ → News c.h₀ c.L h₄ ν₄ →
      notedBy (model Pg c.w) c.A (compEnvC scope cl H.objs.size env) (fun e s' => compPost (model Pg c.w) c.A E none Q (.ref h₂.objs.size) H.objs.size (.error e) s') e { s with heap := h₄, toks := k₄ } := by
    intro e m₄ ν₄ h₄ k₄ x F₄ N₄
    refine hX H.objs.size e m₄ ν₄ x _ _ _ F₄ N₄ (fun _ m₅ ν₅ h₅ k₅ y F₅ N₅ => ?_) (fun _ _ _ _ _ z => z.elim)
    obtain ⟨oC', mC, ν₆, g1, g2, g3, g4⟩ := y
    have M := N₅ _ (g2 _ (.head _))
    refine ⟨mC, g1.ns M.1, fun h' hs' cenv hc => ?_⟩
    obtain ⟨F', N'⟩ := news_ext F₅ (fun p hp => N₅ p (g2 _ (.tail _ hp))) M.2.1 M.2.2 g3 hs'.extBut
    exact g4 cenv hc { s with heap := h', toks := k₅ } _ _ F' N' (fun _ _ _ _ _ z => z.elim) (fun e' m' ν' h'' tk' z F'' N'' => hE _ _ _ _ _ z F'' N'')
  have loop : ∀ s₃ : Shared, (∃ h' tk, s₃ = { s with heap := h', toks := tk } ∧ Fr c.h₀ c.L h' m₂ ∧ News c.h₀ c.L h' ((H.objs.size, oC) :: (h₂.objs.size, lstO []) :: ν₂)) →
      codeAny (model Pg c.w) c.A (.compLoop (.ListComp elt [⟨target, iter, ifs, 0⟩] scope pos) 0 it (.ref h₂.objs.size) (compEnvC scope cl H.objs.size env)) (compPost (model Pg c.w) c.A E none Q (.ref h₂.objs.size) H.objs.size) s₃ := by
    rintro s₃ ⟨h', tk, rfl, F', N'⟩
    refine codeAny_loop rfl (fun k s' => ∃ h' tk m' ν', s' = { s with heap := h', toks := tk } ∧ J k m' ν' ∧ Fr c.h₀ c.L h' m' ∧ News c.h₀ c.L h' ν') (fun k s' hI => ?_) n ⟨h', tk, m₂, _, rfl, j0, F', N'⟩
    obtain ⟨h', tk, m', ν', rfl, hj, F', N'⟩ := hI
    show wpAny _ c.A ((compTurn (.ListComp elt [⟨target, iter, ifs, 0⟩] scope pos) 0 it (.ref h₂.objs.size) (compEnvC scope cl H.objs.size env)).onRaise (fun x => do noteFrame x (compEnvC scope cl H.objs.size env); theTreesLotGoes x)) _ _ _
    refine wpAny_noted ?_
    rw [compTurn_list]
    refine wpAny_bind (wpAny_standAt (wpAny_bind (turn k m' ν' hj _ _ _ F' N' (fun r m₄ ν₄ h₄ k₄ g F₄ N₄ => ?_) (fun e m₄ ν₄ h₄ k₄ x F₄ N₄ => post e m₄ ν₄ h₄ k₄ x F₄ N₄))))
    cases r with
    | none =>
      refine wpAny_pure ?_
      obtain ⟨oC', mC, ν₆, g1, g2, g3, g4⟩ := g
      have M := N₄ _ (g2 _ (.head _))
      refine ⟨mC, g1.ns M.1, fun h' hs' => ?_⟩
      obtain ⟨F'', N''⟩ := news_ext F₄ (fun p hp => N₄ p (g2 _ (.tail _ hp))) M.2.1 M.2.2 g3 hs'.extBut
      exact hQ _ _ _ _ _ g4 F'' N''
    | some v =>
      refine wpAny_bind (g _ _ _ F₄ N₄ (fun _ m₅ ν₅ h₅ k₅ g₅ F₅ N₅ => ?_) (fun e m₄ ν₄ h₄ k₄ x F₄ N₄ => post e m₄ ν₄ h₄ k₄ x F₄ N₄))
      refine wpAny_bind (g₅ _ _ _ F₅ N₅ (fun _ m₆ ν₆ h₆ k₆ g₆ F₆ N₆ => ?_) (fun e m₄ ν₄ h₄ k₄ x F₄ N₄ => post e m₄ ν₄ h₄ k₄ x F₄ N₄))
      refine wpAny_bind (g₆ _ _ _ F₆ N₆ (fun ok m₇ ν₇ h₇ k₇ g₇ F₇ N₇ => ?_) (fun e m₄ ν₄ h₄ k₄ x F₄ N₄ => post e m₄ ν₄ h₄ k₄ x F₄ N₄))
      cases ok with
      | false =>
        refine wpAny_pure ?_
        obtain ⟨k', hk, j'⟩ := g₇
        exact ⟨rfl, k', hk, h₇, k₇, m₇, ν₇, rfl, j', F₇, N₇⟩
      | true =>
        refine wpAny_bind (wpAny_bind (g₇ _ _ _ F₇ N₇ (fun y m₈ ν₈ h₈ k₈ g₈ F₈ N₈ => wpAny_bind (g₈ _ _ _ F₈ N₈ (fun _ m₉ ν₉ h₉ k₉ g₉ F₉ N₉ => wpAny_pure (wpAny_pure ?_)) (fun e m₄ ν₄ h₄ k₄ x F₄ N₄ => post e m₄ ν₄ h₄ k₄ x F₄ N₄))) (fun e m₄ ν₄ h₄ k₄ x F₄ N₄ => post e m₄ ν₄ h₄ k₄ x F₄ N₄)))
        obtain ⟨k', hk, j'⟩ := g₉
        exact ⟨rfl, k', hk, h₉, k₉, m₉, ν₉, rfl, j', F₉, N₉⟩
  refine codeAny_compStart_list (loop _ ⟨h₃, _, rfl, F₃, N₃⟩) (self _ _ _ F₃ N₃ (fun it' m₄ ν₄ h₄ k₄ g F₄ N₄ => ?_) (fun _ _ _ _ _ z => z.elim))
  obtain ⟨rfl, rfl, rfl⟩ := g
  exact loop _ ⟨h₄, k₄, rfl, F₄, N₄⟩

theorem ev_selfL {it l : Addr} {oi : Obj} {i : Nat} (hm : (it, oi) ∈ ν) (hi : LIt oi l i) (h : P (.ref it) m ν) : EV c m ν (pyIter (.ref it)) P R :=
  fun s Q E F N hQ hE => wpAny_pyIter_listiter (i := i) (l := l) ⟨oi, N.get hm, hi.1, hi.2⟩ (hQ _ _ _ s.heap s.toks h F N)
theorem ev_selfT {it l : Addr} {oi : Obj} {i : Nat} (hm : (it, oi) ∈ ν) (hi : TIt oi l i) (h : P (.ref it) m ν) : EV c m ν (pyIter (.ref it)) P R :=
  fun s Q E F N hQ hE => wpAny_pyIter_tupleiter (i := i) (t := l) ⟨oi, N.get hm, hi.1, hi.2⟩ (hQ _ _ _ s.heap s.toks h F N)
theorem ev_selfR {it : Addr} {oi : Obj} {x left : Int} (hm : (it, oi) ∈ ν) (hi : RIt oi x left) (h : P (.ref it) m ν) : EV c m ν (pyIter (.ref it)) P R :=
  fun s Q E F N hQ hE => wpAny_pyIter_rangeiter (x := x) (left := left) (step := 1) (by have e := N.get hm; rw [hi] at e; exact e) (hQ _ _ _ s.heap s.toks h F N)

/-- names of a comprehension's own dict -/
theorem ev_localC {x : Str} {pos : Pos} {v : Value} {C : Addr} {oC : Obj} {mC : Loc} (hm : (C, oC) ∈ ν) (hC : NsObj oC mC) (hv : mC x = some v) (h : P v m ν) (hL : env.locals = C) (hk : env.scope.kind = .function) (hx : env.kindOf x = some .local)
    (hd : (x == ("__debug__" : Str)) = false) : EV c m ν (eval (.Name x pos) env) P R :=
  fun s Q E F N hQ hE => wpAny_Name (wpAny_loadName_local hk hx (hL ▸ hC.ns (N.get hm)) hv (hQ _ _ _ s.heap s.toks h F N)) hd
theorem ev_storeC {x : Str} {v : Value} {C : Addr} {oC : Obj} {mC : Loc} {ν₁ : Led} (hC : NsObj oC mC) (hν : ∀ p ∈ (C, oC) :: ν₁, p ∈ ν) (hne : ∀ p ∈ ν₁, p.1 ≠ C) (h : ∀ oC', NsObj oC' (upd mC x v) → PU () m ((C, oC') :: ν₁)) (hL : env.locals = C) (hk : env.scope.kind = .function) (hx : env.kindOf x = some .local) :
    EV c m ν (storeName env x v) PU R :=
  ev_mut (fun o' => NsObj o' (upd mC x v)) hν hne (fun s Q E e hQ => wpAny_storeName_local hx (hL ▸ hC.ns e) (fun h' hn hs => by
    obtain ⟨o', e', hn'⟩ := ns_obj hn
    exact hQ h' _ o' (hL ▸ e') hn' (hL ▸ hs)) (by rw [hk]; rfl)) h
theorem ev_assignName {x : Str} {pos : Pos} {v : Value} (h : EV c m ν (storeName env x v) PU R) : EV c m ν (assign (.Name x pos) env v) PU R :=
  fun s Q E F N hQ hE => wpAny_assign_Name (h s Q E F N hQ hE)
theorem ev_goName {x : Str} {pos : Pos} {it v : Value} (h : PU () m ν) : EV c m ν (letOwnedTupleGo (.Name x pos) it v) PU R := ev_pure h
theorem ev_append {l : Addr} {o : Obj} {vs : List Value} {x : Value} {ν₁ : Led} (ho : LstO o vs) (hν : ∀ p ∈ (l, o) :: ν₁, p ∈ ν) (hne : ∀ p ∈ ν₁, p.1 ≠ l) (hsz : vs.length ≤ sizeLine) (h : ∀ o', LstO o' (vs ++ [x]) → P .none m ((l, o') :: ν₁)) :
    EV c m ν (call (.builtin "list.append") [.ref l, x]) P R :=
  ev_mut (fun o' => LstO o' (vs ++ [x])) hν hne (fun s Q E e hQ => wpAny_list_append_plain (ho.isL e) (fun h' hl hs => by
    obtain ⟨n, e'⟩ := hl
    exact hQ h' s.toks _ e' ⟨n, by rw [List.push_toArray]⟩ hs) (by simpa using hsz)) h
end
end Mine

namespace Mine
abbrev kCall (c : Cx) (env : Env) (pos : Pos) (args : List Expr) (P : Value → Loc → Led → Prop) (R : RX) : Value → Loc → Led → Prop := fun f m ν => EV c m ν (callWith pos f [] (backTo pos (starEach args env)) []) P R
abbrev kArgs (c : Cx) (f : Value) (first : List Value) (P : Value → Loc → Led → Prop) (R : RX) : List Value → Loc → Led → Prop := fun vs m ν => EV c m ν (call f (first ++ vs)) P R
abbrev kA0 (c : Cx) (f : Value) (P : Value → Loc → Led → Prop) (R : RX) : List Value → Loc → Led → Prop := fun vs m ν => EV c m ν (call f vs) P R
abbrev kA1 (c : Cx) (f x : Value) (P : Value → Loc → Led → Prop) (R : RX) : List Value → Loc → Led → Prop := fun vs m ν => EV c m ν (call f (x :: vs)) P R
abbrev kMeth (c : Cx) (env : Env) (pos : Pos) (args : List Expr) (P : Value → Loc → Led → Prop) (R : RX) : Value × List Value → Loc → Led → Prop := fun fx m ν => EV c m ν (callWith pos fx.1 fx.2 (backTo pos (starEach args env)) []) P R
abbrev kGetM (c : Cx) (env : Env) (name : Str) (pl : Sem Bool) (pos : Pos) (args : List Expr) (P : Value → Loc → Led → Prop) (R : RX) : Value → Loc → Led → Prop := fun ov m ν => EV c m ν (getMethod ov name pl) (kMeth c env pos args P R) R
abbrev kGetA (c : Cx) (attr : Str) (P : Value → Loc → Led → Prop) (R : RX) : Value → Loc → Led → Prop := fun o m ν => EV c m ν (getAttr o attr true) P R
section
variable {α β : Type} {c : Cx} {m : Loc} {ν : Led} {R : Value → Loc → Led → Prop} {env : Env}
variable {P : Value → Loc → Led → Prop} {PB : Bool → Loc → Led → Prop} {PF : Flow → Loc → Led → Prop} {PU : Unit → Loc → Led → Prop} {PO : Option Value → Loc → Led → Prop} {PM : Value × List Value → Loc → Led → Prop}

theorem ev_Call {func : Expr} {args : List Expr} {pos : Pos} (h : EV c m ν (eval func env) (kCall c env pos args P R) R) (he : eval (.Call func args [] pos) env = (do callWith pos (← eval func env) [] (backTo pos (starEach args env)) (backToKw pos (keywordEach [] env)))) : EV c m ν (eval (.Call func args [] pos) env) P R :=
  fun s Q E F N hQ hE => Call_ (h s _ E F N (fun v m₁ ν₁ h₁ k₁ x F₁ N₁ => x _ Q E F₁ N₁ hQ hE) hE) he
theorem ev_CallM {o : Expr} {name : Str} {apos pos : Pos} {args : List Expr} {pl : Sem Bool} (h : EV c m ν (eval o env) (kGetM c env name pl pos args P R) R)
    (he : eval (.Call (.Attribute o name apos) args [] pos) env = (do let ov ← eval o env; standAt apos.atName; let (f, first) ← holding [ov] (getMethod ov name pl); callWith pos f first (backTo pos (starEach args env)) [])) : EV c m ν (eval (.Call (.Attribute o name apos) args [] pos) env) P R :=
  fun s Q E F N hQ hE => MethodCall_ (h s _ E F N (fun v m₁ ν₁ h₁ k₁ x F₁ N₁ => x _ _ E F₁ N₁ (fun v m₁ ν₁ h₁ k₁ x F₁ N₁ => x _ Q E F₁ N₁ hQ hE) hE) hE) he
theorem ev_cwF {f : Addr} {first : List Value} {e : Expr} {rest : List Expr} {pos : Pos} (hk : keepIn (fr.heap_1 c.w.params) (.ref f) = true) (h : EV c m ν (spliced (backTo pos (starEach (e :: rest) env))) (kArgs c (.ref f) first P R) R)
    (he : starEach (e :: rest) env = (false, eval e env) :: starEach rest env) (hplain : (backTo pos (starEach rest env)).any (·.1) = false) : EV c m ν (callWith pos (.ref f) first (backTo pos (starEach (e :: rest) env)) []) P R :=
  fun s Q E F N hQ hE => callWith_K c.X hk (h s _ E F N (fun v m₁ ν₁ h₁ k₁ x F₁ N₁ => ⟨c.X.keeps F₁.keep, x _ Q E F₁ N₁ hQ hE⟩) hE) he hplain
theorem ev_cwB {id : String} {first : List Value} {e : Expr} {rest : List Expr} {pos : Pos} (h : EV c m ν (spliced (backTo pos (starEach (e :: rest) env))) (kArgs c (.builtin id) first P R) R)
    (he : starEach (e :: rest) env = (false, eval e env) :: starEach rest env) (hplain : (backTo pos (starEach (e :: rest) env)).any (·.1) = false) : EV c m ν (callWith pos (.builtin id) first (backTo pos (starEach (e :: rest) env)) []) P R :=
  fun s Q E F N hQ hE => callWith_builtin hplain (by
    have := h s _ E F N (fun v m₁ ν₁ h₁ k₁ x F₁ N₁ => x _ Q E F₁ N₁ hQ hE) hE
    rw [he] at this ⊢
    exact evalArgs_plain this)
theorem ev_cwB0 {id : String} {first : List Value} {pos : Pos} (h : EV c m ν (call (.builtin id) (first ++ [])) P R) : EV c m ν (callWith pos (.builtin id) first (backTo pos (starEach [] env)) []) P R :=
  fun s Q E F N hQ hE => callWith_builtin rfl (evalArgs_nil3 (h s Q E F N hQ hE))
theorem ev_cwT {T : String} {e : Expr} {rest : List Expr} {pos : Pos} (h : EV c m ν (spliced (backTo pos (starEach (e :: rest) env))) (kArgs c (.type T) [] P R) R)
    (he : starEach (e :: rest) env = (false, eval e env) :: starEach rest env) (hplain : (backTo pos (starEach rest env)).any (·.1) = false) : EV c m ν (callWith pos (.type T) [] (backTo pos (starEach (e :: rest) env)) []) P R :=
  fun s Q E F N hQ hE => PyProof.Rows.callWith_type1 (h s _ E F N (fun v m₁ ν₁ h₁ k₁ x F₁ N₁ => x _ Q E F₁ N₁ hQ hE) hE) he hplain
theorem ev_cwB_0 {id : String} {e : Expr} {rest : List Expr} {pos : Pos} (h : EV c m ν (spliced (backTo pos (starEach (e :: rest) env))) (kA0 c (.builtin id) P R) R)
    (he : starEach (e :: rest) env = (false, eval e env) :: starEach rest env) (hplain : (backTo pos (starEach (e :: rest) env)).any (·.1) = false) : EV c m ν (callWith pos (.builtin id) [] (backTo pos (starEach (e :: rest) env)) []) P R := ev_cwB h he hplain
theorem ev_cwB_1 {id : String} {x : Value} {e : Expr} {rest : List Expr} {pos : Pos} (h : EV c m ν (spliced (backTo pos (starEach (e :: rest) env))) (kA1 c (.builtin id) x P R) R)
    (he : starEach (e :: rest) env = (false, eval e env) :: starEach rest env) (hplain : (backTo pos (starEach (e :: rest) env)).any (·.1) = false) : EV c m ν (callWith pos (.builtin id) [x] (backTo pos (starEach (e :: rest) env)) []) P R := ev_cwB h he hplain
theorem ev_cwB0_0 {id : String} {pos : Pos} (h : EV c m ν (call (.builtin id) []) P R) : EV c m ν (callWith pos (.builtin id) [] (backTo pos (starEach [] env)) []) P R := ev_cwB0 h
theorem ev_cwB0_1 {id : String} {x : Value} {pos : Pos} (h : EV c m ν (call (.builtin id) [x]) P R) : EV c m ν (callWith pos (.builtin id) [x] (backTo pos (starEach [] env)) []) P R := ev_cwB0 h
theorem ev_cwF_0 {f : Addr} {e : Expr} {rest : List Expr} {pos : Pos} (hk : keepIn (fr.heap_1 c.w.params) (.ref f) = true) (h : EV c m ν (spliced (backTo pos (starEach (e :: rest) env))) (kA0 c (.ref f) P R) R)
    (he : starEach (e :: rest) env = (false, eval e env) :: starEach rest env) (hplain : (backTo pos (starEach rest env)).any (·.1) = false) : EV c m ν (callWith pos (.ref f) [] (backTo pos (starEach (e :: rest) env)) []) P R := ev_cwF hk h he hplain
theorem ev_cwF_1 {f : Addr} {x : Value} {e : Expr} {rest : List Expr} {pos : Pos} (hk : keepIn (fr.heap_1 c.w.params) (.ref f) = true) (h : EV c m ν (spliced (backTo pos (starEach (e :: rest) env))) (kA1 c (.ref f) x P R) R)
    (he : starEach (e :: rest) env = (false, eval e env) :: starEach rest env) (hplain : (backTo pos (starEach rest env)).any (·.1) = false) : EV c m ν (callWith pos (.ref f) [x] (backTo pos (starEach (e :: rest) env)) []) P R := ev_cwF hk h he hplain
theorem ev_cwT_0 {T : String} {e : Expr} {rest : List Expr} {pos : Pos} (h : EV c m ν (spliced (backTo pos (starEach (e :: rest) env))) (kA0 c (.type T) P R) R)
    (he : starEach (e :: rest) env = (false, eval e env) :: starEach rest env) (hplain : (backTo pos (starEach rest env)).any (·.1) = false) : EV c m ν (callWith pos (.type T) [] (backTo pos (starEach (e :: rest) env)) []) P R := ev_cwT h he hplain
theorem ev_Attr {value : Expr} {attr : Str} {pos : Pos} (h : EV c m ν (eval value env) (kGetA c attr P R) R)
    (he : eval (.Attribute value attr pos) env = (do let o ← eval value env; standAt pos.atName; let r ← holding [o] (getAttr o attr true); letTemporaryGo value o r; pure r)) : EV c m ν (eval (.Attribute value attr pos) env) P R :=
  fun s Q E F N hQ hE => Attribute_any_ (h s _ E F N (fun v m₁ ν₁ h₁ k₁ x F₁ N₁ => x _ Q E F₁ N₁ hQ hE) hE) he

/- ints, bools -/
theorem ev_neg {a : Int} {t : Tok} (h : ∀ k, P (.int (-a) k) m ν) : EV c m ν (unaryOp .USub (.int a t)) P R := fun s Q E F N hQ hE => PyProof.Rows.neg_int (hQ _ _ _ s.heap _ (h _) F N)
theorem ev_pow {a n : Int} {t u : Tok} (hn : 0 ≤ n) (hn2 : n ≤ 1000000) (ha : a.natAbs < 2 ^ 64) (h : ∀ k, P (.int (a ^ n.toNat) k) m ν) : EV c m ν (binaryOp .Pow (.int a t) (.int n u)) P R := fun s Q E F N hQ hE => PyProof.Rows.pow_int_small hn hn2 ha (hQ _ _ _ s.heap _ (h _) F N)
theorem ev_intB {b : Bool} (h : ∀ k, P (.int (if b then 1 else 0) k) m ν) : EV c m ν (call (.type "int") [.bool b]) P R := fun s Q E F N hQ hE => call_int_bool (hQ _ _ _ s.heap _ (h _) F N)
theorem ev_isiInt {n : Int} {u : Tok} (h : P (.bool true) m ν) : EV c m ν (call (.builtin "isinstance") [.int n u, .type "int"]) P R := fun s Q E F N hQ hE => PySem.IsiPair.int_int (hQ _ _ _ s.heap s.toks h F N)
theorem ev_isNone {v : Value} (h : P (.bool (v == .none)) m ν) : EV c m ν (compareOp .Is v .none) P R := fun s Q E F N hQ hE => is_none (hQ _ _ _ s.heap s.toks h F N)
theorem ev_isSelf {x : Addr} (h : P (.bool true) m ν) : EV c m ν (compareOp .Is (.ref x) (.ref x)) P R := fun s Q E F N hQ hE => wpAny_is_ref_self (hQ _ _ _ s.heap s.toks h F N)
theorem ev_isNotSelf {x : Addr} (h : P (.bool false) m ν) : EV c m ν (compareOp .IsNot (.ref x) (.ref x)) P R := fun s Q E F N hQ hE => wpAny_isNot_ref_self (hQ _ _ _ s.heap s.toks h F N)
theorem ev_ne {a b : Int} {t u : Tok} (h : P (.bool (a != b)) m ν) : EV c m ν (compareOp .NotEq (.int a t) (.int b u)) P R := fun s Q E F N hQ hE => ne_int (hQ _ _ _ s.heap s.toks h F N)

/- lists, tuples -/
theorem ev_lenL {l : Addr} {o : Obj} {vs : List Value} (hm : (l, o) ∈ ν) (ho : LstO o vs) (hf : vs.length < 2 ^ 40) (h : ∀ k, P (.int vs.length k) m ν) : EV c m ν (call (.builtin "len") [.ref l]) P R :=
  fun s Q E F N hQ hE => PyProof.Rows.len_list (ho.at (N.get hm)) (by simp only [List.size_toArray]; omega) (hQ _ _ _ s.heap _ (by simpa only [List.size_toArray] using h _) F N)
theorem ev_lenT {l : Addr} {o : Obj} {vs : List Value} (hm : (l, o) ∈ ν) (ho : TupO o vs) (hf : vs.length < 2 ^ 40) (h : ∀ k, P (.int vs.length k) m ν) : EV c m ν (call (.builtin "len") [.ref l]) P R :=
  fun s Q E F N hQ hE => PyProof.Rows.len_tuple (ho.at' (N.get hm)) (by simp only [List.size_toArray]; omega) (hQ _ _ _ s.heap _ (by simpa only [List.size_toArray] using h _) F N)
theorem stays_base {c : Cx} {h : Heap} {m : Loc} (F : Fr c.h₀ c.L h m) {l : Addr} {vs : Array Value} (hl : c.base.IsList l vs) : h.IsList l vs :=
  stays_list (fun b o e => F.keep b o (c.B.stays b o e)) hl
theorem ev_lenBase {l : Addr} {vs : List Value} (hl : c.base.IsList l vs.toArray) (hf : vs.length < 2 ^ 40) (h : ∀ k, P (.int vs.length k) m ν) : EV c m ν (call (.builtin "len") [.ref l]) P R :=
  fun s Q E F N hQ hE => PyProof.Rows.len_list (stays_base F hl) (by simp only [List.size_toArray]; omega) (hQ _ _ _ s.heap _ (by simpa only [List.size_toArray] using h _) F N)
theorem ev_itemBase {value slice : Expr} {l : Addr} {vs : List Value} {k : Int} {u : Tok} {x : Value} (hl : c.base.IsList l vs.toArray) (h0 : 0 ≤ k) (hhi : k < 2 ^ 63) (hx : vs[k.toNat]? = some x) (h : P x m ν)
    (hs : subscripted slice false (.ref l) (.int k u) = operate [.ref l, .int k u] (getItem (.ref l) (.int k u))) : EV c m ν (subscriptTail value slice (.ref l) (.int k u)) P R :=
  fun s Q E F N hQ hE => tail_any (stays_base F hl).typeIs slot_list_getitem.lookup (wpAny_getItem_list (stays_base F hl) h0 hhi (by simpa using hx) (hQ _ _ _ s.heap s.toks h F N)) hs
theorem ev_addL {a b : Addr} {oa ob : Obj} {vs ws : List Value} (ha : (a, oa) ∈ ν) (hoa : LstO oa vs) (hb : (b, ob) ∈ ν) (hob : LstO ob ws) (hz : vs.length + ws.length ≤ sizeLine) (h : ∀ D o, Above D ν → LstO o (vs ++ ws) → P (.ref D) m ((D, o) :: ν)) : EV c m ν (binaryOp .Add (.ref a) (.ref b)) P R :=
  fun s Q E F N hQ hE => kmk_add_lit F N (hoa.at (N.get ha)) (hob.at (N.get hb)) rfl (fun D h' F' N' hab => hQ _ _ _ h' _ (h D _ hab ⟨_, rfl⟩) F' N') (by simpa using hz)
theorem ev_mulL {a : Addr} {oa : Obj} {vs : List Value} {x : Int} {u : Tok} (ha : (a, oa) ∈ ν) (hoa : LstO oa vs) (hlo : -(2 ^ 63 : Int) ≤ x) (hhi : x < 2 ^ 63) (hsz : vs.length * x.toNat ≤ 256) (h : ∀ D o, Above D ν → LstO o (List.replicate x.toNat vs).flatten → P (.ref D) m ((D, o) :: ν)) : EV c m ν (binaryOp .Mult (.ref a) (.int x u)) P R :=
  fun s Q E F N hQ hE => PySem.W.KMa.mul F N (hoa.at (N.get ha)) hlo hhi hsz rfl (fun D h' F' N' hab => hQ _ _ _ h' _ (h D _ hab ⟨_, rfl⟩) F' N')
theorem ev_getAppend {l : Addr} {o : Obj} {vs : List Value} {pl : Sem Bool} (hm : (l, o) ∈ ν) (ho : LstO o vs) (h : PM (.builtin "list.append", [.ref l]) m ν) : EV c m ν (getMethod (.ref l) "append" pl) PM R :=
  fun s Q E F N hQ hE => getMethod_list_append (N.get hm) ho.cls ho.dict (hQ _ _ _ s.heap s.toks h F N)
theorem ev_getExtend {l : Addr} {o : Obj} {vs : List Value} {pl : Sem Bool} (hm : (l, o) ∈ ν) (ho : LstO o vs) (h : PM (.builtin "list.extend", [.ref l]) m ν) : EV c m ν (getMethod (.ref l) "extend" pl) PM R :=
  fun s Q E F N hQ hE => getMethod_builtin ⟨_, N.get hm, ho.cls⟩ PySem.F.plainAttrs_list PySem.F.slot_list_extend PySem.F.type_list_extend (fun a e => by cases e; exact ⟨_, N.get hm, ho.dict⟩) (hQ _ _ _ s.heap s.toks h F N)
theorem ev_getPop {l : Addr} {o : Obj} {vs : List Value} {pl : Sem Bool} (hm : (l, o) ∈ ν) (ho : LstO o vs) (h : PM (.builtin "list.pop", [.ref l]) m ν) : EV c m ν (getMethod (.ref l) "pop" pl) PM R :=
  fun s Q E F N hQ hE => getMethod_builtin ⟨_, N.get hm, ho.cls⟩ PySem.F.plainAttrs_list PySem.F.slot_list_pop PySem.F.type_list_pop (fun a e => by cases e; exact ⟨_, N.get hm, ho.dict⟩) (hQ _ _ _ s.heap s.toks h F N)
theorem ev_pop {l : Addr} {o : Obj} {vs : List Value} {x : Value} {ν₁ : Led} (ho : LstO o (vs ++ [x])) (hν : ∀ p ∈ (l, o) :: ν₁, p ∈ ν) (hne : ∀ p ∈ ν₁, p.1 ≠ l) (hsz : vs.length < sizeLine) (h : ∀ o', LstO o' vs → P x m ((l, o') :: ν₁)) : EV c m ν (call (.builtin "list.pop") [.ref l]) P R :=
  ev_mut (fun o' => LstO o' vs) hν hne (fun s Q E e hQ => by
    obtain ⟨n, rfl⟩ := ho
    exact Copied.pop_at (n := n) e (by simp) (fun h' hs he => hQ h' s.toks _ he ⟨n + 1, by simp⟩ hs) (by simp only [List.size_toArray, List.length_append, List.length_singleton]; omega)) h
theorem ev_extendT {l b : Addr} {o ob : Obj} {vs ws : List Value} {ν₁ : Led} (ho : LstO o vs) (hb : (b, ob) ∈ ν₁) (hob : TupO ob ws) (hν : ∀ p ∈ (l, o) :: ν₁, p ∈ ν) (hne : ∀ p ∈ ν₁, p.1 ≠ l) (hsz : vs.length + ws.length ≤ sizeLine) (h : ∀ o', LstO o' (vs ++ ws) → P .none m ((l, o') :: ν₁)) :
    EV c m ν (call (.builtin "list.extend") [.ref l, .ref b]) P R := by
  intro s Q E F N hQ hE
  have N₁ : News c.h₀ c.L s.heap ((l, o) :: ν₁) := fun p hp => N p (hν p hp)
  have el := (N₁ _ (.head _)).1
  have eb := (N₁ _ (.tail _ hb)).1
  obtain ⟨n, rfl⟩ := ho
  obtain ⟨n2, rfl⟩ := hob
  refine call_meets PySem.F.slot_list_extend ⟨_, el, rfl⟩ PySem.F.entry_list_extend (PySem.F.args_list_extend_2 _ _) (PySem.AutoSeq1.list_extend_list_tuple_0 l vs.toArray n b ws.toArray n2 (extend_door (by simpa using hsz)) (by simp only [List.size_toArray]; omega) (by simp only [List.size_toArray]; omega)) ⟨el, eb, ?_⟩
  obtain ⟨o', e', g⟩ := lst_up (ws := vs ++ ws) (f := fun x => x ++ ws.toArray) el (by simp)
  obtain ⟨F', N'⟩ := news_put F N₁ hne e' (Heap.SameBut.update ..)
  exact hQ _ _ _ _ s.toks (h o' g) F' N'
theorem ev_listOfT {b : Addr} {ob : Obj} {ws : List Value} (hb : (b, ob) ∈ ν) (hob : TupO ob ws) (hsz : ws.length ≤ sizeLine) (h : ∀ D o, Above D ν → LstO o ws → P (.ref D) m ((D, o) :: ν)) : EV c m ν (call (.type "list") [.ref b]) P R := by
  obtain ⟨n2, rfl⟩ := hob
  exact fun s Q E F N hQ hE => kup_listOfT F N hb (zs := ws) rfl (fun D k h' F' N' l1 => hQ _ _ _ _ _ (h D _ l1 ⟨_, rfl⟩) F' N') hsz
theorem ev_tupleOfL {l : Addr} {o : Obj} {vs : List Value} (hm : (l, o) ∈ ν) (ho : LstO o vs) (hsz : vs.length ≤ sizeLine) (h : ∀ D, Above D ν → P (.ref D) m ((D, tupO vs) :: ν)) : EV c m ν (call (.type "tuple") [.ref l]) P R :=
  fun s Q E F N hQ hE => call_tuple_list (ho.at (N.get hm)) (fun h' hk => by
    have N' : News c.h₀ c.L h' ν := fun p hp => ⟨hk _ _ (N p hp).1, (N p hp).2⟩
    exact hQ _ _ _ _ s.toks (h h'.objs.size fun p hp => Heap.lt_size (N' p hp).1) ((F.keeps hk).push _) (N'.push (F.keeps hk) _ rfl)) (by simpa using hsz)
theorem ev_tupleOfT {t : Addr} {o : Obj} {vs : List Value} (hm : (t, o) ∈ ν) (ho : TupO o vs) (h : P (.ref t) m ν) : EV c m ν (call (.type "tuple") [.ref t]) P R :=
  fun s Q E F N hQ hE => call_tuple_same (ho.at (N.get hm)) (hQ _ _ _ s.heap s.toks h F N)
end
end Mine

namespace Mine
/-- an iterator `it` that gives n items; b: its own objects at place k -/
structure Yld (c : Cx) (it : Addr) (target : Expr) (own : Addr → Prop) (n : Nat) (B : Nat → Led → Prop) (Item : Nat → Value → Led → Prop) (src : Led → Prop) : Prop where
  turn : ∀ k b ν₁ m (PO : Option Value → Loc → Led → Prop) (R : RX), B k b → (∀ p ∈ ν₁, ¬ own p.1) → src ν₁ → (n ≤ k → PO none m ν₁) →
    (k < n → ∀ v δ b₁, Item k v δ → (∀ p ∈ δ, Above p.1 ν₁ ∧ ¬ own p.1) → (∀ m' (PU : Unit → Loc → Led → Prop) (R' : RX) ν₂, (∀ p ∈ ν₂, ¬ own p.1) → (∀ b', B (k + 1) b' → PU () m' (b' ++ ν₂)) → EV c m' (b₁ ++ ν₂) (letOwnedTupleGo target (.ref it) v) PU R') → PO (some v) m (b₁ ++ (δ ++ ν₁))) →
    EV c m (b ++ ν₁) (pyNext (.ref it)) PO R
  self : ∀ k b ν m (P : Value → Loc → Led → Prop) (R : RX), B k b → (∀ p ∈ b, p ∈ ν) → P (.ref it) m ν → EV c m ν (pyIter (.ref it)) P R
section
variable {c : Cx} {m : Loc} {ν : Led} {R : RX} {env : Env} {it : Addr} {target : Expr} {own : Addr → Prop} {n : Nat} {B : Nat → Led → Prop} {Item : Nat → Value → Led → Prop} {src : Led → Prop}
variable {P : Value → Loc → Led → Prop} {PF : Flow → Loc → Led → Prop}

def TurnI (own : Addr → Prop) (src : Led → Prop) (I : Loc → Led → Prop) (b : Led) (PF : Flow → Loc → Led → Prop) : Flow → Loc → Led → Prop
  | .next, m, ν | .cont, m, ν => ∃ ν', (∀ p ∈ b ++ ν', p ∈ ν) ∧ (∀ p ∈ ν', ¬ own p.1) ∧ src ν' ∧ I m ν'
  | .brk, m, ν => PF .next m ν
  | .ret v, m, ν => PF (.ret v) m ν
theorem ev_forI {body : List Stmt} {Rb : RX} (Y : Yld c it target own n B Item src) (I : Nat → Loc → Led → Prop) {b₀ ν₀ : Led} (hb : B 0 b₀) (hc : ∀ p ∈ ν₀, ¬ own p.1) (hs : src ν₀) (h0 : I 0 m ν₀) (hν : ∀ p ∈ b₀ ++ ν₀, p ∈ ν)
    (step : ∀ k m₁ ν₁ v δ b, k < n → I k m₁ ν₁ → (∀ p ∈ ν₁, ¬ own p.1) → src ν₁ → Item k v δ → (∀ p ∈ δ, Above p.1 ν₁ ∧ ¬ own p.1) → B (k + 1) b →
      EV c m₁ (b ++ (δ ++ ν₁)) (assign target env v) (fun _ m₂ ν₂ => EV c m₂ ν₂ (execs body env) (TurnI own src (I (k + 1)) b PF) Rb) Rb)
    (fin : ∀ m₁ ν₁, I n m₁ ν₁ → (∀ p ∈ ν₁, ¬ own p.1) → src ν₁ → PF .next m₁ ν₁) :
    ∃ (J : Nat → Loc → Led → Prop) (n' : Nat), J n' m ν ∧ ∀ k m₃ ν₃, J k m₃ ν₃ → EV c m₃ ν₃ (pyNext (.ref it)) (ForTurn c env target (.ref it) body J k PF Rb) Rb := by
  refine ⟨fun j m₁ ν₁ => ∃ k b ν₂, j = n - k ∧ k ≤ n ∧ B k b ∧ (∀ p ∈ ν₂, ¬ own p.1) ∧ src ν₂ ∧ I k m₁ ν₂ ∧ (∀ p ∈ b ++ ν₂, p ∈ ν₁), n, ⟨0, b₀, ν₀, rfl, Nat.zero_le _, hb, hc, hs, h0, hν⟩, ?_⟩
  rintro j m₁ ν₁ ⟨k, b, ν₂, rfl, hk, hB, hcl, hsr, hI, hsub⟩
  refine ev_sub ?_ hsub
  refine Y.turn k b ν₂ m₁ _ _ hB hcl hsr (fun hn => ?_) (fun hn v δ b₁ hi hd go => ?_)
  · have : k = n := Nat.le_antisymm hk hn
    subst this
    exact fin _ _ hI hcl hsr
  · show EV c m₁ _ (letOwnedTupleGo target (.ref it) v) _ _
    refine go m₁ _ _ _ (fun p hp => ?_) (fun b' hB' => ?_)
    · rcases List.mem_append.mp hp with hp | hp
      · exact (hd p hp).2
      · exact hcl p hp
    refine ev_imp (step k m₁ ν₂ v δ b' hn hI hcl hsr hi hd hB') (fun _ m₂ ν₃ h => ev_imp h (fun f m₃ ν₄ g => ?_))
    have lt : n - (k + 1) < n - k := by omega
    cases f with
    | next => obtain ⟨ν', g1, g2, g3, g4⟩ := g; exact ⟨_, lt, k + 1, b', ν', rfl, hn, hB', g2, g3, g4, g1⟩
    | cont => obtain ⟨ν', g1, g2, g3, g4⟩ := g; exact ⟨_, lt, k + 1, b', ν', rfl, hn, hB', g2, g3, g4, g1⟩
    | brk => exact g
    | ret v => exact g

/-- one turn of a comprehension is done: the item y, if any -/
def CompDone (own : Addr → Prop) (src : Led → Prop) (C D : Addr) (oD : Obj) (b : Led) (m : Loc) (I : Led → Prop) : Loc → Led → Prop := fun m' ν' =>
  m' = m ∧ ∃ oC mC ν'', NsObj oC mC ∧ (∀ p ∈ (C, oC) :: (D, oD) :: (b ++ ν''), p ∈ ν') ∧ (∀ p ∈ ν'', ¬ own p.1 ∧ p.1 ≠ C ∧ p.1 ≠ D) ∧ src ν'' ∧ I ν''
theorem ev_compI {scope : Scope} {cl : List (Str × Addr)} {ifs : List Expr} {elt : Expr} {Rb : RX} (Y : Yld c it target own n B Item src) (hsz : n ≤ sizeLine) (I : Nat → List Value → Led → Prop) {b₀ ν₀ : Led} (hb : B 0 b₀) (hc : ∀ p ∈ ν₀, ¬ own p.1) (hs : src ν₀) (h0 : I 0 [] ν₀) (hν : ∀ p ∈ b₀ ++ ν₀, p ∈ ν)
    (hown : ∀ a, own a → ∃ p ∈ b₀, p.1 = a) (hbo : ∀ k b, B k b → ∀ p ∈ b, own p.1)
    (hup : ∀ (L : Led) (q : Addr × Obj), src L → src (q :: L))
    (step : ∀ k acc ν₁ v δ b C oC mC D oD, k < n → acc.length ≤ k → I k acc ν₁ → (∀ p ∈ ν₁, ¬ own p.1 ∧ p.1 ≠ C ∧ p.1 ≠ D) → src ν₁ → Item k v δ → (∀ p ∈ δ, Above p.1 ν₁ ∧ ¬ own p.1 ∧ p.1 ≠ C ∧ p.1 ≠ D) → B (k + 1) b → NsObj oC mC → LstO oD acc → Above D ν₀ → @LT.lt Nat _ D C → (∀ p ∈ b, p.1 ≠ C ∧ p.1 ≠ D) → (∀ p ∈ (D, oD) :: (b ++ (δ ++ ν₁)), p.1 ≠ C) →
      EV c m ((C, oC) :: (D, oD) :: (b ++ (δ ++ ν₁))) (assign target (compEnvC scope cl C env) v) (fun _ m₂ ν₂ => EV c m₂ ν₂ (testsOf ifs (compEnvC scope cl C env)) (fun ok m₃ ν₃ => if ok then EV c m₃ ν₃ (eval elt (compEnvC scope cl C env)) (fun y => CompDone own src C D oD b m (I (k + 1) (acc ++ [y]))) Rb else CompDone own src C D oD b m (I (k + 1) acc) m₃ ν₃) Rb) Rb)
    (fin : ∀ D oD acc ν₁, acc.length ≤ n → I n acc ν₁ → LstO oD acc → Above D ν₀ → (∀ p ∈ ν₁, ¬ own p.1 ∧ p.1 ≠ D) → src ν₁ → P (.ref D) m ((D, oD) :: ν₁)) :
    CompIt c env scope cl target ifs elt P Rb (.ref it) m ν := by
  intro D C oC hD hDC hoC
  have hD0 : Above D ν₀ := fun p hp => hD p (hν p (List.mem_append_right _ hp))
  have apart : ∀ a, own a → a ≠ D ∧ a ≠ C := by
    intro a ha
    obtain ⟨p, hp, rfl⟩ := hown a ha
    have : @LT.lt Nat _ p.1 D := hD p (hν p (List.mem_append_left _ hp))
    exact ⟨Nat.ne_of_lt this, Nat.ne_of_lt (Nat.lt_trans this hDC)⟩
  have cd : C ≠ D := Nat.ne_of_gt hDC
  refine ⟨Y.self 0 b₀ _ _ _ _ hb (fun p hp => .tail _ (.tail _ (hν p (List.mem_append_left _ hp)))) ⟨rfl, rfl, rfl⟩, fun j m₁ ν₁ => m₁ = m ∧ ∃ k b acc oC mC oD ν₂, j = n - k ∧ k ≤ n ∧ acc.length ≤ k ∧ B k b ∧ NsObj oC mC ∧ LstO oD acc ∧ (∀ p ∈ ν₂, ¬ own p.1 ∧ p.1 ≠ C ∧ p.1 ≠ D) ∧ src ν₂ ∧ I k acc ν₂ ∧ (∀ p ∈ b ++ ((C, oC) :: (D, oD) :: ν₂), p ∈ ν₁), n, ?_, ?_⟩
  · refine ⟨rfl, 0, b₀, [], oC, _, lstO [], ν₀, rfl, Nat.zero_le _, Nat.le_refl _, hb, hoC, lstO_mk, fun p hp => ⟨hc p hp, Nat.ne_of_lt (Nat.lt_trans (hD0 p hp) hDC), Nat.ne_of_lt (hD0 p hp)⟩, hs, h0, fun p hp => ?_⟩
    rcases List.mem_append.mp hp with hp | hp
    · exact .tail _ (.tail _ (hν p (List.mem_append_left _ hp)))
    · cases hp with
      | head => exact .head _
      | tail _ hp =>
        cases hp with
        | head => exact .tail _ (.head _)
        | tail _ hp => exact .tail _ (.tail _ (hν p (List.mem_append_right _ hp)))
  · rintro j m₁ ν₁ ⟨rfl, k, b, acc, oC, mC, oD', ν₂, rfl, hk, hal, hB, hoC', hoD, hcl, hsr, hI, hsub⟩
    refine ev_sub ?_ hsub
    have hcl' : ∀ p ∈ (C, oC) :: (D, oD') :: ν₂, ¬ own p.1 := by
      intro p hp
      cases hp with
      | head => exact fun h => (apart _ h).2 rfl
      | tail _ hp =>
        cases hp with
        | head => exact fun h => (apart _ h).1 rfl
        | tail _ hp => exact (hcl p hp).1
    refine Y.turn k b _ _ _ _ hB hcl' (hup _ _ (hup _ _ hsr)) (fun hn => ?_) (fun hn v δ b₁ hi hd go => ?_)
    · have : k = n := Nat.le_antisymm hk hn
      subst this
      refine ⟨oC, mC, (D, oD') :: ν₂, hoC', fun p hp => hp, fun p hp => ?_, fin D oD' acc ν₂ hal hI hoD hD0 (fun p hp => ⟨(hcl p hp).1, (hcl p hp).2.2⟩) hsr⟩
      cases hp with
      | head => exact cd.symm
      | tail _ hp => exact (hcl p hp).2.1
    · show EV c m₁ _ (letOwnedTupleGo target (.ref it) v) _ _
      refine go m₁ _ _ _ (fun p hp => ?_) (fun b' hB' => ?_)
      · rcases List.mem_append.mp hp with hp | hp
        · exact (hd p hp).2
        · exact hcl' p hp
      have hab : ∀ p ∈ δ, Above p.1 ν₂ ∧ ¬ own p.1 ∧ p.1 ≠ C ∧ p.1 ≠ D := fun p hp => ⟨fun q hq => (hd p hp).1 q (.tail _ (.tail _ hq)), (hd p hp).2, Nat.ne_of_gt ((hd p hp).1 (C, oC) (.head _)), Nat.ne_of_gt ((hd p hp).1 (D, oD') (.tail _ (.head _)))⟩
      have neC : ∀ p ∈ (D, oD') :: (b' ++ (δ ++ ν₂)), p.1 ≠ C := by
        intro p hp
        rcases List.mem_cons.mp hp with rfl | hp
        · exact cd.symm
        · rcases List.mem_append.mp hp with hp | hp
          · exact (apart _ (hbo _ _ hB' p hp)).2
          · rcases List.mem_append.mp hp with hp | hp
            · exact (hab p hp).2.2.1
            · exact (hcl p hp).2.1
      refine ev_sub (ν' := (C, oC) :: (D, oD') :: (b' ++ (δ ++ ν₂))) ?_ (fun p hp => ?_)
      · refine ev_imp (step k acc ν₂ v δ b' C oC mC D oD' hn hal hI hcl hsr hi hab hB' hoC' hoD hD0 hDC (fun p hp => ⟨(apart _ (hbo _ _ hB' p hp)).2, (apart _ (hbo _ _ hB' p hp)).1⟩) neC) (fun _ m₂ ν₃ h => ev_imp h (fun ok m₃ ν₄ g => ?_))
        have lt : n - (k + 1) < n - k := by omega
        cases ok with
        | false =>
          obtain ⟨rfl, oC2, mC2, ν5, g1, g2, g3, g4, g5⟩ := g
          refine ⟨_, lt, rfl, k + 1, b', acc, oC2, mC2, oD', ν5, rfl, hn, Nat.le_succ_of_le hal, hB', g1, hoD, g3, g4, g5, fun p hp => g2 p ?_⟩
          rcases List.mem_append.mp hp with hp | hp
          · exact .tail _ (.tail _ (List.mem_append_left _ hp))
          · cases hp with
            | head => exact .head _
            | tail _ hp =>
              cases hp with
              | head => exact .tail _ (.head _)
              | tail _ hp => exact .tail _ (.tail _ (List.mem_append_right _ hp))
        | true =>
          refine ev_imp g (fun y m₄ ν₆ q => ?_)
          obtain ⟨rfl, oC2, mC2, ν5, g1, g2, g3, g4, g5⟩ := q
          refine ev_append (l := D) (o := oD') (ν₁ := (C, oC2) :: (b' ++ ν5)) hoD (fun p hp => g2 p ?_) (fun p hp => ?_) (Nat.le_trans hal (Nat.le_trans hk hsz)) (fun o' ho' => ?_)
          · cases hp with
            | head => exact .tail _ (.head _)
            | tail _ hp =>
              cases hp with
              | head => exact .head _
              | tail _ hp => exact .tail _ (.tail _ hp)
          · cases hp with
            | head => exact cd
            | tail _ hp =>
              rcases List.mem_append.mp hp with hp | hp
              · exact (apart _ (hbo _ _ hB' p hp)).1
              · exact (g3 p hp).2.2
          · refine ⟨_, lt, rfl, k + 1, b', acc ++ [y], oC2, mC2, o', ν5, rfl, hn, by simpa using hal, hB', g1, ho', g3, g4, g5, fun p hp => ?_⟩
            rcases List.mem_append.mp hp with hp | hp
            · exact .tail _ (.tail _ (List.mem_append_left _ hp))
            · cases hp with
              | head => exact .tail _ (.head _)
              | tail _ hp =>
                cases hp with
                | head => exact .head _
                | tail _ hp => exact .tail _ (.tail _ (List.mem_append_right _ hp))
      · cases hp with
        | head => exact List.mem_append_right _ (List.mem_append_right _ (.head _))
        | tail _ hp =>
          cases hp with
          | head => exact List.mem_append_right _ (List.mem_append_right _ (.tail _ (.head _)))
          | tail _ hp =>
            rcases List.mem_append.mp hp with hp | hp
            · exact List.mem_append_left _ hp
            · rcases List.mem_append.mp hp with hp | hp
              · exact List.mem_append_right _ (List.mem_append_left _ hp)
              · exact List.mem_append_right _ (List.mem_append_right _ (.tail _ (.tail _ hp)))

/- the sources -/
theorem yldL {x : Str} {pos : Pos} {it l : Addr} {o : Obj} {vs : List Value} (ho : LstO o vs) :
    Yld c it (.Name x pos) (fun a => a = it) vs.length (fun k b => ∃ oi, b = [(it, oi)] ∧ LIt oi l k) (fun k v δ => vs[k]? = some v ∧ δ = []) (fun L => (l, o) ∈ L) := by
  refine ⟨?_, ?_⟩
  · rintro k b ν₁ m PO R ⟨oi, rfl, hi⟩ hc hs h1 h2
    cases hx : vs[k]? with
    | none => exact ev_endL hi hs ho hx (fun _ h => h) hc (h1 (List.getElem?_eq_none_iff.mp hx))
    | some x' => exact ev_nextL hi hs ho hx (fun _ h => h) hc (fun oi' hi' => h2 (List.getElem?_eq_some_iff.mp hx).1 _ [] [(it, oi')] ⟨hx, rfl⟩ (fun _ h => nomatch h) fun m' PU R' ν₂ _ q => ev_goName (q _ ⟨_, rfl, hi'⟩))
  · rintro k b ν m P R ⟨oi, rfl, hi⟩ hs h
    exact ev_selfL (hs _ (.head _)) hi h
theorem yldT {x : Str} {pos : Pos} {it l : Addr} {o : Obj} {vs : List Value} (ho : TupO o vs) :
    Yld c it (.Name x pos) (fun a => a = it) vs.length (fun k b => ∃ oi, b = [(it, oi)] ∧ TIt oi l k) (fun k v δ => vs[k]? = some v ∧ δ = []) (fun L => (l, o) ∈ L) := by
  refine ⟨?_, ?_⟩
  · rintro k b ν₁ m PO R ⟨oi, rfl, hi⟩ hc hs h1 h2
    cases hx : vs[k]? with
    | none => exact ev_endT hi hs ho hx (fun _ h => h) hc (h1 (List.getElem?_eq_none_iff.mp hx))
    | some x' => exact ev_nextT hi hs ho hx (fun _ h => h) hc (fun oi' hi' => h2 (List.getElem?_eq_some_iff.mp hx).1 _ [] [(it, oi')] ⟨hx, rfl⟩ (fun _ h => nomatch h) fun m' PU R' ν₂ _ q => ev_goName (q _ ⟨_, rfl, hi'⟩))
  · rintro k b ν m P R ⟨oi, rfl, hi⟩ hs h
    exact ev_selfT (hs _ (.head _)) hi h
theorem yldR {x : Str} {pos : Pos} {it : Addr} {n : Nat} :
    Yld c it (.Name x pos) (fun a => a = it) n (fun k b => ∃ oi, b = [(it, oi)] ∧ RIt oi k ((n : Int) - k)) (fun k v δ => (∃ t, v = .int k t) ∧ δ = []) (fun L => True) := by
  refine ⟨?_, ?_⟩
  · rintro k b ν₁ m PO R ⟨oi, rfl, hi⟩ hc hs h1 h2
    by_cases hk : k < n
    · exact ev_nextR hi (by omega) (fun _ h => h) hc (fun oi' t hi' => h2 hk _ [] [(it, oi')] ⟨⟨t, rfl⟩, rfl⟩ (fun _ h => nomatch h) fun m' PU R' ν₂ _ q => ev_goName (q _ ⟨_, rfl, by
        have e1 : ((k : Int) + 1) = ((k + 1 : Nat) : Int) := by omega
        have e2 : ((n : Int) - k - 1) = (n : Int) - ((k + 1 : Nat) : Int) := by omega
        rw [e1, e2] at hi'; exact hi'⟩))
    · exact ev_endR hi (by omega) (fun _ h => h) hc (h1 (Nat.le_of_not_lt hk))
  · rintro k b ν m P R ⟨oi, rfl, hi⟩ hs h
    exact ev_selfR (hs _ (.head _)) hi h
end
end Mine

open Builtin.SmallTypes
namespace Mine
section
variable {α β : Type} {c : Cx} {m : Loc} {ν : Led} {R : RX} {env : Env}
variable {P : Value → Loc → Led → Prop} {PF : Flow → Loc → Led → Prop} {PU : Unit → Loc → Led → Prop} {PO : Option Value → Loc → Led → Prop}
theorem ev_post {t : Sem α} {P : α → Loc → Led → Prop} (h : EV c m ν t (fun v m' ν' => ∃ ν'', (∀ p ∈ ν'', p ∈ ν') ∧ P v m' ν'') R) : EV c m ν t P R :=
  fun s Q E F N hQ hE => h s Q E F N (fun v m' ν' h' k x F' N' => by
    obtain ⟨ν'', sub, x⟩ := x
    exact hQ v m' ν'' h' k x F' (fun p hp => N' p (sub p hp))) hE
/-- the object at one place of the ledger is turned -/
theorem ev_mutAt {t : Sem α} {P : α → Loc → Led → Prop} {v : α} {a : Addr} {o : Obj} {pre post : Led} (Good : Obj → Prop) (h1 : ∀ p ∈ pre, p.1 ≠ a) (h2 : ∀ p ∈ post, p.1 ≠ a)
    (ht : ∀ s (Q : α → Shared → Prop) E, s.heap.get? a = some o → (∀ h' tk' o', h'.get? a = some o' → Good o' → Heap.SameBut a s.heap h' → Q v { s with heap := h', toks := tk' }) → wpAny (model Pg c.w) c.A t Q E s)
    (h : ∀ o', Good o' → P v m (pre ++ (a, o') :: post)) : EV c m (pre ++ (a, o) :: post) t P R := by
  refine ev_post (ev_mut (ν₁ := pre ++ post) Good (fun p hp => ?_) (fun p hp => ?_) ht (fun o' g => ⟨_, fun p hp => ?_, h o' g⟩))
  · rcases List.mem_cons.mp hp with rfl | hp
    · exact List.mem_append_right _ (.head _)
    · exact (List.mem_append.mp hp).elim (List.mem_append_left _) fun x => List.mem_append_right _ (.tail _ x)
  · exact (List.mem_append.mp hp).elim (h1 p) (h2 p)
  · rcases List.mem_append.mp hp with hp | hp
    · exact .tail _ (List.mem_append_left _ hp)
    · rcases List.mem_cons.mp hp with rfl | hp
      · exact .head _
      · exact .tail _ (List.mem_append_right _ hp)
abbrev recO (cls : String) (vs : Array Value) : Obj := { cls := .type cls, dict := none, data := .fields vs, slots := #[] }
theorem ev_field {a : Addr} {cls : String} {vs : Array Value} {i : Nat} {x : Value} (hm : (a, recO cls vs) ∈ ν) (hx : vs[i]? = some x) (h : P x m ν) : EV c m ν (field (.ref a) i) P R :=
  fun s Q E F N hQ hE => wpAny_field (N.get hm) rfl hx (hQ _ _ _ s.heap s.toks h F N)
theorem ev_setField {a : Addr} {cls : String} {vs : Array Value} {k : Nat} {x : Value} {pre post : Led} (hk : k < vs.size) (h1 : ∀ p ∈ pre, p.1 ≠ a) (h2 : ∀ p ∈ post, p.1 ≠ a) (h : PU () m (pre ++ (a, recO cls (vs.setIfInBounds k x)) :: post)) : EV c m (pre ++ (a, recO cls vs) :: post) (setField (.ref a) k x) PU R :=
  ev_mutAt (fun o' => o' = recO cls (vs.setIfInBounds k x)) h1 h2 (fun s Q E e hQ => wpAny_setField_rec e hk fun h' e' hs => hQ h' s.toks _ e' rfl hs) (fun o' g => by subst g; exact h)
theorem ev_seqT {a : Addr} {o : Obj} {vs : List Value} {P : Option (Array Value) → Loc → Led → Prop} (hm : (a, o) ∈ ν) (ho : TupO o vs) (h : P (some vs.toArray) m ν) : EV c m ν (seqItems? (.ref a)) P R := by
  obtain ⟨n, rfl⟩ := ho
  exact fun s Q E F N hQ hE => wpAny_seqItems (N.get hm) rfl (hQ _ _ _ s.heap s.toks h F N)
theorem ev_updT {a : Addr} {o : Obj} {vs : List Value} {k : Nat} {x : Value} {pre post : Led} (ho : TupO o vs) (hsz : vs.length ≤ 16) (h1 : ∀ p ∈ pre, p.1 ≠ a) (h2 : ∀ p ∈ post, p.1 ≠ a) (h : ∀ o', TupO o' (vs.set k x) → PU () m (pre ++ (a, o') :: post)) : EV c m (pre ++ (a, o) :: post) (updateSeq a (·.setIfInBounds k x)) PU R := by
  obtain ⟨n, rfl⟩ := ho
  refine ev_mutAt (fun o' => TupO o' (vs.set k x)) h1 h2 (fun s Q E e hQ => ?_) h
  have hz : vs.toArray.size ≤ sizeLine := by simp only [List.size_toArray]; exact Nat.le_trans hsz (by decide)
  refine wpAny_updateSeq e rfl (hQ _ s.toks _ (Heap.get?_update_self _ e rfl) ⟨(if ((vs.toArray.setIfInBounds k x).size == vs.toArray.size) = true then n else n + 1), ?_⟩ (Heap.SameBut.update ..)) hz (by simp only [List.size_toArray, Array.size_setIfInBounds]; exact Nat.le_trans (Nat.le_trans hsz (by decide)) (Nat.le_succ sizeLine))
  show (⟨_, _, .seq (vs.toArray.setIfInBounds k x) _, _⟩ : Obj) = ⟨_, _, .seq (vs.set k x).toArray _, _⟩
  simp
theorem ev_letGo {removed keep : List Value} (h : PU () m ν) : EV c m ν (letGo removed keep) PU R := fun s Q E F N hQ hE => wpAny_letGo (hQ _ _ _ s.heap s.toks h F N)
theorem ev_onRaise {t : Sem α} {k : Value → Sem Unit} {P : α → Loc → Led → Prop} (h : EV c m ν t P (fun e m₁ ν₁ => EV c m₁ ν₁ (k e) (fun _ => R e) R)) : EV c m ν (t.onRaise k) P R :=
  fun s Q E F N hQ hE => wpAny_onRaise (h s _ _ F N hQ (fun e m₁ ν₁ h₁ k₁ x F₁ N₁ => x _ _ _ F₁ N₁ (fun _ m₂ ν₂ h₂ k₂ y F₂ N₂ => hE _ _ _ _ _ y F₂ N₂) hE))
def SIt (o : Obj) (x : Str) (t : Tok) (i : Nat) : Prop := o.cls = .type "str_ascii_iterator" ∧ o.data = .fields #[.str x t, .int i 0]
theorem ev_nextS {it : Addr} {oi : Obj} {x : Str} {t : Tok} {i k : Nat} {pre post : Led} (hi : SIt oi x t i) (hx : x.cps[i]? = some k) (h1 : ∀ p ∈ pre, p.1 ≠ it) (h2 : ∀ p ∈ post, p.1 ≠ it) (h : ∀ oi' u, SIt oi' x t (i + 1) → P (.str ⟨#[k]⟩ u) m (pre ++ (it, oi') :: post)) : EV c m (pre ++ (it, oi) :: post) (nextOf (.ref it)) P R := by
  intro s Q E F N hQ hE
  have M := N (it, oi) (List.mem_append_right _ (.head _))
  refine wpAny_nextOf_ascii_item ⟨oi, M.1, hi.1, hi.2⟩ hx fun h' hit hs => ?_
  obtain ⟨o', e, g⟩ := hit
  have N₁ : News c.h₀ c.L s.heap ((it, oi) :: (pre ++ post)) := fun p hp => N p (by
    rcases List.mem_cons.mp hp with rfl | hp
    · exact List.mem_append_right _ (.head _)
    · exact (List.mem_append.mp hp).elim (List.mem_append_left _) fun x => List.mem_append_right _ (.tail _ x))
  obtain ⟨F', N'⟩ := news_put F N₁ (fun p hp => (List.mem_append.mp hp).elim (h1 p) (h2 p)) e hs
  refine hQ _ _ _ h' _ (h o' _ g) F' (fun p hp => N' p ?_)
  rcases List.mem_append.mp hp with hp | hp
  · exact .tail _ (List.mem_append_left _ hp)
  · rcases List.mem_cons.mp hp with rfl | hp
    · exact .head _
    · exact .tail _ (List.mem_append_right _ hp)
theorem ev_nextTu {it l : Addr} {oi o : Obj} {i : Nat} {vs : List Value} {x : Value} {pre post : Led} (hi : TIt oi l i) (hm : (l, o) ∈ pre ++ post) (ho : TupO o vs) (hx : vs[i]? = some x) (h1 : ∀ p ∈ pre, p.1 ≠ it) (h2 : ∀ p ∈ post, p.1 ≠ it) (h : ∀ oi', TIt oi' l (i + 1) → P x m (pre ++ (it, oi') :: post)) : EV c m (pre ++ (it, oi) :: post) (nextOf (.ref it)) P R := by
  intro s Q E F N hQ hE
  have M := N (it, oi) (List.mem_append_right _ (.head _))
  have N₁ : News c.h₀ c.L s.heap ((it, oi) :: (pre ++ post)) := fun p hp => N p (by
    rcases List.mem_cons.mp hp with rfl | hp
    · exact List.mem_append_right _ (.head _)
    · exact (List.mem_append.mp hp).elim (List.mem_append_left _) fun x => List.mem_append_right _ (.tail _ x))
  have back : ∀ h' o', h'.get? it = some o' → TIt o' l (i + 1) → Heap.SameBut it s.heap h' → Q x { s with heap := h' } := by
    intro h' o' e g hs
    obtain ⟨F', N'⟩ := news_put F N₁ (fun p hp => (List.mem_append.mp hp).elim (h1 p) (h2 p)) e hs
    refine hQ _ _ _ h' s.toks (h o' g) F' (fun p hp => N' p ?_)
    rcases List.mem_append.mp hp with hp | hp
    · exact .tail _ (List.mem_append_left _ hp)
    · rcases List.mem_cons.mp hp with rfl | hp
      · exact .head _
      · exact .tail _ (List.mem_append_right _ hp)
  have el := (N₁ _ (.tail _ hm)).1
  obtain ⟨n, rfl⟩ := ho
  have T : s.TypeIs (.ref it) "tuple_iterator" := ⟨oi, M.1, hi.1⟩
  unfold nextOf
  refine wpAny_bind (wpAny_callSpecial?_slot (name := Str.ofString "__next__") T PySem.F.slot_tuple_iterator_next (wpAny_call_entry PySem.F.slot_tuple_iterator_next T PySem.F.entry_tuple_iterator_next ?_ (PySem.F.args_tuple_iterator_next_1 _)))
  show wpAny _ _ (field (.ref it) 0 >>= _) _ _ s
  refine wpAny_bind (wpAny_field M.1 hi.2 (x := .ref l) rfl ?_)
  show wpAny _ _ (if (Value.ref l == Value.none) = true then _ else _) _ _ s
  rw [if_neg (show ¬ ((Value.ref l == Value.none) = true) from Bool.false_ne_true)]
  show wpAny _ _ (field (.ref it) 1 >>= _) _ _ s
  refine wpAny_bind (wpAny_field M.1 hi.2 (x := .int i 0) rfl ?_)
  show wpAny _ _ (seqItems? (.ref l) >>= _) _ _ s
  refine wpAny_bind (wpAny_seqItems el rfl ?_)
  have hx' : vs.toArray[i]? = some x := by simpa using hx
  simp only [Int.toNat_natCast, hx']
  refine wpAny_bind (wpAny_setField M.1 hi.2 (by simp) (wpAny_pure ⟨x, rfl, wpAny_pure (back _ _ (Heap.get?_update_self _ M.1 (Obj.isFreed_of_fields (Obj.data_mapFields hi.2 _))) ⟨(Obj.cls_mapFields ..).trans hi.1, ?_⟩ (Heap.SameBut.update ..))⟩))
  rw [Obj.data_mapFields hi.2]
  simp [rawInt]

abbrev zO (f0 : Value) (TI TO : Addr) : Obj := recO "zip" #[f0, .bool false, .bool false, .ref TI, .ref TO]
/-- all five apart -/
structure ZAp (z TI TO i1 i2 : Addr) : Prop where
  a1 : TI ≠ z
  a2 : TO ≠ z
  a3 : i1 ≠ z
  a4 : i2 ≠ z
  a5 : TI ≠ TO
  a6 : TI ≠ i1
  a7 : TI ≠ i2
  a8 : TO ≠ i1
  a9 : TO ≠ i2
  a10 : i1 ≠ i2
abbrev zLed (z TI TO i1 i2 : Addr) (f0 : Value) (oT o1 o2 : Obj) (a b : Value) : Led := [(z, zO f0 TI TO), (TI, tupO [.ref i1, .ref i2]), (TO, oT), (i1, o1), (i2, o2)]
theorem ev_zipBody {z TI TO i1 i2 tt : Addr} {oT o1 o2 ot : Obj} {a b y : Value} {x : Str} {t : Tok} {k u : Nat} {vs : List Value} {ν₁ : Led} {P : Fin → Loc → Led → Prop} (Z : ZAp z TI TO i1 i2) (hT : TupO oT [a, b]) (h1 : SIt o1 x t k) (h2 : TIt o2 tt k) (hm : (tt, ot) ∈ ν₁) (hot : TupO ot vs)
    (hx : x.cps[k]? = some u) (hy : vs[k]? = some y) (hne : ∀ p ∈ ν₁, p.1 ≠ z ∧ p.1 ≠ TI ∧ p.1 ≠ TO ∧ p.1 ≠ i1 ∧ p.1 ≠ i2)
    (h : ∀ T v oT' o1' o2', Above T (zLed z TI TO i1 i2 (rawInt T) oT' o1' o2' a b ++ ν₁) → TupO oT' [.str ⟨#[u]⟩ v, y] → SIt o1' x t (k + 1) → TIt o2' tt (k + 1) → P (.done (.ret (.ref T))) m (zLed z TI TO i1 i2 (rawInt T) oT' o1' o2' a b ++ ((T, tupO [.str ⟨#[u]⟩ v, y]) :: ν₁))) :
    EV c m (zLed z TI TO i1 i2 .none oT o1 o2 a b ++ ν₁) (Builtin.«zip.__next__» ⟨[.ref z], []⟩) P R := by
  show EV c m _ (field (.ref z) 2 >>= _) _ _
  refine ev_bind (ev_field (.head _) rfl ?_)
  show EV c m _ (field (.ref z) 3 >>= _) _ _
  refine ev_bind (ev_field (.head _) rfl ?_)
  show EV c m _ (seqItems? (.ref TI) >>= _) _ _
  refine ev_bind (ev_seqT (.tail _ (.head _)) tupO_mk ?_)
  show EV c m _ (ownedTupleIsFree (.ref z) >>= _) _ _
  refine ev_bind ?_
  unfold ownedTupleIsFree
  refine ev_bind (ev_field (.head _) rfl (ev_pure ?_))
  dsimp only
  rw [if_pos rfl]
  refine ev_bind (ev_rule ?_)
  refine ev_bind (ev_field (.head _) rfl ?_)
  show EV c m _ (setField (.ref z) 0 .ellipsis >>= _) _ _
  refine ev_bind (ev_setField (pre := []) (post := (TI, tupO [.ref i1, .ref i2]) :: (TO, oT) :: (i1, o1) :: (i2, o2) :: ν₁) (by simp) (fun _ h => nomatch h) ?_ ?_)
  · intro p hp
    rcases hp with _ | ⟨_, _ | ⟨_, _ | ⟨_, _ | ⟨_, hp⟩⟩⟩⟩
    · exact Z.a1
    · exact Z.a2
    · exact Z.a3
    · exact Z.a4
    · exact (hne p hp).1
  show EV c m (zLed z TI TO i1 i2 .ellipsis oT o1 o2 a b ++ ν₁) _ _ _
  refine ev_bind ?_
  simp only [List.zipIdx_cons, List.zipIdx_nil, List.forIn_cons, List.forIn_nil]
  refine ev_bind (ev_bind (ev_onRaise ?_))
  show EV c m _ (nextOf (.ref i1) >>= _) _ _
  refine ev_bind (ev_nextS (pre := [(z, zO .ellipsis TI TO), (TI, tupO [.ref i1, .ref i2]), (TO, oT)]) (post := (i2, o2) :: ν₁) h1 hx ?_ ?_ fun o1' v h1' => ev_pure ?_)
  · intro p hp
    rcases hp with _ | ⟨_, _ | ⟨_, _ | ⟨_, hp⟩⟩⟩
    · exact Z.a3.symm
    · exact Z.a6
    · exact Z.a8
    · cases hp
  · intro p hp
    rcases hp with _ | ⟨_, hp⟩
    · exact Z.a10.symm
    · exact (hne p hp).2.2.2.1
  show EV c m (zLed z TI TO i1 i2 .ellipsis oT o1' o2 a b ++ ν₁) _ _ _
  refine ev_bind (ev_seqT (.tail _ (.tail _ (.head _))) hT ?_)
  show EV c m _ (updateSeq TO (·.setIfInBounds 0 (.str ⟨#[u]⟩ v)) >>= _) _ _
  refine ev_bind (ev_updT (pre := [(z, zO .ellipsis TI TO), (TI, tupO [.ref i1, .ref i2])]) (post := (i1, o1') :: (i2, o2) :: ν₁) hT (by simp) ?_ ?_ fun oT1 hT1 => ?_)
  · intro p hp
    rcases hp with _ | ⟨_, _ | ⟨_, hp⟩⟩
    · exact Z.a2.symm
    · exact Z.a5
    · cases hp
  · intro p hp
    rcases hp with _ | ⟨_, _ | ⟨_, hp⟩⟩
    · exact Z.a8.symm
    · exact Z.a9.symm
    · exact (hne p hp).2.2.1
  refine ev_bind (ev_letGo (ev_pure ?_))
  refine ev_bind (ev_bind (ev_onRaise ?_))
  show EV c m _ (nextOf (.ref i2) >>= _) _ _
  refine ev_bind (ev_nextTu (pre := [(z, zO .ellipsis TI TO), (TI, tupO [.ref i1, .ref i2]), (TO, oT1), (i1, o1')]) (post := ν₁) h2 (List.mem_append_right _ hm) hot hy ?_ ?_ fun o2' h2' => ev_pure ?_)
  · intro p hp
    rcases hp with _ | ⟨_, _ | ⟨_, _ | ⟨_, _ | ⟨_, hp⟩⟩⟩⟩
    · exact Z.a4.symm
    · exact Z.a7
    · exact Z.a9
    · exact Z.a10
    · cases hp
  · intro p hp
    exact (hne p hp).2.2.2.2
  show EV c m (zLed z TI TO i1 i2 .ellipsis oT1 o1' o2' a b ++ ν₁) _ _ _
  refine ev_bind (ev_seqT (.tail _ (.tail _ (.head _))) hT1 ?_)
  show EV c m _ (updateSeq TO (·.setIfInBounds 1 y) >>= _) _ _
  refine ev_bind (ev_updT (pre := [(z, zO .ellipsis TI TO), (TI, tupO [.ref i1, .ref i2])]) (post := (i1, o1') :: (i2, o2') :: ν₁) hT1 (by simp) ?_ ?_ fun oT2 hT2 => ?_)
  · intro p hp
    rcases hp with _ | ⟨_, _ | ⟨_, hp⟩⟩
    · exact Z.a2.symm
    · exact Z.a5
    · cases hp
  · intro p hp
    rcases hp with _ | ⟨_, _ | ⟨_, hp⟩⟩
    · exact Z.a8.symm
    · exact Z.a9.symm
    · exact (hne p hp).2.2.1
  refine ev_bind (ev_letGo (ev_pure ?_))
  refine ev_pure ?_
  show EV c m (zLed z TI TO i1 i2 .ellipsis oT2 o1' o2' a b ++ ν₁) _ _ _
  refine ev_bind (ev_seqT (.tail _ (.tail _ (.head _))) hT2 ?_)
  refine ev_bind (ev_newTuple (fun T hT3 => ?_) (hsz := by simp [sizeLine]))
  show EV c m _ (ownedTupleHandOut (.ref z) (.ref T) >>= _) _ _
  refine ev_bind ?_
  unfold ownedTupleHandOut
  dsimp only
  have sep : ∀ p ∈ (TI, tupO [.ref i1, .ref i2]) :: (TO, oT2) :: (i1, o1') :: (i2, o2') :: ν₁, p.1 ≠ z := by
    intro p hp
    rcases hp with _ | ⟨_, _ | ⟨_, _ | ⟨_, _ | ⟨_, hp⟩⟩⟩⟩
    · exact Z.a1
    · exact Z.a2
    · exact Z.a3
    · exact Z.a4
    · exact (hne p hp).1
  have sepT : ∀ p ∈ [(T, tupO [.str ⟨#[u]⟩ v, y])], p.1 ≠ z := by
    intro p hp
    cases hp with
    | head => exact Nat.ne_of_gt (hT3 _ (.head _))
    | tail _ hp => cases hp
  refine ev_bind (ev_setField (pre := [(T, tupO [.str ⟨#[u]⟩ v, y])]) (by simp) sepT sep ?_)
  refine ev_setField (pre := [(T, tupO [.str ⟨#[u]⟩ v, y])]) (by simp) sepT sep ?_
  refine ev_post (ev_pure ⟨_, ?_, h T v oT2 o1' o2' (fun p hp => ?_) hT2 h1' h2'⟩)
  · intro p hp
    rcases hp with _ | ⟨_, _ | ⟨_, _ | ⟨_, _ | ⟨_, _ | ⟨_, _ | ⟨_, hp⟩⟩⟩⟩⟩⟩
    · exact .tail _ (.head _)
    · exact .tail _ (.tail _ (.head _))
    · exact .tail _ (.tail _ (.tail _ (.head _)))
    · exact .tail _ (.tail _ (.tail _ (.tail _ (.head _))))
    · exact .tail _ (.tail _ (.tail _ (.tail _ (.tail _ (.head _)))))
    · exact .head _
    · exact .tail _ (.tail _ (.tail _ (.tail _ (.tail _ (.tail _ hp)))))
  · rcases hp with _ | ⟨_, hp⟩
    · exact hT3 (z, zO .ellipsis TI TO) (.head _)
    · exact hT3 p (.tail _ hp)

/-- the str's iterator has ended: so has zip -/
theorem zip_end {s : Shared} {E : Value → Shared → Prop} {Q : Fin → Shared → Prop} {A : Around} {z TI TO i1 i2 : Addr} {o1 : Obj} {x : Str} {t : Tok} {k : Nat} (hh : A.handled = none) (Z : ZAp z TI TO i1 i2) (hz : s.heap.get? z = some (zO .none TI TO)) (hTI : s.heap.get? TI = some (tupO [.ref i1, .ref i2])) (he1 : s.heap.get? i1 = some o1) (h1 : SIt o1 x t k) (hx : x.cps[k]? = none)
    (hE : ∀ h' e, (∀ b o, b ≠ z → b ≠ i1 → s.heap.get? b = some o → h'.get? b = some o) → (∃ o, h'.get? e = some o ∧ o.cls = .type "StopIteration") → E (.ref e) { s with heap := h' }) :
    wpAny (model Pg c.w) A (Builtin.«zip.__next__» ⟨[.ref z], []⟩) Q E s := by
  show wpAny _ _ (field (.ref z) 2 >>= _) _ _ _
  refine wpAny_bind (wpAny_field hz rfl (x := .bool false) rfl ?_)
  show wpAny _ _ (field (.ref z) 3 >>= _) _ _ _
  refine wpAny_bind (wpAny_field hz rfl (x := .ref TI) rfl ?_)
  refine wpAny_bind (wpAny_seqItems hTI rfl ?_)
  show wpAny _ _ (ownedTupleIsFree (.ref z) >>= _) _ _ _
  refine wpAny_bind ?_
  unfold ownedTupleIsFree
  refine wpAny_bind (wpAny_field hz rfl (x := .none) rfl (wpAny_pure ?_))
  rw [if_pos rfl]
  refine wpAny_bind (wpAny_rule ?_)
  refine wpAny_bind (wpAny_field hz rfl (x := .ref TO) rfl ?_)
  refine wpAny_bind (wpAny_setField_rec hz (by simp) fun h₁ hz₁ hs₁ => ?_)
  refine wpAny_bind ?_
  simp only [List.zipIdx_cons, List.zipIdx_nil, List.forIn_cons, List.forIn_nil]
  refine wpAny_bind (wpAny_bind (wpAny_onRaise ?_))
  show wpAny _ _ (nextOf (.ref i1) >>= _) _ _ _
  refine wpAny_bind (wpAny_nextOf_ascii_end hh (x := x) (t := t) (i := k) ⟨o1, hs₁.extBut _ _ Z.a3 he1, h1.1, h1.2⟩ hx fun h₂ e hs₂ he => ?_)
  obtain ⟨oe, hoe, hce⟩ := he
  have hz₂ := hs₂ _ _ Z.a3.symm hz₁
  have hez : e ≠ z := fun q => by
    subst q
    rw [hz₂] at hoe
    cases hoe
    simp at hce
  refine wpAny_setField_rec hz₂ (by simp) fun h₃ _ hs₃ => hE h₃ e (fun b o b1 b2 y => hs₃.extBut _ _ b1 (hs₂ _ _ b2 (hs₁.extBut _ _ b1 y))) ⟨oe, hs₃.extBut _ _ hez hoe, hce⟩

def zOwn (z TI TO i1 i2 : Addr) (a : Addr) : Prop := a = z ∨ a = TI ∨ a = TO ∨ a = i1 ∨ a = i2
def zB (z TI TO i1 i2 tt : Addr) (x : Str) (t : Tok) (k : Nat) (b : Led) : Prop := ∃ oT o1 o2 p q, b = zLed z TI TO i1 i2 .none oT o1 o2 p q ∧ TupO oT [p, q] ∧ SIt o1 x t k ∧ TIt o2 tt k
def zItem (x : Str) (vs : List Value) (k : Nat) (v : Value) (δ : Led) : Prop := ∃ T u y w, x.cps[k]? = some u ∧ vs[k]? = some y ∧ v = .ref T ∧ δ = [(T, tupO [.str ⟨#[u]⟩ w, y])]
theorem yldZ {elts : List Expr} {kk : Nat} {pos : Pos} {z TI TO i1 i2 tt : Addr} {x : Str} {t : Tok} {ot : Obj} {vs : List Value} (Z : ZAp z TI TO i1 i2) (hot : TupO ot vs) (hn : x.cps.size = vs.length) :
    Yld c z (.Tuple elts kk pos) (zOwn z TI TO i1 i2) vs.length (zB z TI TO i1 i2 tt x t) (zItem x vs) (fun L => (tt, ot) ∈ L) := by
  refine ⟨?_, ?_⟩
  · rintro k b ν₁ m PO R ⟨oT, o1, o2, p, q, rfl, hT, h1, h2⟩ hc hs hend hnext
    have hne : ∀ p ∈ ν₁, p.1 ≠ z ∧ p.1 ≠ TI ∧ p.1 ≠ TO ∧ p.1 ≠ i1 ∧ p.1 ≠ i2 := fun p hp => ⟨fun e => hc p hp (.inl e), fun e => hc p hp (.inr (.inl e)), fun e => hc p hp (.inr (.inr (.inl e))), fun e => hc p hp (.inr (.inr (.inr (.inl e)))), fun e => hc p hp (.inr (.inr (.inr (.inr e))))⟩
    intro s Q E F N hQ hE
    have ez : s.heap.get? z = some (zO .none TI TO) := (N _ (.head _)).1
    have hT' : s.TypeIs (.ref z) "zip" := ⟨_, ez, rfl⟩
    unfold pyNext
    by_cases hk : k < vs.length
    · refine wpAny_bind (wpAny_attempt (wpAny_callSpecial?_slot (name := Str.ofString "__next__") hT' PySem.F.slot_zip_next (wpAny_call_entry PySem.F.slot_zip_next hT' PySem.F.entry_zip_next ?_ (PySem.F.args_zip_next_1 _))))
      show wpAny (model Pg c.in1.w) c.in1.A _ _ _ _
      refine ev_zipBody (c := c.in1) (R := NoX) (u := x.cps[k]'(by omega)) (y := vs[k]) Z hT h1 h2 hs hot (by simp) (by simp [hk]) hne (P := fun fin m' ν' => ∃ v, fin = .done (.ret v) ∧ PO (some v) m' ν') (fun T v oT' o1' o2' hab hT2 h1' h2' => ⟨_, rfl, ?_⟩) s _ _ F N (fun fin m' ν' h' tk' hp F' N' => ?_) (fun _ _ _ _ _ hx => hx.elim)
      · refine hnext hk _ [(T, _)] _ ⟨T, _, _, v, by simp, by simp [hk], rfl, rfl⟩ (fun p' hp' => ?_) (fun m' PU R' ν₂ hc2 hPU => ?_)
        · cases hp' with
          | head =>
            refine ⟨fun q hq => hab q (List.mem_append_right _ hq), ?_⟩
            rintro (e | e | e | e | e)
            · exact Nat.ne_of_gt (hab _ (.head _)) e
            · exact Nat.ne_of_gt (hab _ (.tail _ (.head _))) e
            · exact Nat.ne_of_gt (hab _ (.tail _ (.tail _ (.head _)))) e
            · exact Nat.ne_of_gt (hab _ (.tail _ (.tail _ (.tail _ (.head _))))) e
            · exact Nat.ne_of_gt (hab _ (.tail _ (.tail _ (.tail _ (.tail _ (.head _)))))) e
          | tail _ hp' => cases hp'
        · intro s Q E F N hQ hE
          refine wpAny_letOwnedTupleGo_zip (N _ (.head _)).1 (fun h' hz' hs' => ?_)
          have sep : ∀ p ∈ (TI, tupO [.ref i1, .ref i2]) :: (TO, oT') :: (i1, o1') :: (i2, o2') :: ν₂, p.1 ≠ z := by
            intro p hp
            rcases hp with _ | ⟨_, _ | ⟨_, _ | ⟨_, _ | ⟨_, hp⟩⟩⟩⟩
            · exact Z.a1
            · exact Z.a2
            · exact Z.a3
            · exact Z.a4
            · exact fun e => hc2 p hp (.inl e)
          obtain ⟨F', N'⟩ := news_put F N sep hz' hs'
          exact hQ _ _ _ h' s.toks (hPU (zLed z TI TO i1 i2 .none oT' o1' o2' _ _) ⟨_, _, _, _, _, rfl, hT2, h1', h2'⟩) F' N'
      · obtain ⟨v, rfl, hp⟩ := hp
        exact ⟨v, rfl, wpAny_pure (hQ _ _ _ _ _ hp F' N')⟩
    · refine wpAny_bind (wpAny_attempt (wpAny_callSpecial?_slot (name := Str.ofString "__next__") hT' PySem.F.slot_zip_next (wpAny_call_entry PySem.F.slot_zip_next hT' PySem.F.entry_zip_next ?_ (PySem.F.args_zip_next_1 _))))
      refine zip_end (c := c) (A := c.A.in1) c.hh Z ez (N _ (.tail _ (.head _))).1 (N _ (.tail _ (.tail _ (.tail _ (.head _))))).1 h1 (by simp; omega) (fun h' e hk' he => ?_)
      obtain ⟨o, ho, hc'⟩ := he
      refine wpAny_bind (wpAny_isInstance (T := "StopIteration") (b := true) ⟨o, ho, hc'⟩ isSubtype_stop (wpAny_pure ?_))
      have nz := N _ (.head _)
      have ni := N _ (.tail _ (.tail _ (.tail _ (.head _))))
      obtain ⟨oL, heL, hnL⟩ := ns_obj F.ns
      refine hQ _ _ _ h' s.toks (hend (Nat.le_of_not_lt hk)) ⟨hnL.ns (hk' _ _ (Ne.symm nz.2.1) (Ne.symm ni.2.1) heL), fun b o e => hk' b o ?_ ?_ (F.keep b o e), F.above⟩ (fun p hp => ?_)
      · exact fun q => by rw [q, nz.2.2] at e; cases e
      · exact fun q => by rw [q, ni.2.2] at e; cases e
      · have np := N p (List.mem_append_right _ hp)
        exact ⟨hk' _ _ (hne p hp).1 (hne p hp).2.2.2.1 np.1, np.2⟩
  · rintro k b ν m P R ⟨oT, o1, o2, p, q, rfl, hT, h1, h2⟩ hs h
    exact fun s Q E F N hQ hE => wpAny_pyIter_zip (N _ (hs _ (.head _))).1 (hQ _ _ _ s.heap s.toks h F N)
end
end Mine

open Builtin.SmallTypes
open Sem (wp)
namespace Mine
abbrev zH1 (h : Heap) (x : Str) (t : Tok) : Heap := h.push { cls := .type "str_ascii_iterator", data := .fields #[.str x t, .int 0 0] }
abbrev zH2 (h : Heap) (x : Str) (t : Tok) (l : Addr) : Heap := (zH1 h x t).push { cls := .type "tuple_iterator", data := .fields #[.ref l, .int 0 0] }
abbrev zH3 (h : Heap) (x : Str) (t : Tok) (l : Addr) : Heap := (zH2 h x t l).push { cls := .type "tuple", data := .seq #[.ref h.objs.size, .ref (zH1 h x t).objs.size] }
abbrev zH4 (h : Heap) (x : Str) (t : Tok) (l : Addr) : Heap := (zH3 h x t l).push { cls := .type "tuple", data := .seq #[.none, .none] }
abbrev zH5 (h : Heap) (x : Str) (t : Tok) (l : Addr) : Heap := (zH4 h x t l).push { cls := .type "zip", data := .fields #[.none, .bool false, .bool false, .ref (zH2 h x t l).objs.size, .ref (zH3 h x t l).objs.size] }
theorem meets_zipST (x : Str) (t : Tok) (l : Addr) (ys : Array Value) (hx : x.cps.all (· < 128) = true) :
    Meets (Builtin.«zip.__new__» ⟨[.type "zip", .str x t, .ref l], []⟩) (fun _ R s => s.heap.IsTuple l ys ∧
      R (.ok (.ret (.ref (zH4 s.heap x t l).objs.size))) { s with heap := zH5 s.heap x t l }) :=
  .of_wp fun prog w A R s h => by
    obtain ⟨hp, g, d, tk, os⟩ := s; obtain ⟨hl, h⟩ := h
    have hsub := sub_zip
    have hL : Heap.IsTuple (Shared.heap ⟨hp.push { cls := .type "str_ascii_iterator", data := .fields #[.str x t, .int 0 0] }, g, d, tk, os⟩) l ys := Heap.IsTuple.push hl _
    wp_walk using wpAny_pyIter_ascii hx, wpAny_pyIter_tuple hL
    exact ⟨_, rfl, h⟩
section
variable {α β : Type} {c : Cx} {m : Loc} {ν : Led} {R : RX} {env : Env}
variable {P : Value → Loc → Led → Prop} {PB : Bool → Loc → Led → Prop} {PF : Flow → Loc → Led → Prop} {PU : Unit → Loc → Led → Prop} {PO : Option Value → Loc → Led → Prop} {PL : List Value → Loc → Led → Prop}
theorem ev_zip {x : Str} {t : Tok} {l : Addr} {o : Obj} {vs : List Value} (hx : x.cps.all (· < 128) = true) (hm : (l, o) ∈ ν) (ho : TupO o vs)
    (h : ∀ z TI TO i1 i2 b, ZAp z TI TO i1 i2 → zB z TI TO i1 i2 l x t 0 b → (∀ a, zOwn z TI TO i1 i2 a → Above a ν) → P (.ref z) m (b ++ ν)) : EV c m ν (call (.type "zip") [.str x t, .ref l]) P R := by
  intro s Q E F N hQ hE
  refine callType_new PySem.F.called_zip (by decide) (PySem.F.typeCall_zip_2 _ _) (PySem.F.newCall_zip_2 _ _) (fun obj => PySem.F.args_object_init_3 obj _ _) PySem.F.entry_zip_new (meets_zipST x t l vs.toArray hx) ⟨ho.at (N.get hm), ?_⟩
  generalize hS : s.heap.objs.size = S
  have z1 : (zH1 s.heap x t).objs.size = S + 1 := by rw [Heap.size_push, hS]
  have z2 : (zH2 s.heap x t l).objs.size = S + 2 := by rw [Heap.size_push, z1]
  have z3 : (zH3 s.heap x t l).objs.size = S + 3 := by rw [Heap.size_push, z2]
  have z4 : (zH4 s.heap x t l).objs.size = S + 4 := by rw [Heap.size_push, z3]
  have F1 := F.push { cls := .type "str_ascii_iterator", data := .fields #[.str x t, .int 0 0] }
  have N1 := N.push F { cls := .type "str_ascii_iterator", data := .fields #[.str x t, .int 0 0] } rfl
  have F2 := F1.push { cls := .type "tuple_iterator", data := .fields #[.ref l, .int 0 0] }
  have N2 := N1.push F1 { cls := .type "tuple_iterator", data := .fields #[.ref l, .int 0 0] } rfl
  have F3 := F2.push { cls := .type "tuple", data := .seq #[.ref s.heap.objs.size, .ref (zH1 s.heap x t).objs.size] }
  have N3 := N2.push F2 { cls := .type "tuple", data := .seq #[.ref s.heap.objs.size, .ref (zH1 s.heap x t).objs.size] } rfl
  have F4 := F3.push { cls := .type "tuple", data := .seq #[.none, .none] }
  have N4 := N3.push F3 { cls := .type "tuple", data := .seq #[.none, .none] } rfl
  have F5 := F4.push { cls := .type "zip", data := .fields #[.none, .bool false, .bool false, .ref (zH2 s.heap x t l).objs.size, .ref (zH3 s.heap x t l).objs.size] }
  have N5 := N4.push F4 { cls := .type "zip", data := .fields #[.none, .bool false, .bool false, .ref (zH2 s.heap x t l).objs.size, .ref (zH3 s.heap x t l).objs.size] } rfl
  have up : ∀ a, zOwn (S + 4) (S + 2) (S + 3) S (S + 1) a → Above a ν := by
    intro a ha p hp
    have : @LT.lt Nat _ p.1 S := hS ▸ Heap.lt_size (N p hp).1
    rcases ha with rfl | rfl | rfl | rfl | rfl
    · exact Nat.lt_of_lt_of_le this (Nat.le_add_right _ _)
    · exact Nat.lt_of_lt_of_le this (Nat.le_add_right _ _)
    · exact Nat.lt_of_lt_of_le this (Nat.le_add_right _ _)
    · exact this
    · exact Nat.lt_of_lt_of_le this (Nat.le_add_right _ _)
  have ap : ZAp (S + 4) (S + 2) (S + 3) S (S + 1) := by
    constructor <;> (intro e; have e' : @Eq Nat _ _ := e; omega)
  have g := h (S + 4) (S + 2) (S + 3) S (S + 1) (zLed (S + 4) (S + 2) (S + 3) S (S + 1) .none (tupO [.none, .none]) { cls := .type "str_ascii_iterator", data := .fields #[.str x t, .int 0 0] } { cls := .type "tuple_iterator", data := .fields #[.ref l, .int 0 0] } .none .none) ap ⟨_, _, _, _, _, rfl, tupO_mk, ⟨rfl, rfl⟩, ⟨rfl, rfl⟩⟩ up
  refine ⟨⟨_, (N5 _ (.head _)).1, rfl⟩, ?_⟩
  show Q (.ref (zH4 s.heap x t l).objs.size) _
  rw [z4]
  refine hQ _ _ _ _ s.toks g F5 ?_
  have e3 : (zH3 s.heap x t l).objs.size = S + 3 := z3
  have n5 := N5 _ (.head _)
  have n4 := N5 _ (.tail _ (.head _))
  have n3 := N5 _ (.tail _ (.tail _ (.head _)))
  have n2 := N5 _ (.tail _ (.tail _ (.tail _ (.head _))))
  have n1 := N5 _ (.tail _ (.tail _ (.tail _ (.tail _ (.head _)))))
  change (zH5 s.heap x t l).get? (zH4 s.heap x t l).objs.size = some (recO "zip" #[.none, .bool false, .bool false, .ref (zH2 s.heap x t l).objs.size, .ref (zH3 s.heap x t l).objs.size]) ∧ (zH4 s.heap x t l).objs.size ≠ c.L ∧ c.h₀.get? (zH4 s.heap x t l).objs.size = none at n5
  change (zH5 s.heap x t l).get? (zH3 s.heap x t l).objs.size = some _ ∧ (zH3 s.heap x t l).objs.size ≠ c.L ∧ c.h₀.get? (zH3 s.heap x t l).objs.size = none at n4
  change (zH5 s.heap x t l).get? (zH2 s.heap x t l).objs.size = some (tupO [.ref s.heap.objs.size, .ref (zH1 s.heap x t).objs.size]) ∧ (zH2 s.heap x t l).objs.size ≠ c.L ∧ c.h₀.get? (zH2 s.heap x t l).objs.size = none at n3
  change (zH5 s.heap x t l).get? (zH1 s.heap x t).objs.size = some _ ∧ (zH1 s.heap x t).objs.size ≠ c.L ∧ c.h₀.get? (zH1 s.heap x t).objs.size = none at n2
  change (zH5 s.heap x t l).get? s.heap.objs.size = some _ ∧ s.heap.objs.size ≠ c.L ∧ c.h₀.get? s.heap.objs.size = none at n1
  rw [z4, z3, z2] at n5
  rw [z3] at n4
  rw [z2, z1, hS] at n3
  rw [z1] at n2
  rw [hS] at n1
  intro p hp
  rcases hp with _ | ⟨_, _ | ⟨_, _ | ⟨_, _ | ⟨_, _ | ⟨_, hp⟩⟩⟩⟩⟩
  · exact n5
  · exact n3
  · exact n4
  · exact n1
  · exact n2
  · exact N5 p (.tail _ (.tail _ (.tail _ (.tail _ (.tail _ hp)))))
end
end Mine

namespace Mine
section
variable {α β : Type} {c : Cx} {m : Loc} {ν : Led} {R : RX} {env : Env}
variable {P : Value → Loc → Led → Prop} {PB : Bool → Loc → Led → Prop} {PF : Flow → Loc → Led → Prop} {PU : Unit → Loc → Led → Prop} {PO : Option Value → Loc → Led → Prop} {PL : List Value → Loc → Led → Prop}
/- unpacking -/
theorem ev_unpackT {t : Addr} {o : Obj} {vs : List Value} {n : Nat} (hm : (t, o) ∈ ν) (ho : TupO o vs) (hn : n = vs.length) (h : PL vs m ν) : EV c m ν (unpackItems (.ref t) n none) PL R := by
  subst hn
  intro s Q E F N hQ hE
  have := unpackItems_tuple (prog := Pg) (w := c.w) (A := c.A) (E := E) (Q := Q) (items := vs.toArray) c.hh (ho.at' (N.get hm)) (fun h' he => hQ _ _ _ h' s.toks (by simpa using h) (F.extBut he (Nat.le_refl _)) (fun p hp => ⟨he _ _ (Nat.ne_of_lt (Heap.lt_size (N p hp).1)) (N p hp).1, (N p hp).2⟩))
  simpa using this
theorem ev_unpackL {t : Addr} {o : Obj} {vs : List Value} {n : Nat} (hm : (t, o) ∈ ν) (ho : LstO o vs) (hn : n = vs.length) (h : PL vs m ν) : EV c m ν (unpackItems (.ref t) n none) PL R := by
  subst hn
  intro s Q E F N hQ hE
  exact PySem.W.kun_items F N (ho.at (N.get hm)) c.hh (by simp) (fun h' F' N' => hQ _ _ _ h' s.toks (by simpa using h) F' N')
theorem ev_assignT {elts : List Expr} {k : Nat} {pos : Pos} {v : Value} {vs : List Value} (h : EV c m ν (unpackItems v vs.length none) (fun xs m₁ ν₁ => EV c m₁ ν₁ (assignInOrder ((assignEach elts env).map (·.2)) xs) PU R) R) (hn : (assignEach elts env).length = vs.length) (hstar : (assignEach elts env).findIdx? (·.1) = none) :
    EV c m ν (assign (.Tuple elts k pos) env v) PU R := by
  intro s Q E F N hQ hE
  rw [arm_assign_Tuple]
  refine wpAny_bind (wpAny_standAt ?_)
  unfold unpack
  rw [hn, hstar]
  exact wpAny_bind (wpAny_holding (h s _ E F N (fun xs m₁ ν₁ h₁ k₁ x F₁ N₁ => x _ Q E F₁ N₁ hQ hE) hE))
theorem ev_order0 {xs : List Value} (h : PU () m ν) : EV c m ν (assignInOrder [] xs) PU R := ev_pure h
theorem ev_order {t : Value → Sem Unit} {ts : List (Value → Sem Unit)} {x : Value} {xs : List Value} (h : EV c m ν (t x) (fun _ m₁ ν₁ => EV c m₁ ν₁ (assignInOrder ts xs) PU R) R) : EV c m ν (assignInOrder (t :: ts) (x :: xs)) PU R := by
  show EV c m ν (do holding xs (t x); assignInOrder ts xs) PU R
  exact ev_bind (ev_holding h)
theorem ev_bindName {x : Str} {v : Value} (h : EV c m ν (storeName env x v) PU R) : EV c m ν (bindName env x v) PU R := fun s Q E F N hQ hE => wpAny_bindName (h s Q E F N hQ hE)

/- slices -/
/-- seq[lower:] of a tuple -/
theorem ev_From {value lower : Expr} {p pos : Pos} (h : EV c m ν (eval value env) (fun v m₁ ν₁ => EV c m₁ ν₁ (eval lower env) (fun i m₂ ν₂ => ∃ t o vs a u, v = .ref t ∧ i = .int ((a : Nat) : Int) u ∧ (t, o) ∈ ν₂ ∧ TupO o vs ∧ 1 ≤ a ∧ a ≤ vs.length ∧ vs.length ≤ 2 ^ 20 ∧ ∀ D, Above D ν₂ → P (.ref D) m₂ ((D, tupO (vs.drop a)) :: ν₂)) R) R)
    (hs : ∀ t S : Addr, subscripted (.Slice (some lower) none none p) false (.ref t) (.ref S) = operate [.ref S, .ref t] (getItem (.ref t) (.ref S)) := by intro _ _; with_unfolding_all rfl)
    (hg : ∀ (t : Addr) r, letTemporaryGo value (.ref t) r = pure () := by intro _ _; with_unfolding_all rfl) : EV c m ν (eval (.Subscript value (.Slice (some lower) none none p) pos) env) P R := by
  intro s Q E F N hQ hE
  refine Subscript_ (h s _ E F N (fun v m₁ ν₁ h₁ k₁ x F₁ N₁ => wpAny_Slice (x _ _ E F₁ N₁ (fun i m₂ ν₂ h₂ k₂ y F₂ N₂ => wpAny_pure (wpAny_pure ?_)) hE)) hE)
  obtain ⟨t, o, vs, a, u, rfl, rfl, hm, ho, h1, h2, h3, hP⟩ := y
  refine slice_tuple_from (s := { s with heap := h₂, toks := k₂ }) (u := u) (items := vs.toArray) (a := a) F₂ N₂ (ho.at' (N₂.get hm)) h1 (by simpa using h2) (fun h' F' N' => ?_) (hs _ _) (hg _) (by simp only [List.size_toArray]; exact Nat.le_trans h3 (by decide))
  refine hQ _ _ _ h' k₂ (hP (h₂.objs.size + 1) (fun p hp => Nat.lt_succ_of_lt (Heap.lt_size (N₂ p hp).1))) F' (by simpa using N')
/-- text[:upper] -/
theorem ev_To {value upper : Expr} {p pos : Pos} (h : EV c m ν (eval value env) (fun v m₁ ν₁ => EV c m₁ ν₁ (eval upper env) (fun i m₂ ν₂ => ∃ x t j u, v = .str x t ∧ i = .int j u ∧ x.length ≤ 2 ^ 20 ∧ ∀ t', P (.str (Txt.slice x none (some j)) t') m₂ ν₂) R) R)
    (hs : ∀ (x : Str) (t : Tok) (S : Addr), subscripted (.Slice none (some upper) none p) false (.str x t) (.ref S) = operate [.ref S, .str x t] (getItem (.str x t) (.ref S)) := by intro _ _ _; with_unfolding_all rfl)
    (hg : ∀ (x : Str) (t : Tok) r, letTemporaryGo value (.str x t) r = pure () := by intro _ _ _; with_unfolding_all rfl) : EV c m ν (eval (.Subscript value (.Slice none (some upper) none p) pos) env) P R := by
  intro s Q E F N hQ hE
  refine Subscript_ (h s _ E F N (fun v m₁ ν₁ h₁ k₁ x F₁ N₁ => wpAny_Slice (wpAny_pure (x _ _ E F₁ N₁ (fun i m₂ ν₂ h₂ k₂ y F₂ N₂ => wpAny_pure ?_) hE))) hE)
  obtain ⟨x, t, j, u, rfl, rfl, h3, hP⟩ := y
  exact slice_strN_ns (s := { s with heap := h₂, toks := k₂ }) (uj := u) F₂ N₂ (fun h' t' k F' N' => hQ _ _ _ h' k (hP t') F' N') (hs _ _ _) (hg _ _) (Nat.le_trans h3 (by decide))

/- texts -/
theorem ev_eqS {x y : Str} {t u : Tok} (h : P (.bool (x == y)) m ν) : EV c m ν (compareOp .Eq (.str x t) (.str y u)) P R := fun s Q E F N hQ hE => PyProof.Rows.eq_str (hQ _ _ _ s.heap s.toks h F N)
theorem ev_neS {x y : Str} {t u : Tok} (h : P (.bool (x != y)) m ν) : EV c m ν (compareOp .NotEq (.str x t) (.str y u)) P R := fun s Q E F N hQ hE => PyProof.Rows.ne_str (hQ _ _ _ s.heap s.toks h F N)
theorem ev_inS {x y : Str} {t u : Tok} (h : P (.bool !(Builtin.Str.occurrences x y 0 x.length 1).isEmpty) m ν) : EV c m ν (compareOp .In (.str y u) (.str x t)) P R := fun s Q E F N hQ hE => PyProof.Rows.in_str (hQ _ _ _ s.heap s.toks h F N)
theorem ev_lenS {x : Str} {t : Tok} (hf : x.length < 2 ^ 40) (h : ∀ k, P (.int x.length k) m ν) : EV c m ν (call (.builtin "len") [.str x t]) P R := fun s Q E F N hQ hE => PyProof.Rows.len_str (by omega) (hQ _ _ _ s.heap _ (h _) F N)
theorem ev_strI {a : Int} {t : Tok} (ha : a.natAbs.log2 < 1920) (h : ∀ k, P (.str (toString a) k) m ν) : EV c m ν (call (.type "str") [.int a t]) P R := fun s Q E F N hQ hE => PySem.P.str_of_int ha (hQ _ _ _ s.heap _ (h _) F N)
theorem ev_strS {x : Str} {t : Tok} (h : P (.str x t) m ν) : EV c m ν (call (.type "str") [.str x t]) P R := fun s Q E F N hQ hE => PySem.P.str_of_str (hQ _ _ _ s.heap s.toks h F N)
theorem ev_addS {x y : Str} {t u : Tok} (hsz : x.length + y.length ≤ 2 ^ 20) (h : ∀ k, P (.str (x ++ y) k) m ν) : EV c m ν (binaryOp .Add (.str x t) (.str y u)) P R := fun s Q E F N hQ hE => PyProof.Rows.add_str (fun t' tk => hQ _ _ _ s.heap _ (h _) F N) (Nat.le_trans hsz (by decide))
theorem ev_inTup {K : Frag} {a : Addr} {vs : List Value} {ys : List Str} {x : Str} {u : Tok} {o : Obj} (hk : (fr.heap_1 c.w.params).lookup a = some o) (ho : o.cls = .type "tuple") (hd : ∃ n, o.data = .seq vs.toArray n) (hi : StrsAre vs ys) (h : P (.bool (ys.any (· == x))) m ν) : EV c m ν (compareOp .In (.str x u) (.ref a)) P R :=
  fun s Q E F N hQ hE => in_tuple_strs (items := vs.toArray) ⟨o, c.X.keeps F.keep _ _ hk, ho, hd⟩ (by simpa using hi) (hQ _ _ _ s.heap s.toks h F N)
theorem ev_notInTupL {a : Addr} {vs : List Value} {ys : List Str} {x : Str} {u : Tok} {o : Obj} (hm : (a, o) ∈ ν) (ho : TupO o vs) (hi : StrsAre vs ys) (h : P (.bool (!(ys.any (· == x)))) m ν) : EV c m ν (compareOp .NotIn (.str x u) (.ref a)) P R :=
  fun s Q E F N hQ hE => notin_tuple_strs (items := vs.toArray) (ho.at' (N.get hm)) (by simpa using hi) (hQ _ _ _ s.heap s.toks h F N)

/-- SHAPES.get -/
noncomputable abbrev getK (w : World) : Addr → Option Obj := fun a => List.lookup a (fr.heap_1 w.params)
theorem ev_getD {D : List (Str × KTD.Dat)} {a : Addr} {pl : Sem Bool} {PM : Value × List Value → Loc → Led → Prop} (hl : KTD.TextTab c.h₀ a D) (h : PM (.builtin "dict.get", [.ref a]) m ν) : EV c m ν (getMethod (.ref a) "get" pl) PM R :=
  fun s Q E F N hQ hE => KTD.getMethod_text (h₀ := c.h₀) (D := D) ⟨hl, F.keep⟩ (hQ _ _ _ s.heap s.toks h F N)
theorem ev_get1D {D : List (Str × KTD.Dat)} {a : Addr} {k : Str} {t : Tok} (hl : KTD.TextTab c.h₀ a D) (h : KTD.Each c.h₀ k (fun v => P v m ν) (P .none m ν) D) : EV c m ν (call (.builtin "dict.get") [.ref a, .str k t]) P R := by
  intro s Q E F N hQ hE
  refine KTD.get1_text (h₀ := c.h₀) (D := D) ⟨hl, F.keep⟩ ?_
  have go : ∀ D : List (Str × KTD.Dat), KTD.Each c.h₀ k (fun v => P v m ν) (P .none m ν) D → KTD.Each c.h₀ k (fun v => Q v { s with toks := s.toks + 1 }) (Q .none { s with toks := s.toks + 1 }) D := by
    intro D
    induction D with
    | nil => exact fun h => hQ _ _ _ s.heap _ h F N
    | cons p D ih =>
      obtain ⟨x, d⟩ := p
      intro h
      have h' : if decide (k = x) = true then KTD.Opened c.h₀ (fun v => P v m ν) d else KTD.Each c.h₀ k (fun v => P v m ν) (P .none m ν) D := h
      show if decide (k = x) = true then KTD.Opened c.h₀ _ d else KTD.Each c.h₀ k _ _ D
      by_cases hx : decide (k = x) = true
      · rw [if_pos hx] at h' ⊢
        have im : ∀ v, P v m ν → Q v { s with toks := s.toks + 1 } := fun v hv => hQ _ _ _ s.heap _ hv F N
        cases d with
        | flat d => cases d <;> first | exact im _ h' | exact fun t => im _ (h' t) | exact fun v hv => im _ (h' v hv)
        | float b => exact fun t => im _ (h' t)
        | nums ns => exact fun a ha => im _ (h' a ha)
        | words ns => exact fun a ha => im _ (h' a ha)
        | tup ns => exact fun a vs ha hb => im _ (h' a vs ha hb)
        | tab ns => exact fun a ha => im _ (h' a ha)
      · rw [if_neg hx] at h' ⊢
        exact ih h'
  exact go D h
def shapesL : List (Str × Str) := [("const", "dx"), ("move", "ds"), ("global", "dx"), ("setglobal", "xs"), ("static", "dx"), ("capture", "dx"), ("call", "dsm"), ("splat", "dsmx"), ("kwcall", "dsxmm"), ("closure", "dxm"), ("box", "d"), ("unbox", "dsx"), ("setbox", "ss"), ("clear", "d"), ("goto", "g"), ("unless", "sg"), ("return", "s"), ("enter", "g"), ("leave", "x"), ("caught", "d"), ("rethrow", ""), ("defined", "sx"), ("method", "xsx"), ("invoke", "dxm"), ("guard", "xg")]
theorem shapes_in : KTD.TextTab c.h₀ 48 (shapesL.map fun p => (p.1, KTD.Dat.flat (.str p.2))) := by
  refine KTD.text_of_look (get := getK c.w) (fun a o e => c.X _ _ e) ?_
  kernel_rfl
theorem ev_shapes {k : Str} {t : Tok} (h1 : ∀ y t', shapesL.lookup k = some y → P (.str y t') m ν) (h2 : shapesL.lookup k = none → P .none m ν) : EV c m ν (call (.builtin "dict.get") [.ref 48, .str k t]) P R := by
  refine ev_get1D shapes_in ?_
  generalize shapesL = D at h1 h2
  induction D with
  | nil => exact h2 rfl
  | cons p D ih =>
    obtain ⟨x, y⟩ := p
    show if decide (k = x) = true then KTD.Opened c.h₀ _ _ else KTD.Each c.h₀ k _ _ _
    by_cases hx : k = x
    · rw [if_pos (decide_eq_true hx)]
      exact fun t' => h1 y t' (by simp [hx])
    · rw [if_neg (by simpa using hx)]
      have hb : (k == x) = false := by simpa using hx
      exact ih (fun y' t' e => h1 y' t' (by rw [List.lookup_cons, hb]; exact e)) (fun e => h2 (by rw [List.lookup_cons, hb]; exact e))
end
end Mine

namespace Mine
section
variable {c : Cx} {m : Loc} {ν : Led} {R : RX} {P : Value → Loc → Led → Prop}
/-- a def of the top with cells is called -/
theorem ev_callC {f : Addr} {args : List Value} {kw : List (Str × Value)} {n : Nat} {name qual : Str} {params : Arguments} {body : List Stmt} {scope : Scope} {dV kV doc pm cdv ct oc : Value} {an od : Option Addr} {osl : Array (Option Value)} {binds : List (Str × Value)} {Rb : RX} {m₀ : Loc} {cs : Addr → List (Str × Addr)} {cm : Str → Option Value}
    (ho : (fr.heap_1 c.w.params).lookup f = some ⟨oc, od, .func (fnOf name qual params body scope dV kV doc pm an cdv ct), osl⟩) (hcd : codeIn (fr.heap_1 c.w.params) cdv qual = true) (hr : Room c (n + 1))
    (hbind : ∀ s : Shared, BindsTo s (fnOf name qual params body scope dV kV doc pm an cdv ct) ⟨args, kw⟩ binds) (hkind : (binds.all fun y => scope.names.lookup y.1 == some .local || scope.names.lookup y.1 == some .cell) = true)
    (hnd : ((cellsFrom 0 scope.names []).map (·.1)).Nodup) (hm : ∀ L, bindL (envOfC qual scope L f cdv).kindOf binds (fun _ => none) = m₀) (hcm : ∀ L, bindC (envOfC qual scope L f cdv).kindOf binds (fun _ => none) = cm) (hcs : ∀ L, cellsFrom (L + 1) scope.names [] = cs L)
    (hck : (scope.isCoroutine, scope.isGenerator, scope.kind) = (false, false, .function))
    (h : ∀ (c' : Cx) cells, Room c' n → (c'.base = c.base ∧ c'.w = c.w) → CellsAre cm (cs c'.L) cells → (∀ p ∈ ν, @LT.lt Nat _ p.1 c'.L) → EV c' m₀ (cells ++ ν) (execs body (envOfC qual scope c'.L f cdv)) (fun fl _ ν' => P (retOf fl) m ν') Rb)
    (hR : ∀ c' : Cx, Room c' n → c'.env = envOfC qual scope c'.L f cdv → ∀ e m' ν', Rb e m' ν' → EV c' m' ν' (leaving (envOfC qual scope c'.L f cdv) e) (fun _ _ ν'' => R e m ν'') NoX) :
    EV c m ν (call (.ref f) args kw) P R := by
  intro s Q E F N hQ hE
  obtain ⟨hco, hk'⟩ := Prod.mk.inj hck
  obtain ⟨hgen, hk⟩ := Prod.mk.inj hk'
  refine wpAny_call (code_defC c.B F c.X N c.T c.hA c.hf c.hk ho hcd (Nat.lt_of_le_of_lt (Nat.le_add_right _ _) hr.1) (hbind s) hkind hnd (fun g L' h₁ tk cells FG F' N' Y B' X' T' lt => ?_) hco hgen hk)
  rw [hm] at F'
  rw [hcm, hcs] at Y
  let c' : Cx := ⟨c.w, L', c.A.deeper (envOfC qual scope L' f cdv), c.A, c.base, g, c.env :: c.outer, envOfC qual scope L' f cdv, c.p, c.loose, c.mean, c.mg, c.mb, B', X', T', Around.frames_deeper c.hA, rfl, hk, hgen, hco, rfl, rfl, c.hi.keeps FG.keep, c.ht, c.hh, c.hgd⟩
  have r' : Room c' n := room_deeper hr
  have lift : ∀ (s' : Shared) (m' : Loc) (ν' : Led), Fr g L' s'.heap m' → News g L' s'.heap ν' → Fr c.h₀ c.L s'.heap m ∧ News c.h₀ c.L s'.heap ν' := by
    intro s' m' ν' F2 N2
    refine ⟨FG.keeps F2.keep, fun p hp => ⟨(N2 p hp).1, fun q => ?_, ?_⟩⟩
    · obtain ⟨oL, heL, -⟩ := ns_obj FG.ns
      have := (N2 p hp).2.2; rw [q, heL] at this; cases this
    · cases q : c.h₀.get? p.1 with
      | none => rfl
      | some o => have := (N2 p hp).2.2; rw [FG.keep _ _ q] at this; cases this
  refine h c' cells r' ⟨rfl, rfl⟩ Y lt { s with heap := h₁, toks := tk } _ _ F' N' (fun fl m' ν' h' tk' hp F2 N2 => leaveK_ F2 N2 fun a b => hQ _ _ _ h' tk' hp a b) (fun e m' ν' h' tk' hx F2 N2 => ?_)
  refine hR c' r' rfl e m' ν' hx _ _ _ F2 N2 (fun _ m'' ν'' h'' tk'' hy F'' N'' => ?_) (fun _ _ _ _ _ hy _ _ => hy.elim)
  obtain ⟨a, b⟩ := lift { s with heap := h'', toks := tk'' } _ _ F'' N''
  exact hE e m ν'' h'' tk'' hy a b
end

section
variable {c : Cx} {m : Loc} {ν : Led} {R : RX} {P : Value → Loc → Led → Prop}
/-- a tuple's item at a place told by a number from 0 on -/
theorem ev_itemTN {value slice : Expr} {l : Addr} {o : Obj} {vs : List Value} {k : Int} {u : Tok} {x : Value} (hm : (l, o) ∈ ν) (ho : TupO o vs) (h0 : 0 ≤ k) (hhi : k < 2 ^ 63) (hx : vs[k.toNat]? = some x) (h : P x m ν)
    (hs : subscripted slice false (.ref l) (.int k u) = operate [.ref l, .int k u] (getItem (.ref l) (.int k u)) := by with_unfolding_all rfl) : EV c m ν (subscriptTail value slice (.ref l) (.int k u)) P R := by
  have lt : k.toNat < vs.length := (List.getElem?_eq_some_iff.mp hx).1
  refine ev_itemT hm ho (by omega) hhi (j := k.toNat) ?_ hx h hs
  unfold seqIndex?
  simp only [show ¬ k < 0 from by omega, if_false]
  rw [if_pos (by simp only [Bool.and_eq_true, decide_eq_true_eq]; omega)]
end
section
variable {c : Cx} {m : Loc} {ν : Led} {R : RX} {env : Env} {PU : Unit → Loc → Led → Prop} {PF : Flow → Loc → Led → Prop}
abbrev kSt (c : Cx) (env : Env) (a : Str) (x : Value) (PU : Unit → Loc → Led → Prop) (R : RX) : Unit → Loc → Led → Prop := fun _ m ν => EV c m ν (storeName env a x) PU R
abbrev kNone (PF : Flow → Loc → Led → Prop) : Value → Loc → Led → Prop := fun v m ν => v = .none ∧ PF .next m ν
theorem ev_ExprN {e : Expr} {pos : Pos} (h : EV c m ν (eval e env) (kNone PF) R) (hi : interactive env = false) (hs : swapsWith e none pos.line env = pure false) : EV c m ν (exec (.Expr e pos) env) PF R := ev_ExprS h hi hs
theorem ev_assignT2 {a b : Str} {pa pb pos : Pos} {k : Nat} {T : Addr} {o : Obj} {x y : Value} (hm : (T, o) ∈ ν) (ho : TupO o [x, y]) (h : EV c m ν (storeName env a x) (kSt c env b y PU R) R) : EV c m ν (assign (.Tuple [.Name a pa, .Name b pb] k pos) env (.ref T)) PU R :=
  ev_assignT (vs := [x, y]) (ev_unpackT hm ho rfl (ev_order (ev_assignName (ev_imp h fun _ _ _ g => ev_order (ev_assignName (ev_imp g fun _ _ _ g' => ev_order0 g')))))) rfl rfl
theorem ev_assignL3 {a b d : Str} {pa pb pd pos : Pos} {k : Nat} {T : Addr} {o : Obj} {x y z : Value} (hm : (T, o) ∈ ν) (ho : LstO o [x, y, z]) (h : EV c m ν (storeName env a x) (kSt c env b y (kSt c env d z PU R) R) R) : EV c m ν (assign (.Tuple [.Name a pa, .Name b pb, .Name d pd] k pos) env (.ref T)) PU R :=
  ev_assignT (vs := [x, y, z]) (ev_unpackL hm ho rfl (ev_order (ev_assignName (ev_imp h fun _ _ _ g => ev_order (ev_assignName (ev_imp g fun _ _ _ g' => ev_order (ev_assignName (ev_imp g' fun _ _ _ g'' => ev_order0 g'')))))))) rfl rfl
abbrev kSw2 (c : Cx) (env : Env) (a b : Str) (PF : Flow → Loc → Led → Prop) (R : RX) : Value → Loc → Led → Prop := fun v m ν => ∃ T o x y, v = .ref T ∧ (T, o) ∈ ν ∧ TupO o [x, y] ∧ EV c m ν (storeName env b y) (kSt c env a x (kNext PF) R) R
theorem ev_AssignSwap2 {elts : List Expr} {k : Nat} {tpos pos : Pos} {value : Expr} {a b : Str} (h : EV c m ν (eval value env) (kSw2 c env a b PF R) R)
    (hs : swapsWithSole [.Tuple elts k tpos] value pos.line env = pure false) (hw : swappedStores [.Tuple elts k tpos] value env = pure (some [a, b])) : EV c m ν (exec (.Assign [.Tuple elts k tpos] value pos) env) PF R :=
  ev_AssignSwap (names := [a, b]) (ev_imp h fun v m₁ ν₁ g => by
    obtain ⟨T, o, x, y, rfl, hm, ho, g⟩ := g
    exact ev_unpackT hm ho rfl (ev_order (ev_bindName (ev_imp g fun _ _ _ g' => ev_order (ev_bindName (ev_imp g' fun _ _ _ g'' => ev_order0 g'')))))) hs hw
abbrev kSw3 (c : Cx) (env : Env) (a b d : Str) (PF : Flow → Loc → Led → Prop) (R : RX) : Value → Loc → Led → Prop := fun v m ν => ∃ T o x y z, v = .ref T ∧ (T, o) ∈ ν ∧ TupO o [x, y, z] ∧ EV c m ν (storeName env d z) (kSt c env b y (kSt c env a x (kNext PF) R) R) R
theorem ev_AssignSwap3 {elts : List Expr} {k : Nat} {tpos pos : Pos} {value : Expr} {a b d : Str} (h : EV c m ν (eval value env) (kSw3 c env a b d PF R) R)
    (hs : swapsWithSole [.Tuple elts k tpos] value pos.line env = pure false) (hw : swappedStores [.Tuple elts k tpos] value env = pure (some [a, b, d])) : EV c m ν (exec (.Assign [.Tuple elts k tpos] value pos) env) PF R :=
  ev_AssignSwap (names := [a, b, d]) (ev_imp h fun v m₁ ν₁ g => by
    obtain ⟨T, o, x, y, z, rfl, hm, ho, g⟩ := g
    exact ev_unpackT hm ho rfl (ev_order (ev_bindName (ev_imp g fun _ _ _ g' => ev_order (ev_bindName (ev_imp g' fun _ _ _ g'' => ev_order (ev_bindName (ev_imp g'' fun _ _ _ g3 => ev_order0 g3)))))))) hs hw
end
theorem ev_itemTK {c : Cx} {m : Loc} {ν : Led} {R : RX} {P : Value → Loc → Led → Prop} {value slice : Expr} {l : Addr} {o : Obj} {vs : List Value} {k : Nat} {u : Tok} {x : Value} (hm : (l, o) ∈ ν) (ho : TupO o vs) (hhi : k < 1048576) (hx : vs[k]? = some x) (h : P x m ν)
    (hs : subscripted slice false (.ref l) (.int k u) = operate [.ref l, .int k u] (getItem (.ref l) (.int k u))) : EV c m ν (subscriptTail value slice (.ref l) (.int (k : Nat) u)) P R :=
  ev_itemTN hm ho (Int.natCast_nonneg _) (by omega) hx h hs
theorem ite_isF {b : Bool} {p q : Prop} (hb : b = false) (h : q) : if b = true then p else q := by rw [hb]; exact ite_F h
theorem ite_isT {b : Bool} {p q : Prop} (hb : b = true) (h : p) : if b = true then p else q := by rw [hb]; exact ite_T h
theorem vn_str {x : Str} {t : Tok} : (Value.str x t == Value.none) = false := rfl
theorem vn_int {x : Int} {t : Tok} : (Value.int x t == Value.none) = false := rfl
theorem vn_none : (Value.none == Value.none) = true := rfl
/-- both ways of a test -/
theorem ite_B {b : Bool} {p q : Prop} (h : b = true → p) (h' : b = false → q) : if b = true then p else q := by
  cases b
  · exact ite_F (h' rfl)
  · exact ite_T (h rfl)
/- data -/
inductive At
  | int (n : Int)
  | str (x : Str)
  | bool (b : Bool)
def AtV : At → Value → Prop
  | .int n, v => ∃ t, v = .int n t
  | .str x, v => ∃ t, v = .str x t
  | .bool b, v => v = .bool b
inductive Pay
  | one (a : At)
  | tup (l : List At)
/-- a part of a row: a register set, one read, several read, a goal, other -/
inductive Part
  | d (n : Int)
  | s (n : Int)
  | m (l : List Int)
  | g (n : Int)
  | x (p : Pay)
def Part.pay : Part → Pay
  | .d n => .one (.int n)
  | .s n => .one (.int n)
  | .m l => .tup (l.map .int)
  | .g n => .one (.int n)
  | .x p => p
def Part.letter : Part → Nat
  | .d _ => 100
  | .s _ => 115
  | .m _ => 109
  | .g _ => 103
  | .x _ => 120
inductive AllV {α : Type} (S : α → Value → Prop) : List α → List Value → Prop
  | nil : AllV S [] []
  | cons {a : α} {v : Value} {as : List α} {vs : List Value} : S a v → AllV S as vs → AllV S (a :: as) (v :: vs)
theorem AllV.length {α : Type} {S : α → Value → Prop} : ∀ {as : List α} {vs : List Value}, AllV S as vs → vs.length = as.length
  | _, _, .nil => rfl
  | _, _, .cons _ r => by simp [r.length]
theorem AllV.mono {α : Type} {S S' : α → Value → Prop} (h : ∀ a v, S a v → S' a v) : ∀ {as : List α} {vs : List Value}, AllV S as vs → AllV S' as vs
  | _, _, .nil => .nil
  | _, _, .cons x r => .cons (h _ _ x) (r.mono h)
theorem AllV.at {α : Type} {S : α → Value → Prop} : ∀ {as : List α} {vs : List Value} {k : Nat} {v : Value}, AllV S as vs → vs[k]? = some v → ∃ a, as[k]? = some a ∧ S a v
  | _, _, k, _, .nil, e => by cases e
  | _, _, 0, _, .cons x r, e => by cases e; exact ⟨_, rfl, x⟩
  | _, _, k + 1, _, .cons x r, e => r.at e
theorem AllV.snoc {α : Type} {S : α → Value → Prop} {a : α} {v : Value} : ∀ {as : List α} {vs : List Value}, AllV S as vs → S a v → AllV S (as ++ [a]) (vs ++ [v])
  | _, _, .nil, h => .cons h .nil
  | _, _, .cons x r, h => .cons x (r.snoc h)
theorem AllV.app {α : Type} {S : α → Value → Prop} {bs : List α} {ws : List Value} : ∀ {as : List α} {vs : List Value}, AllV S as vs → AllV S bs ws → AllV S (as ++ bs) (vs ++ ws)
  | _, _, .nil, h => h
  | _, _, .cons x r, h => .cons x (r.app h)
theorem AllV.drop {α : Type} {S : α → Value → Prop} : ∀ (k : Nat) {as : List α} {vs : List Value}, AllV S as vs → AllV S (as.drop k) (vs.drop k)
  | 0, _, _, h => h
  | k + 1, _, _, .nil => .nil
  | k + 1, _, _, .cons x r => r.drop k
theorem AllV.get {α : Type} {S : α → Value → Prop} : ∀ {as : List α} {vs : List Value} {k : Nat} {a : α}, AllV S as vs → as[k]? = some a → ∃ v, vs[k]? = some v ∧ S a v
  | _, _, k, _, .nil, e => by cases e
  | _, _, 0, _, .cons x r, e => by cases e; exact ⟨_, rfl, x⟩
  | _, _, k + 1, _, .cons x r, e => r.get e
def PayV (ν : Led) : Pay → Value → Prop
  | .one a, v => AtV a v
  | .tup l, v => ∃ b o vs, v = .ref b ∧ (b, o) ∈ ν ∧ TupO o vs ∧ AllV AtV l vs
structure Row where
  name : Str
  parts : List Part
def PartV (ν : Led) (p : Part) (v : Value) : Prop := PayV ν p.pay v
def RowV (ν : Led) (r : Row) (v : Value) : Prop := ∃ b o t vs, v = .ref b ∧ (b, o) ∈ ν ∧ TupO o (.str r.name t :: vs) ∧ AllV (PartV ν) r.parts vs
abbrev RowsV (ν : Led) : List Row → List Value → Prop := AllV (RowV ν)
/-- the tuples stay -/
def IsT (o : Obj) : Prop := ∃ vs, TupO o vs
def KeepT (ν ν' : Led) : Prop := ∀ p ∈ ν, IsT p.2 → p ∈ ν'
theorem TupO.cls {o : Obj} {vs : List Value} (h : TupO o vs) : o.cls = .type "tuple" := by
  obtain ⟨n, rfl⟩ := h
  rfl
theorem PayV.mono {ν ν' : Led} (h : KeepT ν ν') {p : Pay} {v : Value} (x : PayV ν p v) : PayV ν' p v := by
  cases p with
  | one a => exact x
  | tup l => obtain ⟨b, o, vs, e, hm, ho, r⟩ := x; exact ⟨b, o, vs, e, h _ hm ⟨_, ho⟩, ho, r⟩
theorem PartV.mono {ν ν' : Led} (h : KeepT ν ν') {p : Part} {v : Value} (x : PartV ν p v) : PartV ν' p v := PayV.mono h x
theorem RowV.mono {ν ν' : Led} (h : KeepT ν ν') {r : Row} {v : Value} (x : RowV ν r v) : RowV ν' r v := by
  obtain ⟨b, o, t, vs, e, hm, ho, a⟩ := x
  exact ⟨b, o, t, vs, e, h _ hm ⟨_, ho⟩, ho, a.mono fun _ _ y => y.mono h⟩
theorem KeepT.refl {ν : Led} : KeepT ν ν := fun _ h _ => h
theorem KeepT.of {ν ν' : Led} (h : ∀ p ∈ ν, p ∈ ν') : KeepT ν ν' := fun p hp _ => h p hp
theorem KeepT.cons {ν ν' : Led} (h : KeepT ν ν') (q : Addr × Obj) : KeepT ν (q :: ν') := fun p hp e => .tail _ (h p hp e)
theorem KeepT.trans {ν ν' ν'' : Led} (h : KeepT ν ν') (h' : KeepT ν' ν'') : KeepT ν ν'' := fun p hp e => h' _ (h p hp e) e
theorem KeepT.drop {ν ν' : Led} {q : Addr × Obj} (h : KeepT ν ν') (hq : ¬ IsT q.2) : KeepT (q :: ν) ν' := fun p hp e => by
  rcases List.mem_cons.mp hp with rfl | hp
  · exact absurd e hq
  · exact h p hp e
theorem KeepT.app {ν ν' : Led} (h : KeepT ν ν') (δ : Led) : KeepT ν (δ ++ ν') := fun p hp e => List.mem_append_right _ (h p hp e)
theorem comp_done {own : Addr → Prop} {src : Led → Prop} {C D : Addr} {oC oD : Obj} {mC : Loc} {b ν' ν'' : Led} {m : Loc} {I : Led → Prop} (hs : ∀ p ∈ (C, oC) :: (D, oD) :: (b ++ ν''), p ∈ ν') (hN : NsObj oC mC) (hne : ∀ p ∈ ν'', ¬ own p.1 ∧ p.1 ≠ C ∧ p.1 ≠ D) (hsrc : src ν'') (hI : I ν'') : CompDone own src C D oD b m I m ν' :=
  ⟨rfl, oC, mC, ν'', hN, hs, hne, hsrc, hI⟩
/- ledgers: subsets, apartness -/
theorem sub_nil {L : Led} : ∀ p ∈ ([] : Led), p ∈ L := fun _ h => nomatch h
theorem sub_cons {x : Addr × Obj} {A L : Led} (h : x ∈ L) (h' : ∀ p ∈ A, p ∈ L) : ∀ p ∈ x :: A, p ∈ L := fun p hp => by
  rcases List.mem_cons.mp hp with rfl | hp
  · exact h
  · exact h' p hp
theorem sub_app {A B L : Led} (h : ∀ p ∈ A, p ∈ L) (h' : ∀ p ∈ B, p ∈ L) : ∀ p ∈ A ++ B, p ∈ L := fun p hp => (List.mem_append.mp hp).elim (h p) (h' p)
theorem sub_tail {x : Addr × Obj} {A L : Led} (h : ∀ p ∈ A, p ∈ L) : ∀ p ∈ A, p ∈ x :: L := fun p hp => .tail _ (h p hp)
theorem sub_inl {A B L : Led} (h : ∀ p ∈ A, p ∈ L) : ∀ p ∈ A, p ∈ L ++ B := fun p hp => List.mem_append_left _ (h p hp)
theorem sub_inr {A B L : Led} (h : ∀ p ∈ A, p ∈ L) : ∀ p ∈ A, p ∈ B ++ L := fun p hp => List.mem_append_right _ (h p hp)
theorem ne_nil {a : Addr} : ∀ p ∈ ([] : Led), p.1 ≠ a := fun _ h => nomatch h
theorem ne_cons {x : Addr × Obj} {A : Led} {a : Addr} (h : x.1 ≠ a) (h' : ∀ p ∈ A, p.1 ≠ a) : ∀ p ∈ x :: A, p.1 ≠ a := fun p hp => by
  rcases List.mem_cons.mp hp with rfl | hp
  · exact h
  · exact h' p hp
theorem ne_app {A B : Led} {a : Addr} (h : ∀ p ∈ A, p.1 ≠ a) (h' : ∀ p ∈ B, p.1 ≠ a) : ∀ p ∈ A ++ B, p.1 ≠ a := fun p hp => (List.mem_append.mp hp).elim (h p) (h' p)
theorem Above.ne {a : Addr} {A : Led} (h : Above a A) : ∀ p ∈ A, p.1 ≠ a := fun p hp => Nat.ne_of_lt (h p hp)
theorem Above.tail {a : Addr} {x : Addr × Obj} {A : Led} (h : Above a (x :: A)) : Above a A := fun p hp => h p (.tail _ hp)
theorem Above.head {a : Addr} {x : Addr × Obj} {A : Led} (h : Above a (x :: A)) : @LT.lt Nat _ x.1 a := h x (.head _)
theorem Above.right {a : Addr} {A B : Led} (h : Above a (A ++ B)) : Above a B := fun p hp => h p (List.mem_append_right _ hp)
theorem Above.left {a : Addr} {A B : Led} (h : Above a (A ++ B)) : Above a A := fun p hp => h p (List.mem_append_left _ hp)
theorem gtN {a b : Addr} (h : @LT.lt Nat _ a b) : b ≠ a := Nat.ne_of_gt h
theorem ltN' {a b : Addr} (h : @LT.lt Nat _ a b) : a ≠ b := Nat.ne_of_lt h
/-- the cells of a list of ints -/
abbrev IntV (n : Int) (v : Value) : Prop := ∃ t, v = .int n t
def usesP : Part → List Int
  | .s n => [n]
  | .m l => l
  | _ => []
def goalsP : Part → List Int
  | .g n => [n]
  | _ => []
def Row.uses (r : Row) : List Int := r.parts.flatMap usesP
def Row.goals (r : Row) : List Int := r.parts.flatMap goalsP
def Row.sets (r : Row) : Option Int := match r.parts with
  | .d n :: _ => some n
  | _ => none
theorem take_next {α β : Type} {l : List α} {k : Nat} {a : α} (f : α → List β) (h : l[k]? = some a) : (l.take (k + 1)).flatMap f = (l.take k).flatMap f ++ f a := by
  rw [List.take_add_one, h]
  simp
theorem zrow_item {ν : Led} {letters : Str} {parts : List Part} {vs : List Value} {k : Nat} {v : Value} {δ : Led} (hl : letters = ⟨(parts.map Part.letter).toArray⟩) (h : zItem letters vs k v δ) (ha : AllV (PartV ν) parts vs) :
    ∃ T p y w, parts[k]? = some p ∧ PartV ν p y ∧ v = .ref T ∧ δ = [(T, tupO [.str ⟨#[p.letter]⟩ w, y])] := by
  obtain ⟨T, u, y, w, hu, hy, rfl, rfl⟩ := h
  obtain ⟨p, hp, hpv⟩ := ha.at hy
  subst hl
  have : (parts.map Part.letter)[k]? = some u := by simpa using hu
  rw [List.getElem?_map, hp] at this
  cases this
  exact ⟨T, p, y, w, hp, hpv, rfl, rfl⟩
theorem ints_at {l : List Int} {vs : List Value} (h : AllV AtV (l.map .int) vs) : AllV IntV l vs := by
  induction l generalizing vs with
  | nil => cases h; exact .nil
  | cons n l ih =>
    cases h with
    | cons x r => exact .cons x (ih r)
def Row.letters (r : Row) : Str := ⟨(r.parts.map Part.letter).toArray⟩
/-- the row has its name's parts -/
def Shaped (r : Row) : Prop := shapesL.lookup r.name = some r.letters
end Mine

namespace Mine
section
variable {c : Cx} {m : Loc} {ν : Led} {R : RX} {env : Env} {P : Value → Loc → Led → Prop}
/-- a function's object -/
def FnO (o : Obj) : Prop := ∃ fd, o.data = .func fd
theorem FnO.at {h : Heap} {f : Addr} {o : Obj} (x : FnO o) (e : h.get? f = some o) : FnAt f h := by
  obtain ⟨fd, hd⟩ := x
  obtain ⟨oc, od, dat, sl⟩ := o
  cases hd
  exact ⟨oc, od, fd, sl, e⟩
/-- the int function F, as an object of the ledger -/
structure Callee (ν : Led) (f : Addr) (F : Int → Int) : Prop where
  fn : ∃ o, (f, o) ∈ ν ∧ FnO o
  call : ∀ (c : Cx) m ν' P R n u, Room c 1 → (∀ p ∈ ν, p ∈ ν') → (∀ t, P (.int (F n) t) m ν') → EV c m ν' (call (.ref f) [.int n u]) P R
theorem Callee.more {ν ν' : Led} {f : Addr} {F : Int → Int} (h : Callee ν f F) (hs : ∀ p ∈ ν, p ∈ ν') : Callee ν' f F :=
  ⟨let ⟨o, a, b⟩ := h.fn; ⟨o, hs _ a, b⟩, fun c m ν₂ P R n u r h1 h2 => h.call c m ν₂ P R n u r (fun p hp => h1 p (hs p hp)) h2⟩
abbrev kFn (c : Cx) (f : Addr) (o : Obj) (P : Value → Loc → Led → Prop) (R : RX) : List Value → Loc → Led → Prop := fun vs m ν => (f, o) ∈ ν ∧ EV c m ν (call (.ref f) vs) P R
theorem ev_cwFn {f : Addr} {o : Obj} {e : Expr} {rest : List Expr} {pos : Pos} (hf : (f, o) ∈ ν) (hd : FnO o) (h : EV c m ν (spliced (backTo pos (starEach (e :: rest) env))) (kFn c f o P R) R)
    (he : starEach (e :: rest) env = (false, eval e env) :: starEach rest env) (hplain : (backTo pos (starEach rest env)).any (·.1) = false) : EV c m ν (callWith pos (.ref f) [] (backTo pos (starEach (e :: rest) env)) []) P R :=
  fun s Q E F N hQ hE => callWith_F (q := f) (first := []) (hd.at (N.get hf)) (h s _ E F N (fun vs m₁ ν₁ h₁ k₁ x F₁ N₁ => ⟨hd.at (N₁.get x.1), x.2 _ Q E F₁ N₁ hQ hE⟩) hE) he hplain

/- lambdas -/
theorem ev_LambdaNew {cc T : Addr} {ps : Array Value} {params : Arguments} {body : Expr} {scope : Scope} {pos : Pos} {clos : List (Str × Addr)} {ν₁ : Led} (C : CodeHd c.base cc T) (hcode : env.code = .ref cc) (hgl : env.globals = mainGlobals) (hν : ∀ p ∈ (T, tabObj ps) :: ν₁, p ∈ ν) (hne : ∀ p ∈ ν₁, p.1 ≠ T)
    (ht : TriplesOk ps.toList) (hnf : codeAmong pos ps.toList = none) (hdef : defaultsOf params env = ([], [])) (hcl : closureFor scope env = pure clos)
    (h : ∀ f c' oc vs t ctv pm, oc.data = .fields vs → vs[1]? = some (.str (env.qual ++ "<lambda>") t) → Above c' ((T, tabObj ps) :: ν₁) → @LT.lt Nat _ c' f →
      P (.ref f) m ((f, kla_obj "<lambda>" (env.qual ++ "<lambda>") params body scope clos pm c' ctv) :: (c', oc) :: (T, tabObj (ps ++ #[rawInt pos.line, rawInt pos.col, .ref c'])) :: ν₁)) :
    EV c m ν (eval (.Lambda params body scope pos) env) P R := by
  intro s Q E F N hQ hE
  refine kla_eval hdef ?_
  have N₁ : News c.h₀ c.L s.heap ((T, tabObj ps) :: ν₁) := fun p hp => N p (hν p hp)
  have hm := N₁ _ (.head _)
  have hgs := c.T.g.keeps F.keep
  obtain ⟨bm, ob, b1, b2, b3, b4, b5, b6⟩ := c.T.bmain
  have hgP : mainGlobals ≠ T := fun q => by
    obtain ⟨o, es, ep, e, hd, _⟩ := hgs
    rw [q, hm.1] at e; cases e; cases hd
  have hbP : bm ≠ T := fun q => by
    have e := F.keep _ _ b3
    rw [q, hm.1] at e; cases e; cases b4
  have hbG : bm ≠ mainGlobals := fun q => by
    obtain ⟨o, es, ep, e, hd, _⟩ := c.T.g
    rw [q, e] at b3; cases b3; rw [hd] at b6; cases b6
  refine kla_makeFunction (mg := c.mg) hcl hgl hgs hcode (C.keeps fun b o e => F.keep b o (c.B.stays b o e)) hm.1 ht hnf hgP ⟨bm, ob, b1, b2, hbG, hbP, F.keep _ _ b3, b4, b5, b6⟩ fun c' ctv h' tk hx hge hlt hrec htb => ?_
  obtain ⟨c₂, oc, vs, t, e2, hoc, hd, hv⟩ := hrec
  cases e2
  obtain ⟨F', N'⟩ := news_ext F (fun p hp => N₁ p (.tail _ hp)) hm.2.1 hm.2.2 hne hx
  have hLc : @LT.lt Nat _ c.L c' := Nat.lt_of_lt_of_le F.ns.lt hge
  have fresh : c.h₀.get? c' = none := Heap.get?_none_of_le (Nat.le_trans F.above (Nat.le_of_lt hLc))
  have N2 : News c.h₀ c.L h' ((c', oc) :: (T, tabObj (ps ++ #[rawInt pos.line, rawInt pos.col, .ref c'])) :: ν₁) := by
    intro p hp
    rcases List.mem_cons.mp hp with rfl | hp
    · exact ⟨hoc, Nat.ne_of_gt hLc, fresh⟩
    · rcases List.mem_cons.mp hp with rfl | hp
      · exact ⟨htb, hm.2⟩
      · exact N' p hp
  exact hQ _ _ _ _ tk (h h'.objs.size c' oc vs t ctv _ hd hv (fun q hq => Nat.lt_of_lt_of_le (Heap.lt_size (N₁ q hq).1) hge) hlt) (F'.push _) (N2.push F' _ rfl)
theorem ev_LambdaHit {cc T c' : Addr} {ps : Array Value} {params : Arguments} {body : Expr} {scope : Scope} {pos : Pos} {clos : List (Str × Addr)} (C : CodeHd c.base cc T) (hcode : env.code = .ref cc) (hgl : env.globals = mainGlobals) (hmem : (T, tabObj ps) ∈ ν)
    (ht : TriplesOk ps.toList) (hnf : codeAmong pos ps.toList = some (.ref c')) (hdef : defaultsOf params env = ([], [])) (hcl : closureFor scope env = pure clos)
    (h : ∀ f ctv pm, Above f ν → P (.ref f) m ((f, kla_obj "<lambda>" (env.qual ++ "<lambda>") params body scope clos pm c' ctv) :: ν)) :
    EV c m ν (eval (.Lambda params body scope pos) env) P R := by
  intro s Q E F N hQ hE
  refine kla_eval hdef ?_
  have hm := N _ hmem
  have hgs := c.T.g.keeps F.keep
  obtain ⟨bm, ob, b1, b2, b3, b4, b5, b6⟩ := c.T.bmain
  have hbP : bm ≠ T := fun q => by
    have e := F.keep _ _ b3
    rw [q, hm.1] at e; cases e; cases b4
  have hbG : bm ≠ mainGlobals := fun q => by
    obtain ⟨o, es, ep, e, hd, _⟩ := c.T.g
    rw [q, e] at b3; cases b3; rw [hd] at b6; cases b6
  refine kla_makeFunctionHit (mg := c.mg) hcl hgl hgs hcode (C.keeps fun b o e => F.keep b o (c.B.stays b o e)) hm.1 ht hnf ⟨bm, ob, b1, b2, hbG, hbP, F.keep _ _ b3, b4, b5, b6⟩ fun ctv h' tk hk hsz => ?_
  have N' : News c.h₀ c.L h' ν := fun p hp => ⟨hk _ _ (N p hp).1, (N p hp).2⟩
  exact hQ _ _ _ _ tk (h h'.objs.size ctv _ (fun p hp => Heap.lt_size (N' p hp).1)) ((F.keeps hk).push _) (N'.push (F.keeps hk) _ rfl)
/-- a lambda of one int, without locals beside it, is called -/
theorem ev_callLam {f c' : Addr} {args : List Value} {n : Nat} {name qual : Str} {params : Arguments} {body : Expr} {scope : Scope} {cl : List (Str × Addr)} {pm ctv : Value} {oc : Obj} {vs : Array Value} {t : Tok} {binds : List (Str × Value)}
    (ho : (f, kla_obj name qual params body scope cl pm c' ctv) ∈ ν) (hoc : (c', oc) ∈ ν) (hd : oc.data = .fields vs) (hv : vs[1]? = some (.str qual t)) (hr : Room c (n + 1))
    (hbind : bindArgs (kla_fn name qual params body scope cl pm (.ref c') ctv) ⟨args, []⟩ = pure binds) (hloc : ∀ y ∈ binds, scope.names.lookup y.1 = some .local)
    (hck : (scope.isCoroutine, scope.isGenerator, scope.kind) = (false, false, .function)) (hcell : ∀ x ∈ scope.names, x.2 ≠ .cell)
    (h : ∀ c₂ : Cx, Room c₂ n → (c₂.base = c.base ∧ c₂.w = c.w) → EV c₂ (bnd noLoc binds) ν (eval body (envX qual scope c₂.L f (.ref c') cl)) (fun v _ ν' => P v m ν') NoX) :
    EV c m ν (call (.ref f) args) P R := by
  intro s Q E F N hQ hE
  obtain ⟨hco, hk'⟩ := Prod.mk.inj hck
  obtain ⟨hgen, hk⟩ := Prod.mk.inj hk'
  refine wpAny_call (kla_code c.B F c.X N c.T c.hA c.hf c.hk ho (codeRec_news N hoc hd hv) (Nat.lt_of_le_of_lt (Nat.le_add_right _ _) hr.1) hbind hloc (fun g L' h₁ FG F' N' B' X' T' => ?_) hco hgen hk hcell)
  let c₂ : Cx := ⟨c.w, L', c.A.deeper (envX qual scope L' f (.ref c') cl), c.A, c.base, g, c.env :: c.outer, envX qual scope L' f (.ref c') cl, c.p, c.loose, c.mean, c.mg, c.mb, B', X', T', Around.frames_deeper c.hA, rfl, hk, hgen, hco, rfl, rfl, c.hi.keeps FG.keep, c.ht, c.hh, c.hgd⟩
  exact h c₂ (room_deeper hr) ⟨rfl, rfl⟩ _ _ _ (bnd_eq binds ▸ F') N' (fun v m' ν' h' tk' hp F2 N2 => leaveK_ F2 N2 fun a b => hQ _ _ _ h' tk' hp a b) (fun _ _ _ _ _ hx _ _ => hx.elim)
end
end Mine

namespace Mine
section
variable {c : Cx} {m : Loc} {ν : Led} {R : RX} {env : Env} {P : Value → Loc → Led → Prop} {PU : Unit → Loc → Led → Prop} {PM : Value × List Value → Loc → Led → Prop}
def Cx.under (c : Cx) (a : Args) : Cx := { c with A := c.A.under (.builtin "type.__call__" a), hA := c.hA, hh := c.hh, hgd := c.hgd }
theorem Room.under {c : Cx} {n : Nat} {C : Addr} {l : List Value} (h : Room c (n + 1)) : Room (c.under ⟨.ref C :: l, []⟩) n := by
  have h1 := h.1
  have h2 := h.2
  have w : (Code.builtin "type.__call__" ⟨.ref C :: l, []⟩).weight = 1 := by kernel_rfl
  have u : (Code.builtin "type.__call__" ⟨.ref C :: l, []⟩).cUnits = 1 := by kernel_rfl
  refine ⟨?_, ?_⟩
  · show c.A.depth + (Code.builtin "type.__call__" ⟨.ref C :: l, []⟩).weight + n < recursionLimit
    omega
  · show c.A.units + (Code.builtin "type.__call__" ⟨.ref C :: l, []⟩).cUnits + 8 * n < cLine
    omega
/-- an object of a class with an __init__ of the text -/
theorem ev_make {C f : Addr} {args : List Value} {n : Nat} {name qual : Str} {params : Arguments} {body : List Stmt} {scope : Scope} {dV kV doc pm cdv ct oc : Value} {an od : Option Addr} {osl : Array (Option Value)} {binds : Addr → List (Str × Value)}
    (hm : makesIn (fr.heap_1 c.w.params) C = true) (hi : findIn (fr.heap_1 c.w.params) (.ref C) "__init__" = some (some (.ref f))) (hf : isFn (fr.heap_1 c.w.params) (.ref f) = true)
    (ho : (fr.heap_1 c.w.params).lookup f = some ⟨oc, od, .func (fnOf name qual params body scope dV kV doc pm an cdv ct), osl⟩) (hcd : codeIn (fr.heap_1 c.w.params) cdv qual = true) (hr : Room c (n + 2))
    (hbind : ∀ x (s : Shared), c.h₀.StaysIn s.heap → BindsTo s (fnOf name qual params body scope dV kV doc pm an cdv ct) ⟨.ref x :: args, []⟩ (binds x)) (hloc : ∀ x, ∀ y ∈ binds x, scope.names.lookup y.1 = some .local)
    (hck : (scope.isCoroutine, scope.isGenerator, scope.kind) = (false, false, .function)) (hcell : ∀ x ∈ scope.names, x.2 ≠ .cell)
    (h : ∀ x dx (c' : Cx), Above dx ν → @LT.lt Nat _ dx x → Room c' n → (c'.base = c.base ∧ c'.w = c.w) → EV c' (bnd noLoc (binds x)) ((x, instObj C dx) :: (dx, dictOf [] 0) :: ν) (execs body (envOf qual scope c'.L f cdv)) (fun fl _ ν' => retOf fl = .none ∧ P (.ref x) m ν') NoX) :
    EV c m ν (call (.ref C) args) P R := by
  intro s Q E F N hQ hE
  refine call_cls F c.X N hm hi hf (fun x dx h' F' N' l1 l2 => ?_)
  exact cev_call (c := c.under ⟨.ref C :: args, []⟩) (s := { s with heap := h' }) (P := fun v m' ν' => v = .none ∧ P (.ref x) m' ν') (R := NoX) F' N' (fun v ν' h' tk' hp F' N' => ⟨hp.1, hQ _ _ _ _ _ hp.2 F' N'⟩) (fun _ _ _ _ hx => hx.elim) ho hcd (Room.under hr) (hbind x) (hloc x) hck hcell
    (fun c' r' hb => h x dx c' (fun p hp => l1 p hp) l2 r' hb) (fun _ _ _ _ _ _ hx => hx.elim)
theorem ev_setAttr {x dx C : Addr} {es : List DictEntry} {n : Nat} {name : Str} {v : Value} {ν₁ : Led} (hx : (x, instObj C dx) ∈ ν₁) (hν : ∀ p ∈ (dx, dictOf es n) :: ν₁, p ∈ ν) (hne : ∀ p ∈ ν₁, p.1 ≠ dx)
    (hs : findIn (fr.heap_1 c.w.params) (.ref C) "__setattr__" = some (some (.builtin "object.__setattr__"))) (hp : plainOver (fr.heap_1 c.w.params) C = true) (ht : takerIn (fr.heap_1 c.w.params) C name = some none) (hh : hasDictIn (fr.heap_1 c.w.params) C = true) (hl : (getL name es).isSome = true) (hz : es.length ≤ 900)
    (h : ∀ t, PU () m ((dx, dictOf (putL name (PyData.keyHash c.w.params name) (.str name t) v es) (putN name es n)) :: ν₁)) : EV c m ν (setAttr (.ref x) name v) PU R := by
  intro s Q E F N hQ hE
  have N₁ : News c.h₀ c.L s.heap ((dx, dictOf es n) :: ν₁) := fun p hp => N p (hν p hp)
  have len : ∀ (l : List DictEntry) (hs : Int) (k : Value), (putL name hs k v l).length ≤ l.length + 1 := by
    intro l hs k
    induction l with
    | nil => exact Nat.le_refl _
    | cons e l ih =>
      unfold putL
      split
      · exact Nat.le_succ _
      · exact Nat.succ_le_succ ih
  refine set_dict F c.X N₁ ⟨(N₁ _ (.tail _ hx)).1, rfl, rfl, (N₁ _ (.head _)).1⟩ rfl hs hp ht hh hl rfl (Upd.head hne) (Nat.le_trans (len _ _ _) (by omega)) (fun h' F' N' => hQ _ _ _ h' _ (h (s.toks + 1)) F' N')
theorem ev_getAttr {x dx C : Addr} {es : List DictEntry} {n : Nat} {name : Str} {v : Value} {attr : Option Value} (hx : (x, instObj C dx) ∈ ν) (hdx : (dx, dictOf es n) ∈ ν)
    (hg : plainGet (fr.heap_1 c.w.params) C name = true) (hh : hasDictIn (fr.heap_1 c.w.params) C = true) (ha : findIn (fr.heap_1 c.w.params) (.ref C) name = some attr) (hn : noGet (fr.heap_1 c.w.params) attr = true) (hl : getL name es = some (some v)) (hv : handedIn v = true)
    (h : P v m ν) : EV c m ν (getAttr (.ref x) name true) P R :=
  fun s Q E F N hQ hE => get_own F c.X ⟨N.get hx, rfl, rfl, N.get hdx⟩ hg hh ha hn hl hv (hQ _ _ _ s.heap _ h F N)
theorem ev_getMeth {x dx C f : Addr} {es : List DictEntry} {n : Nat} {name : Str} {pl : Sem Bool} (hx : (x, instObj C dx) ∈ ν) (hdx : (dx, dictOf es n) ∈ ν)
    (hg : plainGet (fr.heap_1 c.w.params) C name = true) (hf : findIn (fr.heap_1 c.w.params) (.ref C) name = some (some (.ref f))) (ht : isFn (fr.heap_1 c.w.params) (.ref f) = true) (hl : getL name es = some none)
    (h : PM (.ref f, [.ref x]) m ν) : EV c m ν (getMethod (.ref x) name pl) PM R :=
  fun s Q E F N hQ hE => method_inst F c.X ⟨N.get hx, rfl, rfl, N.get hdx⟩ hg hf ht hl (hQ _ _ _ s.heap s.toks h F N)
end
end Mine

namespace Mine
section
variable {c : Cx} {m : Loc} {ν : Led} {R : RX} {env : Env} {P : Value → Loc → Led → Prop} {PU : Unit → Loc → Led → Prop} {PM : Value × List Value → Loc → Led → Prop} {PF : Flow → Loc → Led → Prop}
/- plain data, read through the ledger -/
theorem via_tup {h₀ : Heap} {b : Addr} {o : Obj} {vs : List Value} {ds : List PyData} (hm : (b, o) ∈ ν) (ho : TupO o vs) (r : ReadsViaAll h₀ ν vs ds) : ReadsVia h₀ ν (.ref b) (.tuple ds) := fun h hk hn => by
  obtain ⟨n, rfl⟩ := ho
  obtain ⟨as, q⟩ := r h hk hn
  exact ⟨as, reads_tuple_at (hn _ hm) rfl rfl (by simpa using q)⟩
theorem via_lst {h₀ : Heap} {b : Addr} {o : Obj} {vs : List Value} {ds : List PyData} (hm : (b, o) ∈ ν) (ho : LstO o vs) (r : ReadsViaAll h₀ ν vs ds) : ReadsVia h₀ ν (.ref b) (.list ds) := fun h hk hn => by
  obtain ⟨n, rfl⟩ := ho
  obtain ⟨as, q⟩ := r h hk hn
  exact ⟨_, reads_list_at (hn _ hm) rfl rfl (by simpa using q)⟩
theorem via_all {α : Type} {S : α → Value → Prop} {h₀ : Heap} {f : α → PyData} (hf : ∀ a v, S a v → ReadsVia h₀ ν v (f a)) : ∀ {as : List α} {vs : List Value}, AllV S as vs → ReadsViaAll h₀ ν vs (as.map f)
  | _, _, .nil => .nil
  | _, _, .cons x r => .cons (hf _ _ x) (via_all hf r)
def At.data : At → PyData
  | .int n => .int n
  | .str x => .str x
  | .bool b => .bool b
def Pay.data : Pay → PyData
  | .one a => a.data
  | .tup l => .tuple (l.map At.data)
def Row.data (r : Row) : PyData := .tuple (.str r.name :: r.parts.map fun p => p.pay.data)
theorem via_at {h₀ : Heap} (a : At) (v : Value) (h : AtV a v) : ReadsVia h₀ ν v a.data := by
  cases a with
  | int n => obtain ⟨t, rfl⟩ := h; exact .int n t
  | str x => obtain ⟨t, rfl⟩ := h; exact .str x t
  | bool b => cases h; exact .bool b
theorem via_pay {h₀ : Heap} (p : Pay) (v : Value) (h : PayV ν p v) : ReadsVia h₀ ν v p.data := by
  cases p with
  | one a => exact via_at a v h
  | tup l =>
    obtain ⟨b, o, vs, rfl, hm, ho, r⟩ := h
    exact via_tup hm ho (via_all via_at r)
theorem via_row {h₀ : Heap} (r : Row) (v : Value) (h : RowV ν r v) : ReadsVia h₀ ν v r.data := by
  obtain ⟨b, o, t, vs, rfl, hm, ho, a⟩ := h
  exact via_tup hm ho (.cons (.str _ _) (via_all (fun p v x => via_pay p.pay v x) a))
theorem ev_eqD {a b : Value} {da db : PyData} (ra : ReadsVia c.h₀ ν a da) (rb : ReadsVia c.h₀ ν b db) (ha : SeqAt.shaped da = true) (hb : SeqAt.shaped db = true) (hr : Room c 8) (h : P (.bool (PyData.eqv da db)) m ν) : EV c m ν (compareOp .Eq a b) P R := by
  intro s Q E F N hQ hE
  obtain ⟨as, r1⟩ := ra.at F N
  obtain ⟨bs, r2⟩ := rb.at F N
  exact eq_dataH r1 r2 ha hb (by have := hr.2; omega) (hQ _ _ _ s.heap s.toks h F N)
theorem ev_neD {a b : Value} {da db : PyData} (ra : ReadsVia c.h₀ ν a da) (rb : ReadsVia c.h₀ ν b db) (ha : SeqAt.shaped da = true) (hb : SeqAt.shaped db = true) (hr : Room c 8) (h : P (.bool (!PyData.eqv da db)) m ν) : EV c m ν (compareOp .NotEq a b) P R := by
  intro s Q E F N hQ hE
  obtain ⟨as, r1⟩ := ra.at F N
  obtain ⟨bs, r2⟩ := rb.at F N
  exact ne_dataH r1 r2 ha hb (by have := hr.2; omega) (hQ _ _ _ s.heap s.toks h F N)
theorem intsAre {l : List Int} {vs : List Value} (h : AllV IntV l vs) : IntsAre vs l := by
  induction h with
  | nil => exact .nil
  | cons x _ ih => obtain ⟨t, rfl⟩ := x; exact .cons _ _ ih
theorem ev_neI {a b : Addr} {oa ob : Obj} {vs ws : List Value} {l l' : List Int} (ha : (a, oa) ∈ ν) (hoa : LstO oa vs) (ia : AllV IntV l vs) (hb : (b, ob) ∈ ν) (hob : LstO ob ws) (ib : AllV IntV l' ws) (hr : Room c 8) (h : P (.bool (!decide (l = l'))) m ν) : EV c m ν (compareOp .NotEq (.ref a) (.ref b)) P R :=
  fun s Q E F N hQ hE => ke_ne_ints (hoa.at (N.get ha)) (hob.at (N.get hb)) (intsAre ia) (intsAre ib) (by have := hr.2; omega) (hQ _ _ _ s.heap s.toks h F N)
/-- a tuple and the empty tuple -/
theorem ev_eqT0 {a b : Addr} {oa ob : Obj} {vs : List Value} (ha : (a, oa) ∈ ν) (hoa : TupO oa vs) (hb : (b, ob) ∈ ν) (hob : TupO ob []) (hr : Room c 8) (h : P (.bool (vs.length == 0)) m ν) : EV c m ν (compareOp .Eq (.ref a) (.ref b)) P R :=
  fun s Q E F N hQ hE => SeqAt.eq_tupleAt (e := fun _ => true) (hoa.at (N.get ha)) (hob.at (N.get hb)) (by have := hr.2; omega) (fun j h1 h2 => absurd h2 (Nat.not_lt_zero _)) (by simpa using hQ _ _ _ s.heap s.toks h F N)
theorem ev_ExprAny {e : Expr} {pos : Pos} (h : EV c m ν (eval e env) (fun _ => PF .next) R) (hi : interactive env = false) (hs : swapsWith e none pos.line env = pure false) : EV c m ν (exec (.Expr e pos) env) PF R :=
  fun s Q E F N hQ hE => wpAny_Expr_any (h s _ E F N (fun v m₁ ν₁ h₁ k₁ x F₁ N₁ => hQ _ _ _ _ _ x F₁ N₁) hE) hi hs

/-- a statement that changes nothing the walk knows of -/
abbrev kSame (m : Loc) (ν : Led) : Flow → Loc → Led → Prop := fun f m' ν' => f = .next ∧ m' = m ∧ ν' = ν
theorem ev_consSame {st : Stmt} {rest : List Stmt} (h : EV c m ν (exec st env) (kSame m ν) R) (h' : EV c m ν (execs rest env) PF R) : EV c m ν (execs (st :: rest) env) PF R :=
  ev_cons (ev_imp h fun f m₁ ν₁ g => by obtain ⟨rfl, rfl, rfl⟩ := g; exact then_next h')
/-- both ways of a conditional expression end alike -/
theorem kIf_join {a b : Expr} {x : Bool} (Mid : Value → Loc → Led → Prop) (h : kIf c env a b Mid R x m ν) (h' : ∀ v m' ν', Mid v m' ν' → P v m' ν') : kIf c env a b P R x m ν := by
  cases x with
  | true => exact ite_T (ev_imp (show EV c m ν (eval a env) Mid R from (if_pos rfl : (if true = true then EV c m ν (eval a env) Mid R else EV c m ν (eval b env) Mid R) = _) ▸ h) h')
  | false => exact ite_F (ev_imp (show EV c m ν (eval b env) Mid R from (if_neg Bool.false_ne_true : (if false = true then EV c m ν (eval a env) Mid R else EV c m ν (eval b env) Mid R) = _) ▸ h) h')
theorem ev_BoolAnd3 {a b d : Expr} {pos : Pos} (h : EV c m ν (eval a env) (fun v m₁ ν₁ => EV c m₁ ν₁ (truthy v) (fun t m₂ ν₂ => if t = true then EV c m₂ ν₂ (eval b env) (fun v' m₃ ν₃ => EV c m₃ ν₃ (truthy v') (fun t' m₄ ν₄ => if t' = true then EV c m₄ ν₄ (eval d env) P R else P v' m₄ ν₄) R) R else P v m₂ ν₂) R) R) : EV c m ν (eval (.BoolOp .And [a, b, d] pos) env) P R :=
  fun s Q E F N hQ hE => BoolOp_and (h s _ E F N (fun v m₁ ν₁ h₁ k₁ x F₁ N₁ => x _ _ E F₁ N₁ (fun t m₂ ν₂ h₂ k₂ y F₂ N₂ => by
    cases t
    · exact hQ _ _ _ _ _ y F₂ N₂
    · exact BoolOp_and (y _ _ E F₂ N₂ (fun v' m₃ ν₃ h₃ k₃ z F₃ N₃ => z _ _ E F₃ N₃ (fun t' m₄ ν₄ h₄ k₄ u F₄ N₄ => by
        cases t'
        · exact hQ _ _ _ _ _ u F₄ N₄
        · exact BoolOp_one (u _ Q E F₄ N₄ hQ hE)) hE) hE)) hE) hE)
/-- a waiting row and its depth -/
def PairV (ν : Led) (p : Int × Int) (v : Value) : Prop := ∃ b o t u, v = .ref b ∧ (b, o) ∈ ν ∧ TupO o [.int p.1 t, .int p.2 u]
theorem PairV.mono {ν ν' : Led} (h : KeepT ν ν') {p : Int × Int} {v : Value} (x : PairV ν p v) : PairV ν' p v := by
  obtain ⟨b, o, t, u, e, hm, ho⟩ := x
  exact ⟨b, o, t, u, e, h _ hm ⟨_, ho⟩, ho⟩
theorem pairs_lay (l : List (Int × Int)) : PyData.canLayAll0 (l.map fun p => PyData.tuple [.int p.1, .int p.2]) = true ∧ PyData.depthAll (l.map fun p => PyData.tuple [.int p.1, .int p.2]) ≤ 1 := by
  induction l with
  | nil => exact ⟨rfl, Nat.zero_le _⟩
  | cons p l ih => exact ⟨by simp [PyData.canLayAll0, PyData.canLay0, ih.1], by simp [PyData.depthAll, PyData.depth, ih.2]⟩
theorem ev_neW {a b : Addr} {oa ob : Obj} {vs : List Value} {l : List (Int × Int)} (ha : (a, oa) ∈ ν) (hoa : LstO oa vs) (ia : AllV (PairV ν) l vs) (hb : (b, ob) ∈ ν) (hob : LstO ob []) (hr : Room c 8) (h : P (.bool (!l.isEmpty)) m ν) : EV c m ν (compareOp .NotEq (.ref a) (.ref b)) P R := by
  have lay := pairs_lay l
  refine ev_neD (da := .list (l.map fun p => PyData.tuple [.int p.1, .int p.2])) (db := .list []) (via_lst ha hoa (via_all (fun p v x => ?_) ia)) (via_lst hb hob .nil) ?_ rfl hr ?_
  · obtain ⟨b, o, t, u, rfl, hm, ho⟩ := x
    exact via_tup hm ho (.cons (.int _ _) (.cons (.int _ _) .nil))
  · unfold SeqAt.shaped
    simp only [PyData.canLay0, PyData.depth, lay.1, Bool.true_and]
    exact decide_eq_true (by have := lay.2; omega)
  · cases l with
    | nil => exact h
    | cons p l => exact h
/- texts -/
theorem ev_strD {v : Value} {d : PyData} (r : ReadsVia c.h₀ ν v d) (hs : d.showable = true) (hnd : d.hasDict = false) (hd : isDisplay d = true) (hr : Room c 10) (hdep : d.depth ≤ 60) (hsz : d.shown.length ≤ 2 ^ 20) (h : ∀ t, P (.str d.shown t) m ν) : EV c m ν (call (.type "str") [v]) P R :=
  fun s Q E F N hQ hE => str_via r F N hs hnd hd c.hgd (by have := hr.2; omega) (fun h' u tk F' N' => hQ _ _ _ h' tk (h u) F' N') (Nat.le_trans hsz (by decide))
theorem ev_join {x : Str} {t : Tok} {l : Addr} {o : Obj} {vs : List Value} {ys : List Str} (hm : (l, o) ∈ ν) (ho : LstO o vs) (hi : StrsAre vs ys) (hok : (ys.map (·.length)).sum + ys.length * x.length ≤ 16777216) (h : ∀ t', P (.str (Txt.join x ys) t') m ν) : EV c m ν (call (.builtin "str.join") [.str x t, .ref l]) P R :=
  fun s Q E F N hQ hE => join_list (ho.at (N.get hm)) (by simpa using hi) hok (fun t' k => hQ _ _ _ s.heap _ (h t') F N)
theorem ev_getJoin {x : Str} {t : Tok} {pl : Sem Bool} (h : PM (.builtin "str.join", [.str x t]) m ν) : EV c m ν (getMethod (.str x t) "join" pl) PM R := fun s Q E F N hQ hE => PySem.GM.join (hQ _ _ _ s.heap s.toks h F N)
theorem ev_getSplit {x : Str} {t : Tok} {pl : Sem Bool} (h : PM (.builtin "str.split", [.str x t]) m ν) : EV c m ν (getMethod (.str x t) "split" pl) PM R := fun s Q E F N hQ hE => PySem.GM.split (hQ _ _ _ s.heap s.toks h F N)
theorem ev_getStarts {x : Str} {t : Tok} {pl : Sem Bool} (h : PM (.builtin "str.startswith", [.str x t]) m ν) : EV c m ν (getMethod (.str x t) "startswith" pl) PM R := fun s Q E F N hQ hE => PySem.GM.startswith (hQ _ _ _ s.heap s.toks h F N)
theorem ev_starts {x y : Str} {t u : Tok} (h : P (.bool (Txt.startswith x y)) m ν) : EV c m ν (call (.builtin "str.startswith") [.str x t, .str y u]) P R := fun s Q E F N hQ hE => PySem.SC.startswith (hQ _ _ _ s.heap s.toks h F N)
theorem ev_split {x y : Str} {t u : Tok} (hy : (y.length == 0) = false) (hsz : x.length ≤ 2 ^ 23) (h : ∀ D o l, Above D ν → l.map (·.1) = Txt.split x y → LstO o (strValues l) → StrsAre (strValues l) (l.map (·.1)) → P (.ref D) m ((D, o) :: ν)) : EV c m ν (call (.builtin "str.split") [.str x t, .str y u]) P R :=
  fun s Q E F N hQ hE => KSpl.split1 F N hy (fun D l h' k e hi F' N' ab => hQ _ _ _ h' k (h D _ l ab e ⟨_, rfl⟩ hi) F' N') (Nat.le_trans (Nat.add_le_add_right hsz 2) (by decide))
/- dicts of int keys -/
def DicO (c : Cx) (o : Obj) (kvs : List (Int × Value)) : Prop := o.IsDictOf (intKind Pg c.w) kvs
theorem ev_newDict {pos : Pos} (h : ∀ d o, Above d ν → (d == sysModules) = false → DicO c o [] → P (.ref d) m ((d, o) :: ν)) : EV c m ν (eval (.Dict [] [] pos) env) P R :=
  fun s Q E F N hQ hE => newDict_K F N c.T.nolimit (fun d h' o F' N' ab lo _ _ hi _ => hQ _ _ _ h' s.toks (h d o ab lo hi) F' N')
theorem DicO.at {h : Heap} {a : Addr} {o : Obj} {kvs : List (Int × Value)} (x : DicO c o kvs) (e : h.get? a = some o) : h.DictOf (intKind Pg c.w) a kvs := Heap.dictOf_iff.mpr ⟨o, e, x⟩
theorem ev_inD {d : Addr} {o : Obj} {kvs : List (Int × Value)} {k : Int} {t : Tok} (hm : (d, o) ∈ ν) (ho : DicO c o kvs) (lo : (d == sysModules) = false) (h : P (.bool (valueAt kvs k).isSome) m ν) : EV c m ν (compareOp .In (.int k t) (.ref d)) P R :=
  fun s Q E F N hQ hE => wpAny_in_of (knd := intKind Pg c.w) (k := k) (intKind_is _ _ _ _) lo (ho.at (N.get hm)).mapOf (hQ _ _ _ s.heap _ h F N)
theorem ev_itemD {value slice : Expr} {d : Addr} {o : Obj} {kvs : List (Int × Value)} {k : Int} {u : Tok} {v : Value} (hm : (d, o) ∈ ν) (ho : DicO c o kvs) (hv : valueAt kvs k = some v) (h : P v m ν)
    (hs : subscripted slice false (.ref d) (.int k u) = operate [.ref d, .int k u] (getItem (.ref d) (.int k u))) : EV c m ν (subscriptTail value slice (.ref d) (.int k u)) P R :=
  fun s Q E F N hQ hE => tail_any (ho.at (N.get hm)).mapOf.typeIs slot_dict_getitem.lookup (wpAny_getItem_of (knd := intKind Pg c.w) (intKind_is _ _ _ _) (ho.at (N.get hm)).mapOf hv (hQ _ _ _ s.heap _ h F N)) hs
theorem ev_setD {d : Addr} {o : Obj} {kvs : List (Int × Value)} {k : Int} {u : Tok} {v : Value} {ν₁ : Led} (ho : DicO c o kvs) (hν : ∀ p ∈ (d, o) :: ν₁, p ∈ ν) (hne : ∀ p ∈ ν₁, p.1 ≠ d) (hsz : kvs.length ≤ 1000) (h : ∀ o', DicO c o' (stored kvs k v) → PU () m ((d, o') :: ν₁)) : EV c m ν (setItem (.ref d) (.int k u) v) PU R :=
  ev_mut (fun o' => DicO c o' (stored kvs k v)) hν hne (fun s Q E e hQ => wpAny_setItem_pairs (knd := intKind Pg c.w) (intKind_is _ _ _ _) (ho.at e) (fun h' hd hs => by
    obtain ⟨o', e', x⟩ := Heap.dictOf_iff.mp hd
    exact hQ h' _ o' e' x hs) (Nat.le_trans hsz (by decide))) h
theorem ev_getDm {d : Addr} {o : Obj} {kvs : List (Int × Value)} {pl : Sem Bool} (hm : (d, o) ∈ ν) (ho : DicO c o kvs) (h : PM (.builtin "dict.get", [.ref d]) m ν) : EV c m ν (getMethod (.ref d) "get" pl) PM R :=
  fun s Q E F N hQ hE => kdg_method N hm ho (hQ _ _ _ s.heap s.toks h F N)
theorem ev_get1I {d : Addr} {o : Obj} {kvs : List (Int × Value)} {k : Int} {t : Tok} (hm : (d, o) ∈ ν) (ho : DicO c o kvs) (lo : (d == sysModules) = false) (h : P ((valueAt kvs k).getD .none) m ν) : EV c m ν (call (.builtin "dict.get") [.ref d, .int k t]) P R :=
  fun s Q E F N hQ hE => kdg_get1 N hm ho lo (intKind_is _ _ k t) _ rfl (hQ _ _ _ s.heap _ h F N)
end
end Mine

namespace Mine
section
variable {α β : Type} {c : Cx} {m : Loc} {ν : Led} {R : Value → Loc → Led → Prop} {env : Env}
variable {P : Value → Loc → Led → Prop} {PB : Bool → Loc → Led → Prop} {PF : Flow → Loc → Led → Prop} {PU : Unit → Loc → Led → Prop} {PO : Option Value → Loc → Led → Prop}
theorem comp_core {elt target iter : Expr} {ifs : List Expr} {scope : Scope} {cl : List (Str × Addr)} {pos : Pos} {Rb : RX} {use : Option (Value → Sem Unit)} {Q E : Value → Shared → Prop} {s : Shared} (F : Fr c.h₀ c.L s.heap m) (N : News c.h₀ c.L s.heap ν)
    (hok : ∀ D C oC mC ν₆ m₄ h₄ k₄, P (.ref D) m₄ ν₆ → NsObj oC mC → Fr c.h₀ c.L h₄ m₄ → News c.h₀ c.L h₄ ((C, oC) :: ν₆) → (∀ p ∈ ν₆, p.1 ≠ C) → compPost (model Pg c.w) c.A E use Q (.ref D) C (.ok .next) { s with heap := h₄, toks := k₄ })
    (hE : ∀ v m ν h' tk', R v m ν → Fr c.h₀ c.L h' m → News c.h₀ c.L h' ν → E v { s with heap := h', toks := tk' })
    (h : EV c m ν (eval iter env) (fun x m₁ ν₁ => EV c m₁ ν₁ (pyIter x) (CompIt c env scope cl target ifs elt P Rb) R) R)
    (hX : OutOfComp c env scope cl Rb R)
    (hclos : closureFor scope env = pure cl) (hcell : ∀ y ∈ scope.names, y.2 ≠ .cell) (hkind : scope.kind = .function)
    (hnames : ∀ x ∈ scope.names, x.2 = .local → scope.names.lookup x.1 = some .local) (hs : ∀ x, foldedSetIterable iter env x = pure x) :
    wpAny (model Pg c.w) c.A (comprehension (.ListComp elt [⟨target, iter, ifs, 0⟩] scope pos) scope env iter.pos (newList []) false (eval iter env) use) Q E s := by
  refine wpAny_comprehension_free (use := use) (g := ⟨target, iter, ifs, 0⟩) (gs := []) rfl hs hclos hkind hnames ?_
  refine h s _ E F N (fun x m₁ ν₁ h₁ k₁ a F₁ N₁ => a _ _ E F₁ N₁ (fun it m₂ ν₂ h₂ k₂ b F₂ N₂ => ?_) hE) hE
  refine wpAny_newObj_type (wpAny_newFunctionEnv hcell (by intro y hy; simp at hy) (fun h₃ hns hsb => ?_) hkind)
  dsimp only at hns hsb ⊢
  generalize hH : h₂.push { cls := .type "list", dict := none, data := .seq ([] : List Value).toArray } = H at hns hsb ⊢
  have hD : H.objs.size = h₂.objs.size + 1 := by rw [← hH, Heap.size_push]
  obtain ⟨oC, heC, hoC⟩ := ns_obj hns
  have hDC : h₂.objs.size < H.objs.size := by rw [hD]; exact Nat.lt_succ_self _
  have old : ∀ b o, H.get? b = some o → h₃.get? b = some o := fun b o e => hsb.extBut b o (Nat.ne_of_lt (Heap.lt_size e)) (Heap.get?_push_of_some _ e)
  have FH : Fr c.h₀ c.L H m₂ := hH ▸ F₂.push _
  have NH : News c.h₀ c.L H ((h₂.objs.size, lstO []) :: ν₂) := hH ▸ N₂.push F₂ _ rfl
  have F₃ : Fr c.h₀ c.L h₃ m₂ := FH.keeps old
  have N₃ : News c.h₀ c.L h₃ ((H.objs.size, oC) :: (h₂.objs.size, lstO []) :: ν₂) := by
    intro p hp
    rcases List.mem_cons.mp hp with rfl | hp
    · refine ⟨heC, Nat.ne_of_gt FH.ns.lt, ?_⟩
      cases hq : c.h₀.get? H.objs.size with
      | none => rfl
      | some o' => exact absurd (Heap.lt_size (FH.keep _ _ hq)) (Nat.lt_irrefl _)
    · exact ⟨old _ _ (NH p hp).1, (NH p hp).2⟩
  obtain ⟨self, J, n, j0, turn⟩ := b h₂.objs.size H.objs.size oC (fun p hp => Heap.lt_size (N₂ p hp).1) hDC hoC
  have post : ∀ e m₄ ν₄ h₄ k₄, Rb e m₄ ν₄ → Fr c.h₀ c.L h₄ m₄ → News c.h₀ c.L h₄ ν₄ →
      notedBy (model Pg c.w) c.A (compEnvC scope cl H.objs.size env) (fun e s' => compPost (model Pg c.w) c.A E use Q (.ref h₂.objs.size) H.objs.size (.error e) s') e { s with heap := h₄, toks := k₄ } := by
    intro e m₄ ν₄ h₄ k₄ x F₄ N₄
    refine hX H.objs.size e m₄ ν₄ x _ _ _ F₄ N₄ (fun _ m₅ ν₅ h₅ k₅ y F₅ N₅ => ?_) (fun _ _ _ _ _ z => z.elim)
    obtain ⟨oC', mC, ν₆, g1, g2, g3, g4⟩ := y
    have M := N₅ _ (g2 _ (.head _))
    have w : ∃ m, Heap.Ns { s with heap := h₅, toks := k₅ }.heap H.objs.size m ∧ ∀ h', Heap.SameBut H.objs.size { s with heap := h₅, toks := k₅ }.heap h' → ∀ cenv : Env, cenv.locals = H.objs.size → wpAny (model Pg c.w) c.A (passOn "comprehension.variables-let-go" e cenv : Sem Value) (fun _ _ => False) E { s with heap := h', toks := k₅ } := by
     refine ⟨mC, g1.ns M.1, fun h' hs' cenv hc => ?_⟩
     obtain ⟨F', N'⟩ := news_ext F₅ (fun p hp => N₅ p (g2 _ (.tail _ hp))) M.2.1 M.2.2 g3 hs'.extBut
     exact g4 cenv hc { s with heap := h', toks := k₅ } _ _ F' N' (fun _ _ _ _ _ z => z.elim) (fun e' m' ν' h'' tk' z F'' N'' => hE _ _ _ _ _ z F'' N'')
    cases use <;> exact w
  have loop : ∀ s₃ : Shared, (∃ h' tk, s₃ = { s with heap := h', toks := tk } ∧ Fr c.h₀ c.L h' m₂ ∧ News c.h₀ c.L h' ((H.objs.size, oC) :: (h₂.objs.size, lstO []) :: ν₂)) →
      codeAny (model Pg c.w) c.A (.compLoop (.ListComp elt [⟨target, iter, ifs, 0⟩] scope pos) 0 it (.ref h₂.objs.size) (compEnvC scope cl H.objs.size env)) (compPost (model Pg c.w) c.A E use Q (.ref h₂.objs.size) H.objs.size) s₃ := by
    rintro s₃ ⟨h', tk, rfl, F', N'⟩
    refine codeAny_loop rfl (fun k s' => ∃ h' tk m' ν', s' = { s with heap := h', toks := tk } ∧ J k m' ν' ∧ Fr c.h₀ c.L h' m' ∧ News c.h₀ c.L h' ν') (fun k s' hI => ?_) n ⟨h', tk, m₂, _, rfl, j0, F', N'⟩
    obtain ⟨h', tk, m', ν', rfl, hj, F', N'⟩ := hI
    show wpAny _ c.A ((compTurn (.ListComp elt [⟨target, iter, ifs, 0⟩] scope pos) 0 it (.ref h₂.objs.size) (compEnvC scope cl H.objs.size env)).onRaise (fun x => do noteFrame x (compEnvC scope cl H.objs.size env); theTreesLotGoes x)) _ _ _
    refine wpAny_noted ?_
    rw [compTurn_list]
    refine wpAny_bind (wpAny_standAt (wpAny_bind (turn k m' ν' hj _ _ _ F' N' (fun r m₄ ν₄ h₄ k₄ g F₄ N₄ => ?_) (fun e m₄ ν₄ h₄ k₄ x F₄ N₄ => post e m₄ ν₄ h₄ k₄ x F₄ N₄))))
    cases r with
    | none =>
      refine wpAny_pure ?_
      obtain ⟨oC', mC, ν₆, g1, g2, g3, g4⟩ := g
      exact hok _ _ _ _ _ _ _ _ g4 g1 F₄ (fun p hp => N₄ p (g2 p hp)) g3
    | some v =>
      refine wpAny_bind (g _ _ _ F₄ N₄ (fun _ m₅ ν₅ h₅ k₅ g₅ F₅ N₅ => ?_) (fun e m₄ ν₄ h₄ k₄ x F₄ N₄ => post e m₄ ν₄ h₄ k₄ x F₄ N₄))
      refine wpAny_bind (g₅ _ _ _ F₅ N₅ (fun _ m₆ ν₆ h₆ k₆ g₆ F₆ N₆ => ?_) (fun e m₄ ν₄ h₄ k₄ x F₄ N₄ => post e m₄ ν₄ h₄ k₄ x F₄ N₄))
      refine wpAny_bind (g₆ _ _ _ F₆ N₆ (fun ok m₇ ν₇ h₇ k₇ g₇ F₇ N₇ => ?_) (fun e m₄ ν₄ h₄ k₄ x F₄ N₄ => post e m₄ ν₄ h₄ k₄ x F₄ N₄))
      cases ok with
      | false =>
        refine wpAny_pure ?_
        obtain ⟨k', hk, j'⟩ := g₇
        exact ⟨rfl, k', hk, h₇, k₇, m₇, ν₇, rfl, j', F₇, N₇⟩
      | true =>
        refine wpAny_bind (wpAny_bind (g₇ _ _ _ F₇ N₇ (fun y m₈ ν₈ h₈ k₈ g₈ F₈ N₈ => wpAny_bind (g₈ _ _ _ F₈ N₈ (fun _ m₉ ν₉ h₉ k₉ g₉ F₉ N₉ => wpAny_pure (wpAny_pure ?_)) (fun e m₄ ν₄ h₄ k₄ x F₄ N₄ => post e m₄ ν₄ h₄ k₄ x F₄ N₄))) (fun e m₄ ν₄ h₄ k₄ x F₄ N₄ => post e m₄ ν₄ h₄ k₄ x F₄ N₄)))
        obtain ⟨k', hk, j'⟩ := g₉
        exact ⟨rfl, k', hk, h₉, k₉, m₉, ν₉, rfl, j', F₉, N₉⟩
  refine codeAny_compStart_list (loop _ ⟨h₃, _, rfl, F₃, N₃⟩) (self _ _ _ F₃ N₃ (fun it' m₄ ν₄ h₄ k₄ g F₄ N₄ => ?_) (fun _ _ _ _ _ z => z.elim))
  obtain ⟨rfl, rfl, rfl⟩ := g
  exact loop _ ⟨h₄, k₄, rfl, F₄, N₄⟩

/-- a local name is bound to a comprehension: the store is made while the comprehension's names still stand -/
theorem ev_AssignComp {elt target iter : Expr} {ifs : List Expr} {scope : Scope} {cl : List (Str × Addr)} {pos spos py : Pos} {y : Str} {Rb : RX}
    (h : EV c m ν (eval iter env) (fun x m₁ ν₁ => EV c m₁ ν₁ (pyIter x) (CompIt c env scope cl target ifs elt (fun v m ν => PF .next (upd m y v) ν) Rb) R) R)
    (hX : OutOfComp c env scope cl Rb R)
    (hsw : swapsWith (.ListComp elt [⟨target, iter, ifs, 0⟩] scope pos) (some (.Name y py)) spos.line env = pure true)
    (hclos : closureFor scope env = pure cl) (hcell : ∀ y ∈ scope.names, y.2 ≠ .cell) (hkind : scope.kind = .function)
    (hnames : ∀ x ∈ scope.names, x.2 = .local → scope.names.lookup x.1 = some .local) (hs : ∀ x, foldedSetIterable iter env x = pure x)
    (hL : env.locals = c.L) (hk : env.scope.kind = .function) (hx : env.kindOf y = some .local) :
    EV c m ν (exec (.Assign [.Name y py] (.ListComp elt [⟨target, iter, ifs, 0⟩] scope pos) spos) env) PF R := by
  intro s Q E F N hQ hE
  rw [exec_Assign_Name_used _ _ _ _ hsw]
  refine wpAny_bind (wpAny_standAt (wpAny_bind ?_))
  show wpAny _ c.A (do let _ ← comprehension (.ListComp elt [⟨target, iter, ifs, 0⟩] scope pos) scope env iter.pos (newList []) false (eval iter env) (some (assign (.Name y py) env))) _ _ s
  refine wpAny_bind (wpAny_mono (comp_core (use := some (assign (.Name y py) env)) (Q := fun _ s' => Q .next s') F N (fun D C oC mC ν₆ m₄ h₄ k₄ p ns F₄ N₄ ne => ?_) hE h hX hclos hcell hkind hnames hs) (fun _ s' hq => wpAny_pure (wpAny_pure hq)) fun _ _ e => e)
  refine wpAny_assign_Name (wpAny_storeName_local hx (hL ▸ F₄.ns) (fun h₅ hn hs₅ => ?_) (by rw [hk]; rfl))
  have F₅ : Fr c.h₀ c.L h₅ (upd m₄ y (.ref D)) := F₄.set (hL ▸ hn) (hL ▸ hs₅)
  have N₅ : News c.h₀ c.L h₅ ((C, oC) :: ν₆) := N₄.set (hL ▸ hs₅)
  have M := N₅ (C, oC) (.head _)
  refine ⟨mC, ns.ns M.1, fun h' hs' => ?_⟩
  obtain ⟨F', N'⟩ := news_ext F₅ (fun p hp => N₅ p (.tail _ hp)) M.2.1 M.2.2 ne hs'.extBut
  exact hQ _ _ _ _ _ p F' N'
end
end Mine

namespace Mine
section
variable {c : Cx} {m : Loc} {ν : Led} {R : RX} {env : Env} {P : Value → Loc → Led → Prop} {PM : Value × List Value → Loc → Led → Prop}
theorem ev_neNone (h : P (.bool false) m ν) : EV c m ν (compareOp .NotEq .none .none) P R := fun s Q E F N hQ hE => PySem.EqNone.ne_none_none (hQ _ _ _ s.heap s.toks h F N)
theorem ev_chr {i : Int} {t : Tok} (h0 : 0 ≤ i) (h1 : i ≤ 1114111) (h : ∀ k, P (.str ⟨#[i.toNat]⟩ k) m ν) : EV c m ν (call (.builtin "chr") [.int i t]) P R := fun s Q E F N hQ hE => PyProof.Rows.chr_of_range h0 h1 (hQ _ _ _ s.heap _ (h _) F N)
theorem ev_assignT3 {PU : Unit → Loc → Led → Prop} {a b d : Str} {pa pb pd pos : Pos} {k : Nat} {T : Addr} {o : Obj} {x y z : Value} (hm : (T, o) ∈ ν) (ho : TupO o [x, y, z]) (h : EV c m ν (storeName env a x) (kSt c env b y (kSt c env d z PU R) R) R) : EV c m ν (assign (.Tuple [.Name a pa, .Name b pb, .Name d pd] k pos) env (.ref T)) PU R :=
  ev_assignT (vs := [x, y, z]) (ev_unpackT hm ho rfl (ev_order (ev_assignName (ev_imp h fun _ _ _ g => ev_order (ev_assignName (ev_imp g fun _ _ _ g' => ev_order (ev_assignName (ev_imp g' fun _ _ _ g'' => ev_order0 g'')))))))) rfl rfl
end
theorem ghost_noSeer {tabs : List (Addr × Addr)} {h₁ : Heap} (hT : TabsAt tabs h₁) (x : h₁.NoSeer) : (ghostOf h₁ tabs).NoSeer where
  statics := let ⟨mc, a, b⟩ := x.statics; ⟨mc, ghost_ns hT a, b⟩
  mods := let ⟨mc, a, b⟩ := x.mods; ⟨mc, ghost_ns hT a, b⟩
  imp := let ⟨mc, a, b⟩ := x.imp; ⟨mc, ghost_ns hT a, b⟩
  main := let ⟨mg, bm, ob, a, b, c, d, e⟩ := x.main; ⟨mg, bm, ob, ghost_ns hT a, b, ghost_get hT c (fun q => by rw [q] at d; cases d), d, e⟩
theorem ints_of {vs : List Value} {l : List Int} (h : IntsAre vs l) : AllV IntV l vs := by
  induction h with
  | nil => exact .nil
  | cons n t _ ih => exact .cons ⟨t, rfl⟩ ih
/- lines of a text -/
theorem cut_eq {c : Nat} : ∀ {a b s t : List Nat}, c ∉ a → c ∉ b → a ++ c :: s = b ++ c :: t → a = b ∧ s = t
  | [], [], _, _, _, _, e => ⟨rfl, (List.cons.inj e).2⟩
  | [], y :: b, _, _, _, hb, e => absurd (List.cons.inj e).1 (fun q => hb (q ▸ .head _))
  | x :: a, [], _, _, ha, _, e => absurd (List.cons.inj e).1 (fun q => ha (q ▸ .head _))
  | x :: a, y :: b, s, t, ha, hb, e => by
    obtain ⟨e1, e2⟩ := List.cons.inj e
    obtain ⟨h1, h2⟩ := cut_eq (fun q => ha (.tail _ q)) (fun q => hb (.tail _ q)) e2
    exact ⟨by rw [e1, h1], h2⟩
theorem join_cps {c : Nat} {x y : Str} {r : List Str} : (Str.join ⟨#[c]⟩ (x :: y :: r)).cps.toList = x.cps.toList ++ c :: (Str.join ⟨#[c]⟩ (y :: r)).cps.toList := by
  show ((x ++ (⟨#[c]⟩ : Str)) ++ Str.join ⟨#[c]⟩ (y :: r)).cps.toList = _
  show ((x.cps ++ #[c]) ++ (Str.join ⟨#[c]⟩ (y :: r)).cps).toList = _
  simp
theorem cps_inj {x y : Str} (h : x.cps.toList = y.cps.toList) : x = y := by
  cases x; cases y
  simp only [Str.mk.injEq]
  exact Array.toList_inj.mp h
theorem join_inj {c : Nat} : ∀ (xs ys : List Str), xs ≠ [] → ys ≠ [] → (∀ x ∈ xs, c ∉ x.cps.toList) → (∀ y ∈ ys, c ∉ y.cps.toList) → Str.join ⟨#[c]⟩ xs = Str.join ⟨#[c]⟩ ys → xs = ys
  | [], _, h, _, _, _, _ => absurd rfl h
  | _, [], _, h, _, _, _ => absurd rfl h
  | [x], [y], _, _, _, _, e => by rw [show x = y from e]
  | [x], y :: z :: r, _, _, hx, _, e => by
    have e1 : x.cps.toList = _ := (congrArg (fun q : Str => q.cps.toList) e).trans join_cps
    exact absurd (hx x (.head _)) (fun q => q (by rw [e1]; simp))
  | x :: z :: r, [y], _, _, _, hy, e => by
    have e1 : y.cps.toList = _ := (congrArg (fun q : Str => q.cps.toList) e.symm).trans join_cps
    exact absurd (hy y (.head _)) (fun q => q (by rw [e1]; simp))
  | x :: x' :: r, y :: y' :: q, _, _, hx, hy, e => by
    have e1 := join_cps.symm.trans ((congrArg (fun q : Str => q.cps.toList) e).trans join_cps)
    obtain ⟨h1, h2⟩ := cut_eq (hx x (.head _)) (hy y (.head _)) e1
    rw [cps_inj h1, join_inj (x' :: r) (y' :: q) (by simp) (by simp) (fun w hw => hx w (.tail _ hw)) (fun w hw => hy w (.tail _ hw)) (cps_inj h2)]
theorem split_ne {x y : Str} : Txt.split x y ≠ [] := by
  unfold Txt.split
  split
  · simp
  · split
    · simp
    · obtain ⟨p, q, e⟩ := PySem.StrLaws.partsFrom_ne x y.length 0 (Builtin.Str.occurrences x y 0 x.length (x.length + 1))
      rw [PySem.StrLaws.partsBetween_eq, e]
      simp
theorem split_join {c : Nat} {xs : List Str} (h : xs ≠ []) (hx : ∀ x ∈ xs, c ∉ x.cps.toList) : Txt.split (Str.join ⟨#[c]⟩ xs) ⟨#[c]⟩ = xs :=
  join_inj _ _ split_ne h (fun p hp => PySem.StrLaws.split_free _ c p hp) hx (PySem.StrLaws.join_split _ _)
end Mine

namespace Mine
section
variable {c : Cx} {m : Loc} {ν : Led} {R : RX} {env : Env} {P : Value → Loc → Led → Prop}
def kShift (cc : Addr) (oc : Obj) (d : Int) (P : Value → Loc → Led → Prop) : Value → Loc → Led → Prop := fun v m ν =>
  ∃ l o vs L, v = .ref l ∧ (l, o) ∈ ν ∧ LstO o vs ∧ AllV IntV L vs ∧ vs.length ≤ 10000 ∧ (cc, oc) ∈ ν ∧ ∀ D oD ws, Above D ν → LstO oD ws → AllV IntV (L.map (· + d)) ws → P (.ref D) m ((D, oD) :: ν)
/-- [x + y for x in ints], y a cell -/
theorem ev_shift {x y : Str} {p1 p2 p3 p4 pos : Pos} {iter : Expr} {scope : Scope} {cl : List (Str × Addr)} {cc : Addr} {oc : Obj} {d : Int} {tk : Tok} (hoc : oc.data = .cell (some (.int d tk)))
    (h : EV c m ν (eval iter env) (kShift cc oc d P) R)
    (hclos : closureFor scope env = pure cl) (hcell : ∀ y ∈ scope.names, y.2 ≠ .cell) (hkind : scope.kind = .function) (hnames : ∀ x ∈ scope.names, x.2 = .local → scope.names.lookup x.1 = some .local) (hs : ∀ x, foldedSetIterable iter env x = pure x)
    (hx : ∀ C, (compEnvC scope cl C env).kindOf x = some .local) (hy : ∀ C, (compEnvC scope cl C env).kindOf y = some .cell) (hc : cl.lookup y = some cc) (d1 : (x == ("__debug__" : Str)) = false) (d2 : (y == ("__debug__" : Str)) = false) :
    EV c m ν (eval (.ListComp (.BinOp (.Name x p1) .Add (.Name y p2) p3) [⟨.Name x p4, iter, [], 0⟩] scope pos) env) P R := by
  refine ev_ListComp (cl := cl) (Rb := NoX) (ev_imp h ?_) outCompNoX hclos hcell hkind hnames hs
  rintro v m₁ ν₁ ⟨l, o, vs, L, rfl, hl, ho, hL, hlen, hcc, hP⟩
  refine ev_iterL hl ho fun it oi hit hoi => ?_
  refine ev_compI (yldL ho) (Nat.le_trans hlen (by simp [sizeLine])) (fun k acc ν₂ => ν₂ = ν₁ ∧ AllV IntV ((L.take k).map (· + d)) acc) ⟨oi, rfl, hoi⟩ (fun p hp => ltN' (hit p hp)) hl ⟨rfl, .nil⟩ (fun _ h => h) (fun a ha => ⟨_, .head _, ha.symm⟩) (fun k b hb p hp => by obtain ⟨oi', rfl, _⟩ := hb; cases hp with | head => rfl | tail _ h => cases h) (fun L q h => .tail _ h) ?_ ?_
  · rintro k acc ν₂ v δ b' C oC mC D oD hk hal ⟨rfl, hacc⟩ hne hsr ⟨hv, rfl⟩ hδ hB hNs hoD hab hDC hbCD hneC
    obtain ⟨a, ha, t, rfl⟩ := hL.at hv
    refine ev_assignName (ev_storeC hNs (fun _ h => h) hneC (fun oC' hC' => ?_) rfl hkind (hx C))
    refine ev_tests0 (ite_T ?_)
    refine ev_BinOp (ev_localC (.head _) hC' upd_self ?_ rfl hkind (hx C) d1)
    refine ev_cell hc (.tail _ (.tail _ (List.mem_append_right _ hcc))) hoc ?_ hkind (hy C) d2
    refine ev_add fun k' => ?_
    refine comp_done (fun p hp => hp) hC' hne hsr ⟨rfl, ?_⟩
    rw [List.take_add_one, ha, List.map_append]
    exact hacc.snoc ⟨_, rfl⟩
  · rintro D oD acc ν₂ hal ⟨rfl, hacc⟩ hoD hab hne hsr
    rw [hL.length, List.take_length] at hacc
    exact hP D oD acc hab hoD hacc
/-- value[lower:], value any expression that gives a tuple -/
theorem ev_FromA {value lower : Expr} {p pos : Pos} (h : EV c m ν (eval value env) (fun v m₁ ν₁ => EV c m₁ ν₁ (eval lower env) (fun i m₂ ν₂ => ∃ t o vs a u, v = .ref t ∧ i = .int ((a : Nat) : Int) u ∧ (t, o) ∈ ν₂ ∧ TupO o vs ∧ 1 ≤ a ∧ a ≤ vs.length ∧ vs.length ≤ 2 ^ 20 ∧ ∀ D, Above D ν₂ → P (.ref D) m₂ ((D, tupO (vs.drop a)) :: ν₂)) R) R)
    (hs : ∀ t S : Addr, subscripted (.Slice (some lower) none none p) false (.ref t) (.ref S) = operate [.ref S, .ref t] (getItem (.ref t) (.ref S)) := by intro _ _; with_unfolding_all rfl) : EV c m ν (eval (.Subscript value (.Slice (some lower) none none p) pos) env) P R := by
  intro s Q E F N hQ hE
  refine Subscript_ (h s _ E F N (fun v m₁ ν₁ h₁ k₁ x F₁ N₁ => wpAny_Slice (x _ _ E F₁ N₁ (fun i m₂ ν₂ h₂ k₂ y F₂ N₂ => wpAny_pure (wpAny_pure ?_)) hE)) hE)
  obtain ⟨t, o, vs, a, u, rfl, rfl, hm, ho, h1, h2, h3, hP⟩ := y
  have ht : IsTup (h₂.push { cls := .type "slice", data := .fields #[.int ((a : Nat) : Int) u, .none, .none] }) t vs.toArray := (ho.at' (N₂.get hm)).keeps fun _ _ e => Heap.get?_push_of_some _ e
  have N1 := News.push (F₂.push { cls := .type "slice", data := .fields #[.int ((a : Nat) : Int) u, .none, .none] }) (N₂.grown fun _ _ e => Heap.get?_push_of_some _ e) { cls := .type "tuple", data := .seq (vs.toArray.toList.drop a).toArray }
  refine tail_any (s := { s with heap := h₂.push { cls := .type "slice", data := .fields #[.int ((a : Nat) : Int) u, .none, .none] }, toks := k₂ }) ht.typeIs slot_tuple_getitem.lookup (getItem_tuple_from ht (Heap.IsSliceOf.new ..) h1 (by simpa using h2) ?_ (by simp only [List.size_toArray]; exact Nat.le_trans h3 (by decide))) (hs _ _)
  rw [Heap.size_push] at N1
  show Q (.ref (h₂.push _).objs.size) _
  rw [Heap.size_push]
  exact hQ _ _ _ _ k₂ (hP (h₂.objs.size + 1) (fun p hp => Nat.lt_succ_of_lt (Heap.lt_size (N₂ p hp).1))) ((F₂.push _).push _) (by simpa using N1)
end
end Mine

namespace Mine
def isEnd (x : Str) : Bool := (["goto", "return", "rethrow"] : List Str).any (· == x)
theorem ev_ends {c : Cx} {m : Loc} {ν : Led} {P : Value → Loc → Led → Prop} {R : RX} {x : Str} {u : Tok} (h : P (.bool (isEnd x)) m ν) : EV c m ν (compareOp .In (.str x u) (.ref 50)) P R := by
  refine' ev_inTup (K := fr.heap_1 c.w.params) ?hk ?ho ?hd ?hi h
  case hk => k_is
  case ho => rfl
  case hd => exact ⟨_, rfl⟩
  case hi => exact StrsAre.cons _ _ (StrsAre.cons _ _ (StrsAre.cons _ _ StrsAre.nil))

def isDS : Part → Bool
  | .d _ => true
  | .s _ => true
  | _ => false
theorem in_ds : ∀ p : Part, (!(Builtin.Str.occurrences "ds" ⟨#[p.letter]⟩ 0 ("ds" : Str).length 1).isEmpty) = isDS p
  | .d _ => by show (!(Builtin.Str.occurrences "ds" ⟨#[100]⟩ 0 ("ds" : Str).length 1).isEmpty) = true; decide +kernel
  | .s _ => by show (!(Builtin.Str.occurrences "ds" ⟨#[115]⟩ 0 ("ds" : Str).length 1).isEmpty) = true; decide +kernel
  | .m _ => by show (!(Builtin.Str.occurrences "ds" ⟨#[109]⟩ 0 ("ds" : Str).length 1).isEmpty) = false; decide +kernel
  | .g _ => by show (!(Builtin.Str.occurrences "ds" ⟨#[103]⟩ 0 ("ds" : Str).length 1).isEmpty) = false; decide +kernel
  | .x _ => by show (!(Builtin.Str.occurrences "ds" ⟨#[120]⟩ 0 ("ds" : Str).length 1).isEmpty) = false; decide +kernel
theorem ev_inDS {c : Cx} {m : Loc} {ν : Led} {P : Value → Loc → Led → Prop} {R : RX} {p : Part} {t u : Tok} (h : P (.bool (isDS p)) m ν) : EV c m ν (compareOp .In (.str ⟨#[p.letter]⟩ u) (.str "ds" t)) P R :=
  ev_inS (by rw [in_ds]; exact h)

local macro_rules | `(tactic| walk_at "zlk") => `(tactic| first | exact upd_self | assumption | (refine upd_to ?_; walk_at "zlk") | with_unfolding_all exact rfl)
local macro_rules | `(tactic| walk_at "zmem") => `(tactic| first | exact List.Mem.head _ | assumption | (refine' List.Mem.tail _ ?_; walk_at "zmem") | (refine' List.mem_append_left _ ?_; walk_at "zmem") | (refine' List.mem_append_right _ ?_; walk_at "zmem"))
local macro_rules | `(tactic| walk_at "zbase") => `(tactic| first | exact fun _ h => h | assumption | ((with_reducible refine sub_tail ?_); walk_at "zbase") | ((with_reducible refine sub_inl ?_); walk_at "zbase") | ((with_reducible refine sub_inr ?_); walk_at "zbase"))
local macro_rules | `(tactic| walk_at "zsub") => `(tactic| first | with_reducible exact sub_nil | ((with_reducible refine' sub_cons ?hm ?_); (case hm => walk_at "zmem"); walk_at "zsub") | ((with_reducible refine' sub_app ?hm ?_); (case hm => walk_at "zsub"); walk_at "zsub") | walk_at "zbase")
local macro_rules | `(tactic| walk_at "zlt") => `(tactic| first | assumption | exact gtN (by assumption) | exact ltN' (by assumption) | exact Ne.symm (by assumption))
local macro_rules | `(tactic| walk_at "zne") => `(tactic| first | with_reducible exact ne_nil | assumption | exact Above.ne (by assumption) | ((with_reducible refine' ne_cons ?hm ?_); (case hm => walk_at "zlt"); walk_at "zne") | ((with_reducible refine' ne_app ?hm ?_); (case hm => walk_at "zne"); walk_at "zne"))
local macro_rules | `(tactic| walk_at "zo") => `(tactic| first | assumption | exact lstO_mk | exact tupO_mk)
local macro_rules | `(tactic| walk_at "zroom") => `(tactic| exact Room.le (by assumption) (by decide))
local macro_rules | `(tactic| walk_at "zlen") => `(tactic| first | assumption | decide | omega)
theorem occ_len {x : Str} {n : Nat} (h : x.length = n) : (x.length : Int) = n := by omega
theorem Row.letters_len (r : Row) : r.letters.length = r.parts.length := by simp [Row.letters, Str.length]
theorem shaped_len {r : Row} (h : Shaped r) : r.parts.length ≤ 5 := by
  have : ∀ D : List (Str × Str), (∀ p ∈ D, p.2.length ≤ 5) → D.lookup r.name = some r.letters → r.letters.length ≤ 5 := by
    intro D
    induction D with
    | nil => intro _ h; cases h
    | cons p D ih =>
      obtain ⟨x, y⟩ := p
      intro hD hl
      rw [List.lookup_cons] at hl
      cases hb : r.name == x with
      | true => rw [hb] at hl; cases hl; exact hD _ (.head _)
      | false => rw [hb] at hl; exact ih (fun p hp => hD p (.tail _ hp)) hl
  have q := this shapesL (by decide) h
  rwa [Row.letters_len] at q
theorem c_shape_of {c : Cx} {m : Loc} {ν : Led} {P : Value → Loc → Led → Prop} {R : RX} {r : Row} {v : Value} (hr : Room c 1) (hv : RowV ν r v) (hs : Shaped r) (h : ∀ t, P (.str r.letters t) m ν) : EV c m ν (call (.ref 89) [v]) P R := by
  obtain ⟨b, o, t, vs, rfl, hm, ho, ha⟩ := hv
  have hn := ha.length
  have h5 := shaped_len hs
  refine' ev_call (n := 0) (Rb := NoX) (binds := [("row", .ref b)]) ?ho ?hcd hr ?hb ?hl ?hk ?hc ?h (fun _ _ _ _ _ _ x => x.elim)
  case ho => k_is
  case hcd => k_is
  case hb => exact fun s => BindsTo.of_eq rfl
  case hl => exact locs rfl
  case hk => exact rfl
  case hc => decide
  case h =>
    intro c' hr' _
    dsimp only [bnd]
    with_reducible refine ev_cons ?_
    ((with_reducible refine' ev_Assign ?_ ?qs); (case qs => with_unfolding_all rfl))
    ((with_reducible refine' ev_CallM ?_ ?qe); (case qe => with_unfolding_all rfl))
    ((with_reducible refine' ev_glob ?qez ?_ ?qg ?qk ?qx ?qd); (case qg => with_unfolding_all rfl); (case qk => with_unfolding_all rfl); (case qx => with_unfolding_all rfl); (case qd => decide); (case qez => k_is))
    with_reducible refine ev_getD shapes_in ?_
    ((with_reducible refine' ev_cwB_1 ?_ ?qe ?qp); (case qe => with_unfolding_all rfl); (case qp => with_unfolding_all rfl))
    ((with_reducible refine' ev_spl ?_ ?qe); (case qe => with_unfolding_all rfl))
    with_reducible refine ev_Sub ?_
    ((with_reducible refine' ev_local ?qvz ?_ ?qL ?qk ?qx ?qd); (case qL => with_unfolding_all rfl); (case qk => with_unfolding_all rfl); (case qx => with_unfolding_all rfl); (case qd => decide); (case qvz => walk_at "zlk"))
    ((with_reducible refine ev_int ?_); intro _)
    ((with_reducible refine' ev_itemTN ?qm ?qo ?q0 ?q1 ?qx ?_ ?qs); (case qs => with_unfolding_all rfl); (case qm => walk_at "zmem"); (case qo => walk_at "zo"); (case q0 => decide); (case q1 => decide); (case qx => exact rfl))
    with_reducible refine ev_spl0 ?_
    refine ev_shapes (fun y t' e => ?_) (fun e => by unfold Shaped at hs; rw [hs] at e; cases e)
    have ey : y = r.letters := by unfold Shaped at hs; rw [hs] at e; exact (Option.some.inj e).symm
    subst ey
    have hl := Row.letters_len r
    have h40 : r.letters.length < 2 ^ 40 := by omega
    have h41 : (Value.str r.name t :: vs).length < 2 ^ 40 := by simp only [List.length_cons]; omega
    ((with_reducible refine' ev_store ?_ ?qL ?qk ?qx); (case qL => with_unfolding_all rfl); (case qk => with_unfolding_all rfl); (case qx => with_unfolding_all rfl))
    with_reducible refine then_next ?_
    with_reducible refine ev_cons ?_
    with_reducible refine ev_If ?_
    with_reducible refine ev_isOr ?_
    ((with_reducible refine' ev_isCompare ?_ ?qs); (case qs => with_unfolding_all rfl))
    ((with_reducible refine' ev_local ?qvz ?_ ?qL ?qk ?qx ?qd); (case qL => with_unfolding_all rfl); (case qk => with_unfolding_all rfl); (case qx => with_unfolding_all rfl); (case qd => decide); (case qvz => walk_at "zlk"))
    with_reducible refine ev_none ?_
    with_reducible refine ev_isNone ?_
    with_reducible refine ev_truthyB ?_
    with_reducible refine ite_isF vn_str ?_
    with_reducible refine ev_isOr ?_
    ((with_reducible refine' ev_isCompare ?_ ?qs); (case qs => with_unfolding_all rfl))
    ((with_reducible refine' ev_Call ?_ ?qe); (case qe => with_unfolding_all rfl))
    ((with_reducible refine' ev_bltn ?qez ?qv ?_ ?qn ?qg ?qb ?qk ?qx ?qd); (case qg => with_unfolding_all rfl); (case qb => with_unfolding_all rfl); (case qk => with_unfolding_all rfl); (case qx => with_unfolding_all rfl); (case qd => decide); (case qn => decide); (case qez => k_is); (case qv => first | boot_fast | boot_by_name))
    ((with_reducible refine' ev_cwB_0 ?_ ?qe ?qp); (case qe => with_unfolding_all rfl); (case qp => with_unfolding_all rfl))
    ((with_reducible refine' ev_spl ?_ ?qe); (case qe => with_unfolding_all rfl))
    ((with_reducible refine' ev_local ?qvz ?_ ?qL ?qk ?qx ?qd); (case qL => with_unfolding_all rfl); (case qk => with_unfolding_all rfl); (case qx => with_unfolding_all rfl); (case qd => decide); (case qvz => walk_at "zlk"))
    with_reducible refine ev_spl0 ?_
    ((with_reducible refine' ev_lenS ?qf ?_); (case qf => walk_at "zlen"); intro _)
    with_reducible refine ev_BinOp ?_
    ((with_reducible refine' ev_Call ?_ ?qe); (case qe => with_unfolding_all rfl))
    ((with_reducible refine' ev_bltn ?qez ?qv ?_ ?qn ?qg ?qb ?qk ?qx ?qd); (case qg => with_unfolding_all rfl); (case qb => with_unfolding_all rfl); (case qk => with_unfolding_all rfl); (case qx => with_unfolding_all rfl); (case qd => decide); (case qn => decide); (case qez => k_is); (case qv => first | boot_fast | boot_by_name))
    ((with_reducible refine' ev_cwB_0 ?_ ?qe ?qp); (case qe => with_unfolding_all rfl); (case qp => with_unfolding_all rfl))
    ((with_reducible refine' ev_spl ?_ ?qe); (case qe => with_unfolding_all rfl))
    ((with_reducible refine' ev_local ?qvz ?_ ?qL ?qk ?qx ?qd); (case qL => with_unfolding_all rfl); (case qk => with_unfolding_all rfl); (case qx => with_unfolding_all rfl); (case qd => decide); (case qvz => walk_at "zlk"))
    with_reducible refine ev_spl0 ?_
    ((with_reducible refine' ev_lenT ?qm ?qo ?qf ?_); (case qm => walk_at "zmem"); (case qo => walk_at "zo"); (case qf => walk_at "zlen"); intro _)
    ((with_reducible refine ev_int ?_); intro _)
    ((with_reducible refine ev_sub' ?_); intro _)
    with_reducible refine ev_ne ?_
    with_reducible refine ev_truthyB ?_
    refine ite_isF ?_ ?_
    · show (((r.letters.length : Nat) : Int) != ((vs.length + 1 : Nat) : Int) - 1) = false
      have : ((r.letters.length : Nat) : Int) = ((vs.length + 1 : Nat) : Int) - 1 := by omega
      rw [this]; simp
    with_reducible refine ev_isOr0 ?_
    with_reducible refine ite_F ?_
    with_reducible refine ev_nil ?_
    with_reducible refine then_next ?_
    with_reducible refine ev_cons ?_
    with_reducible refine ev_Return ?_
    ((with_reducible refine' ev_local ?qvz ?_ ?qL ?qk ?qx ?qd); (case qL => with_unfolding_all rfl); (case qk => with_unfolding_all rfl); (case qx => with_unfolding_all rfl); (case qd => decide); (case qvz => walk_at "zlk"))
    with_reducible refine then_ret ?_
    exact h _

theorem letters_ascii (r : Row) : r.letters.cps.all (· < 128) = true := by
  simp only [Row.letters, List.all_toArray, List.all_map, List.all_eq_true]
  intro p _
  cases p <;> rfl

theorem zself {c : Cx} {m : Loc} {ν : Led} {R : RX} {P : Value → Loc → Led → Prop} {z TI TO i1 i2 tt : Addr} {x : Str} {t : Tok} {ot : Obj} {vs : List Value} {k : Nat} {b : Led} (Z : ZAp z TI TO i1 i2) (hot : TupO ot vs) (hn : x.cps.size = vs.length) (hb : zB z TI TO i1 i2 tt x t k b) (hs : ∀ p ∈ b, p ∈ ν) (h : P (.ref z) m ν) : EV c m ν (pyIter (.ref z)) P R :=
  (yldZ (elts := []) (kk := 0) (pos := ⟨0, 0, 0, 0⟩) Z hot hn).self k b ν m P R hb hs h
theorem zB_own {z TI TO i1 i2 tt : Addr} {x : Str} {t : Tok} {k : Nat} {b : Led} (hb : zB z TI TO i1 i2 tt x t k b) : ∀ p ∈ b, zOwn z TI TO i1 i2 p.1 := by
  obtain ⟨oT, o1, o2, p, q, rfl, _⟩ := hb
  intro p hp
  rcases hp with _ | ⟨_, _ | ⟨_, _ | ⟨_, _ | ⟨_, _ | ⟨_, hp⟩⟩⟩⟩⟩
  · exact .inl rfl
  · exact .inr (.inl rfl)
  · exact .inr (.inr (.inl rfl))
  · exact .inr (.inr (.inr (.inl rfl)))
  · exact .inr (.inr (.inr (.inr rfl)))
  · cases hp
theorem take_len {α β : Type} (f : α → List β) (l : List α) (k : Nat) : ((l.take k).flatMap f).length ≤ (l.flatMap f).length := by
  have := congrArg (fun l => (l.flatMap f).length) (List.take_append_drop k l)
  simp only [List.flatMap_append, List.length_append] at this
  omega
theorem c_uses_of {c : Cx} {m : Loc} {ν : Led} {P : Value → Loc → Led → Prop} {R : RX} {r : Row} {v : Value} (hr : Room c 2) (hv : RowV ν r v) (hs : Shaped r) (hz : r.uses.length ≤ 1000) (h : ∀ D o vs, Above D ν → LstO o vs → AllV IntV r.uses vs → P (.ref D) m ((D, o) :: ν)) : EV c m ν (call (.ref 96) [v]) P R := by
  have hv0 := hv
  obtain ⟨b, o, tn, vs, rfl, hm, ho, ha⟩ := hv
  have hn := ha.length
  have h5 := shaped_len hs
  refine ev_post ?_
  refine' ev_call (n := 1) (Rb := NoX) (binds := [("row", .ref b)]) ?ho ?hcd hr ?hb ?hl ?hk ?hc ?h (fun _ _ _ _ _ _ x => x.elim)
  case ho => k_is
  case hcd => k_is
  case hb => exact fun s => BindsTo.of_eq rfl
  case hl => exact locs rfl
  case hk => exact rfl
  case hc => decide
  case h =>
    intro c' hr' _
    dsimp only [bnd]
    with_reducible refine ev_cons ?_
    ((with_reducible refine' ev_Assign ?_ ?qs); (case qs => with_unfolding_all rfl))
    with_reducible refine ev_List ?_
    with_reducible refine ev_spl0 ?_
    refine ev_newList (fun l hl => ?_) (by decide)
    ((with_reducible refine' ev_store ?_ ?qL ?qk ?qx); (case qL => with_unfolding_all rfl); (case qk => with_unfolding_all rfl); (case qx => with_unfolding_all rfl))
    with_reducible refine then_next ?_
    with_reducible refine ev_cons ?_
    refine ev_For ?_ outNoX (Rb := NoX) (hs := fun _ => rfl)
    ((with_reducible refine' ev_Call ?_ ?qe); (case qe => with_unfolding_all rfl))
    ((with_reducible refine' ev_bltn ?qez ?qv ?_ ?qn ?qg ?qb ?qk ?qx ?qd); (case qg => with_unfolding_all rfl); (case qb => with_unfolding_all rfl); (case qk => with_unfolding_all rfl); (case qx => with_unfolding_all rfl); (case qd => decide); (case qn => decide); (case qez => k_is); (case qv => first | boot_fast | boot_by_name))
    ((with_reducible refine' ev_cwT_0 ?_ ?qe ?qp); (case qe => with_unfolding_all rfl); (case qp => with_unfolding_all rfl))
    ((with_reducible refine' ev_spl ?_ ?qe); (case qe => with_unfolding_all rfl))
    ((with_reducible refine' ev_Call ?_ ?qe); (case qe => with_unfolding_all rfl))
    ((with_reducible refine' ev_glob ?qez ?_ ?qg ?qk ?qx ?qd); (case qg => with_unfolding_all rfl); (case qk => with_unfolding_all rfl); (case qx => with_unfolding_all rfl); (case qd => decide); (case qez => k_is))
    ((with_reducible refine' ev_cwF_0 ?qk ?_ ?qe ?qp); (case qe => with_unfolding_all rfl); (case qp => with_unfolding_all rfl); (case qk => k_is))
    ((with_reducible refine' ev_spl ?_ ?qe); (case qe => with_unfolding_all rfl))
    ((with_reducible refine' ev_local ?qvz ?_ ?qL ?qk ?qx ?qd); (case qL => with_unfolding_all rfl); (case qk => with_unfolding_all rfl); (case qx => with_unfolding_all rfl); (case qd => decide); (case qvz => walk_at "zlk"))
    with_reducible refine ev_spl0 ?_
    refine c_shape_of (by walk_at "zroom") (hv0.mono (KeepT.of (by walk_at "zsub"))) hs fun _ => ?_
    ((with_reducible refine' ev_spl ?_ ?qe); (case qe => with_unfolding_all rfl))
    ((with_reducible refine' ev_FromA ?_ ?qs); (case qs => intro _ _; with_unfolding_all rfl))
    ((with_reducible refine' ev_local ?qvz ?_ ?qL ?qk ?qx ?qd); (case qL => with_unfolding_all rfl); (case qk => with_unfolding_all rfl); (case qx => with_unfolding_all rfl); (case qd => decide); (case qvz => walk_at "zlk"))
    ((with_reducible refine ev_int ?_); intro _)
    refine ⟨b, o, _, 1, _, rfl, rfl, by walk_at "zmem", ho, by decide, by simp only [List.length_cons]; omega, by simp only [List.length_cons]; omega, fun D hD => ?_⟩
    with_reducible refine ev_spl0 ?_
    refine ev_zip (vs := vs) (letters_ascii r) (.head _) ⟨0, rfl⟩ fun z TI TO i1 i2 zb Z hzb hup => ?_
    have hT : TupO (tupO (List.drop 1 (Value.str r.name tn :: vs))) vs := ⟨0, rfl⟩
    have hsz : r.letters.cps.size = vs.length := (Row.letters_len r).trans hn.symm
    have hl_z : ∀ a, zOwn z TI TO i1 i2 a → @LT.lt Nat _ l a ∧ @LT.lt Nat _ D a ∧ Above a ν := fun a ha' => ⟨(hup a ha').tail.head, (hup a ha').head, (hup a ha').tail.tail⟩
    refine zself Z hT hsz hzb (by walk_at "zbase") ?_
    refine ev_forI (yldZ Z hT hsz) (fun k m₁ ν₁ => ∃ o acc, ν₁ = (D, tupO (List.drop 1 (Value.str r.name tn :: vs))) :: (l, o) :: ν ∧ LstO o acc ∧ AllV IntV ((r.parts.take k).flatMap usesP) acc ∧ m₁ "found" = some (.ref l)) (ν₀ := (D, tupO (List.drop 1 (Value.str r.name tn :: vs))) :: (l, lstO []) :: ν) hzb (fun p hp ho => Nat.lt_irrefl _ (hup _ ho p hp)) (.head _) ⟨_, [], rfl, lstO_mk, .nil, by walk_at "zlk"⟩ (fun _ h => h) ?_ ?_
    · intro k m₁ ν₁ v δ b' hk hI hcl hsr hit hδ hB'
      obtain ⟨o1, acc, rfl, ho1, hacc, hf⟩ := hI
      obtain ⟨T, p, y, w, hp, hpv, rfl, rfl⟩ := zrow_item rfl hit ha
      have hDl : D ≠ l := gtN hD.head
      have hbl : ∀ p ∈ b', p.1 ≠ l := fun p hp => gtN (hl_z _ (zB_own hB' p hp)).1
      have hb'D : ∀ p ∈ b', p.1 ≠ D := fun p hp => gtN (hl_z _ (zB_own hB' p hp)).2.1
      ((with_reducible refine' ev_assignT2 ?qm ?qo ?_); (case qm => walk_at "zmem"); (case qo => walk_at "zo"))
      ((with_reducible refine' ev_store ?_ ?qL ?qk ?qx); (case qL => with_unfolding_all rfl); (case qk => with_unfolding_all rfl); (case qx => with_unfolding_all rfl))
      ((with_reducible refine' ev_store ?_ ?qL ?qk ?qx); (case qL => with_unfolding_all rfl); (case qk => with_unfolding_all rfl); (case qx => with_unfolding_all rfl))
      with_reducible refine ev_cons ?_
      with_reducible refine ev_If ?_
      ((with_reducible refine' ev_isCompare ?_ ?qs); (case qs => with_unfolding_all rfl))
      ((with_reducible refine' ev_local ?qvz ?_ ?qL ?qk ?qx ?qd); (case qL => with_unfolding_all rfl); (case qk => with_unfolding_all rfl); (case qx => with_unfolding_all rfl); (case qd => decide); (case qvz => walk_at "zlk"))
      ((with_reducible refine ev_str ?_); intro _)
      with_reducible refine ev_eqS ?_
      with_reducible refine ev_truthyB ?_
      have clean : ∀ o', ∀ p ∈ (D, tupO (List.drop 1 (Value.str r.name tn :: vs))) :: (l, o') :: ν, ¬ zOwn z TI TO i1 i2 p.1 := by
        intro o' p hp hz
        rcases hp with _ | ⟨_, _ | ⟨_, hp⟩⟩
        · exact Nat.lt_irrefl _ (hl_z _ hz).2.1
        · exact Nat.lt_irrefl _ (hl_z _ hz).1
        · exact Nat.lt_irrefl _ ((hl_z _ hz).2.2 p hp)
      have hk5 : acc.length ≤ 1000 := by rw [hacc.length]; exact Nat.le_trans (take_len _ _ _) hz
      rcases p with n | n | li | n | x
      focus
        ((with_reducible refine' ite_isF (b := Str.mk #[_] == _) ?qb ?_); (case qb => exact rfl))
        with_reducible refine ev_cons ?_
        with_reducible refine ev_If ?_
        ((with_reducible refine' ev_isCompare ?_ ?qs); (case qs => with_unfolding_all rfl))
        ((with_reducible refine' ev_local ?qvz ?_ ?qL ?qk ?qx ?qd); (case qL => with_unfolding_all rfl); (case qk => with_unfolding_all rfl); (case qx => with_unfolding_all rfl); (case qd => decide); (case qvz => walk_at "zlk"))
        ((with_reducible refine ev_str ?_); intro _)
        with_reducible refine ev_eqS ?_
        with_reducible refine ev_truthyB ?_
        ((with_reducible refine' ite_isF (b := Str.mk #[_] == _) ?qb ?_); (case qb => exact rfl))
        with_reducible refine ev_nil ?_
        with_reducible refine then_next ?_
        with_reducible refine ev_nil ?_
        with_reducible refine then_next ?_
        with_reducible refine ev_nil ?_
      rotate_left
      focus
        ((with_reducible refine' ite_isT (b := Str.mk #[_] == _) ?qb ?_); (case qb => exact rfl))
        with_reducible refine ev_cons ?_
        ((with_reducible refine' ev_ExprAny ?_ ?qi ?qs); (case qi => with_unfolding_all rfl); (case qs => with_unfolding_all rfl))
        ((with_reducible refine' ev_CallM ?_ ?qe); (case qe => with_unfolding_all rfl))
        ((with_reducible refine' ev_local ?qvz ?_ ?qL ?qk ?qx ?qd); (case qL => with_unfolding_all rfl); (case qk => with_unfolding_all rfl); (case qx => with_unfolding_all rfl); (case qd => decide); (case qvz => walk_at "zlk"))
        ((with_reducible refine' ev_getAppend ?qm ?qo ?_); (case qm => walk_at "zmem"); (case qo => walk_at "zo"))
        ((with_reducible refine' ev_cwB_1 ?_ ?qe ?qp); (case qe => with_unfolding_all rfl); (case qp => with_unfolding_all rfl))
        ((with_reducible refine' ev_spl ?_ ?qe); (case qe => with_unfolding_all rfl))
        ((with_reducible refine' ev_local ?qvz ?_ ?qL ?qk ?qx ?qd); (case qL => with_unfolding_all rfl); (case qk => with_unfolding_all rfl); (case qx => with_unfolding_all rfl); (case qd => decide); (case qvz => walk_at "zlk"))
        with_reducible refine ev_spl0 ?_
      rotate_left
      focus
        ((with_reducible refine' ite_isF (b := Str.mk #[_] == _) ?qb ?_); (case qb => exact rfl))
        with_reducible refine ev_cons ?_
        with_reducible refine ev_If ?_
        ((with_reducible refine' ev_isCompare ?_ ?qs); (case qs => with_unfolding_all rfl))
        ((with_reducible refine' ev_local ?qvz ?_ ?qL ?qk ?qx ?qd); (case qL => with_unfolding_all rfl); (case qk => with_unfolding_all rfl); (case qx => with_unfolding_all rfl); (case qd => decide); (case qvz => walk_at "zlk"))
        ((with_reducible refine ev_str ?_); intro _)
        with_reducible refine ev_eqS ?_
        with_reducible refine ev_truthyB ?_
        ((with_reducible refine' ite_isT (b := Str.mk #[_] == _) ?qb ?_); (case qb => exact rfl))
        with_reducible refine ev_cons ?_
        ((with_reducible refine' ev_ExprAny ?_ ?qi ?qs); (case qi => with_unfolding_all rfl); (case qs => with_unfolding_all rfl))
        ((with_reducible refine' ev_CallM ?_ ?qe); (case qe => with_unfolding_all rfl))
        ((with_reducible refine' ev_local ?qvz ?_ ?qL ?qk ?qx ?qd); (case qL => with_unfolding_all rfl); (case qk => with_unfolding_all rfl); (case qx => with_unfolding_all rfl); (case qd => decide); (case qvz => walk_at "zlk"))
        ((with_reducible refine' ev_getExtend ?qm ?qo ?_); (case qm => walk_at "zmem"); (case qo => walk_at "zo"))
        ((with_reducible refine' ev_cwB_1 ?_ ?qe ?qp); (case qe => with_unfolding_all rfl); (case qp => with_unfolding_all rfl))
        ((with_reducible refine' ev_spl ?_ ?qe); (case qe => with_unfolding_all rfl))
        ((with_reducible refine' ev_local ?qvz ?_ ?qL ?qk ?qx ?qd); (case qL => with_unfolding_all rfl); (case qk => with_unfolding_all rfl); (case qx => with_unfolding_all rfl); (case qd => decide); (case qvz => walk_at "zlk"))
        with_reducible refine ev_spl0 ?_
      rotate_left
      focus
        ((with_reducible refine' ite_isF (b := Str.mk #[_] == _) ?qb ?_); (case qb => exact rfl))
        with_reducible refine ev_cons ?_
        with_reducible refine ev_If ?_
        ((with_reducible refine' ev_isCompare ?_ ?qs); (case qs => with_unfolding_all rfl))
        ((with_reducible refine' ev_local ?qvz ?_ ?qL ?qk ?qx ?qd); (case qL => with_unfolding_all rfl); (case qk => with_unfolding_all rfl); (case qx => with_unfolding_all rfl); (case qd => decide); (case qvz => walk_at "zlk"))
        ((with_reducible refine ev_str ?_); intro _)
        with_reducible refine ev_eqS ?_
        with_reducible refine ev_truthyB ?_
        ((with_reducible refine' ite_isF (b := Str.mk #[_] == _) ?qb ?_); (case qb => exact rfl))
        with_reducible refine ev_nil ?_
        with_reducible refine then_next ?_
        with_reducible refine ev_nil ?_
        with_reducible refine then_next ?_
        with_reducible refine ev_nil ?_
      rotate_left
      focus
        ((with_reducible refine' ite_isF (b := Str.mk #[_] == _) ?qb ?_); (case qb => exact rfl))
        with_reducible refine ev_cons ?_
        with_reducible refine ev_If ?_
        ((with_reducible refine' ev_isCompare ?_ ?qs); (case qs => with_unfolding_all rfl))
        ((with_reducible refine' ev_local ?qvz ?_ ?qL ?qk ?qx ?qd); (case qL => with_unfolding_all rfl); (case qk => with_unfolding_all rfl); (case qx => with_unfolding_all rfl); (case qd => decide); (case qvz => walk_at "zlk"))
        ((with_reducible refine ev_str ?_); intro _)
        with_reducible refine ev_eqS ?_
        with_reducible refine ev_truthyB ?_
        ((with_reducible refine' ite_isF (b := Str.mk #[_] == _) ?qb ?_); (case qb => exact rfl))
        with_reducible refine ev_nil ?_
        with_reducible refine then_next ?_
        with_reducible refine ev_nil ?_
        with_reducible refine then_next ?_
        with_reducible refine ev_nil ?_
      rotate_left
      · exact ⟨_, by walk_at "zsub", clean _, .head _, o1, acc, rfl, ho1, by rw [take_next _ hp]; show AllV IntV (_ ++ []) _; rw [List.append_nil]; exact hacc, by walk_at "zlk"⟩
      · refine ev_append (ν₁ := b' ++ ((D, tupO (List.drop 1 (Value.str r.name tn :: vs))) :: ν)) ho1 (by walk_at "zsub") (by walk_at "zne") (Nat.le_trans hk5 (by decide)) fun o' ho' => ?_
        with_reducible refine then_next ?_
        with_reducible refine ev_nil ?_
        with_reducible refine then_next ?_
        with_reducible refine ev_nil ?_
        exact ⟨_, by walk_at "zsub", clean _, .head _, o', _, rfl, ho', by rw [take_next _ hp]; exact hacc.snoc hpv, by walk_at "zlk"⟩
      · obtain ⟨b2, o2, vs2, rfl, hm2, ho2, hv2⟩ := hpv
        have hi2 := ints_at hv2
        refine ev_extendT (ν₁ := b' ++ ((D, tupO (List.drop 1 (Value.str r.name tn :: vs))) :: ν)) ho1 (by walk_at "zmem") ho2 (by walk_at "zsub") (by walk_at "zne") ?_ fun o' ho' => ?_
        · have : (acc ++ vs2).length ≤ 1000 := by
            rw [(hacc.app hi2).length]
            have e := take_next usesP hp
            rw [show usesP (.m li) = li from rfl] at e
            rw [← e]
            exact Nat.le_trans (take_len _ _ _) hz
          rw [List.length_append] at this
          exact Nat.le_trans this (by decide)
        · with_reducible refine then_next ?_
          with_reducible refine ev_nil ?_
          with_reducible refine then_next ?_
          with_reducible refine ev_nil ?_
          with_reducible refine then_next ?_
          with_reducible refine ev_nil ?_
          exact ⟨_, by walk_at "zsub", clean _, .head _, o', _, rfl, ho', by rw [take_next _ hp]; exact hacc.app hi2, by walk_at "zlk"⟩
      · exact ⟨_, by walk_at "zsub", clean _, .head _, o1, acc, rfl, ho1, by rw [take_next _ hp]; show AllV IntV (_ ++ []) _; rw [List.append_nil]; exact hacc, by walk_at "zlk"⟩
      · exact ⟨_, by walk_at "zsub", clean _, .head _, o1, acc, rfl, ho1, by rw [take_next _ hp]; show AllV IntV (_ ++ []) _; rw [List.append_nil]; exact hacc, by walk_at "zlk"⟩
    · rintro m₁ ν₁ ⟨o1, acc, rfl, ho1, hacc, hf⟩ _ _
      rw [hn, List.take_length] at hacc
      with_reducible refine then_next ?_
      with_reducible refine ev_cons ?_
      with_reducible refine ev_Return ?_
      ((with_reducible refine' ev_local ?qvz ?_ ?qL ?qk ?qx ?qd); (case qL => with_unfolding_all rfl); (case qk => with_unfolding_all rfl); (case qx => with_unfolding_all rfl); (case qd => decide); (case qvz => walk_at "zlk"))
      with_reducible refine then_ret ?_
      exact ⟨_, by walk_at "zsub", h l o1 acc hl ho1 hacc⟩

theorem slice_letters (r : Row) (h5 : r.parts.length ≤ 5) : Txt.slice r.letters none (some 1) = ⟨((r.parts.take 1).map Part.letter).toArray⟩ := by
  have idx : ∀ n, n ≤ 5 → Builtin.Str.strSliceIndices none (some 1) 1 n = (List.range n).take 1 := by decide
  unfold Txt.slice
  rw [show r.letters.length = r.parts.length from Row.letters_len r, idx _ h5]
  have hl : r.letters.cps = (r.parts.map Part.letter).toArray := rfl
  rw [hl]
  match hp : r.parts with
  | [] => simp [Row.letters, hp]
  | [p] => simp [Row.letters, hp]
  | p :: q :: ps => simp [Row.letters, List.range_succ_eq_map]
theorem d_first (r : Row) : (((⟨((r.parts.take 1).map Part.letter).toArray⟩ : Str) == "d") = r.sets.isSome) := by
  unfold Row.sets
  match r.parts with
  | [] => rfl
  | .d n :: _ => rfl
  | .s n :: _ => rfl
  | .m n :: _ => rfl
  | .g n :: _ => rfl
  | .x n :: _ => rfl
abbrev OptV (n : Option Int) (v : Value) : Prop := match n with
  | some n => ∃ t, v = .int n t
  | none => v = .none
theorem c_sets_of {c : Cx} {m : Loc} {ν : Led} {P : Value → Loc → Led → Prop} {R : RX} {r : Row} {v : Value} (hr : Room c 2) (hv : RowV ν r v) (hs : Shaped r) (h : ∀ v, OptV r.sets v → P v m ν) : EV c m ν (call (.ref 103) [v]) P R := by
  have hv0 := hv
  obtain ⟨b, o, tn, vs, rfl, hm, ho, ha⟩ := hv
  have h5 := shaped_len hs
  refine' ev_call (n := 1) (Rb := NoX) (binds := [("row", .ref b)]) ?ho ?hcd hr ?hb ?hl ?hk ?hc ?h (fun _ _ _ _ _ _ x => x.elim)
  case ho => k_is
  case hcd => k_is
  case hb => exact fun s => BindsTo.of_eq rfl
  case hl => exact locs rfl
  case hk => exact rfl
  case hc => decide
  case h =>
    intro c' hr' _
    dsimp only [bnd]
    with_reducible refine ev_cons ?_
    with_reducible refine ev_Return ?_
    with_reducible refine ev_IfExp ?_
    ((with_reducible refine' ev_isCompare ?_ ?qs); (case qs => with_unfolding_all rfl))
    ((with_reducible refine' ev_To ?_ ?qs ?qg); (case qs => intro _ _ _; with_unfolding_all rfl); (case qg => intro _ _ _; with_unfolding_all rfl))
    ((with_reducible refine' ev_Call ?_ ?qe); (case qe => with_unfolding_all rfl))
    ((with_reducible refine' ev_glob ?qez ?_ ?qg ?qk ?qx ?qd); (case qg => with_unfolding_all rfl); (case qk => with_unfolding_all rfl); (case qx => with_unfolding_all rfl); (case qd => decide); (case qez => k_is))
    ((with_reducible refine' ev_cwF_0 ?qk ?_ ?qe ?qp); (case qe => with_unfolding_all rfl); (case qp => with_unfolding_all rfl); (case qk => k_is))
    ((with_reducible refine' ev_spl ?_ ?qe); (case qe => with_unfolding_all rfl))
    ((with_reducible refine' ev_local ?qvz ?_ ?qL ?qk ?qx ?qd); (case qL => with_unfolding_all rfl); (case qk => with_unfolding_all rfl); (case qx => with_unfolding_all rfl); (case qd => decide); (case qvz => walk_at "zlk"))
    with_reducible refine ev_spl0 ?_
    refine c_shape_of (by walk_at "zroom") hv0 hs fun _ => ?_
    ((with_reducible refine ev_int ?_); intro _)
    refine ⟨_, _, _, _, rfl, rfl, by rw [Row.letters_len]; omega, fun t' => ?_⟩
    rw [slice_letters r h5]
    ((with_reducible refine ev_str ?_); intro _)
    with_reducible refine ev_eqS ?_
    with_reducible refine ev_truthyB ?_
    rw [d_first]
    cases hp : r.sets with
    | none =>
      refine ite_isF rfl ?_
      with_reducible refine ev_none ?_
      with_reducible refine then_ret ?_
      exact h _ (by rw [hp])
    | some n =>
      obtain ⟨q, hq⟩ : ∃ q, r.parts = .d n :: q := by
        unfold Row.sets at hp
        split at hp
        · cases hp; exact ⟨_, by assumption⟩
        · cases hp
      rw [hq] at ha
      cases ha with
      | cons x xs =>
        refine ite_isT rfl ?_
        with_reducible refine ev_Sub ?_
        ((with_reducible refine' ev_local ?qvz ?_ ?qL ?qk ?qx ?qd); (case qL => with_unfolding_all rfl); (case qk => with_unfolding_all rfl); (case qx => with_unfolding_all rfl); (case qd => decide); (case qvz => walk_at "zlk"))
        ((with_reducible refine ev_int ?_); intro _)
        ((with_reducible refine' ev_itemTN ?qm ?qo ?q0 ?q1 ?qx ?_ ?qs); (case qs => with_unfolding_all rfl); (case qm => walk_at "zmem"); (case qo => walk_at "zo"); (case q0 => decide); (case q1 => decide); (case qx => exact rfl))
        with_reducible refine then_ret ?_
        exact h _ (by rw [hp]; exact x)

theorem zB_has {z TI TO i1 i2 tt : Addr} {x : Str} {t : Tok} {k : Nat} {b : Led} (hb : zB z TI TO i1 i2 tt x t k b) : ∀ a, zOwn z TI TO i1 i2 a → ∃ p ∈ b, p.1 = a := by
  obtain ⟨oT, o1, o2, p, q, rfl, _⟩ := hb
  rintro a (rfl | rfl | rfl | rfl | rfl)
  · exact ⟨_, .head _, rfl⟩
  · exact ⟨_, .tail _ (.head _), rfl⟩
  · exact ⟨_, .tail _ (.tail _ (.head _)), rfl⟩
  · exact ⟨_, .tail _ (.tail _ (.tail _ (.head _))), rfl⟩
  · exact ⟨_, .tail _ (.tail _ (.tail _ (.tail _ (.head _)))), rfl⟩
theorem c_goals_of {c : Cx} {m : Loc} {ν : Led} {P : Value → Loc → Led → Prop} {R : RX} {r : Row} {v : Value} (hr : Room c 2) (hv : RowV ν r v) (hs : Shaped r) (h : ∀ D o vs, Above D ν → LstO o vs → AllV IntV r.goals vs → P (.ref D) m ((D, o) :: ν)) : EV c m ν (call (.ref 108) [v]) P R := by
  have hv0 := hv
  obtain ⟨b, o, tn, vs, rfl, hm, ho, ha⟩ := hv
  have hn := ha.length
  have h5 := shaped_len hs
  refine ev_post ?_
  refine' ev_call (n := 1) (Rb := NoX) (binds := [("row", .ref b)]) ?ho ?hcd hr ?hb ?hl ?hk ?hc ?h (fun _ _ _ _ _ _ x => x.elim)
  case ho => k_is
  case hcd => k_is
  case hb => exact fun s => BindsTo.of_eq rfl
  case hl => exact locs rfl
  case hk => exact rfl
  case hc => decide
  case h =>
    intro c' hr' _
    dsimp only [bnd]
    with_reducible refine ev_cons ?_
    with_reducible refine ev_Return ?_
    refine' ev_ListComp (cl := []) (Rb := NoX) ?_ outCompNoX ?h1 ?h2 ?h3 ?h4 ?h5
    case h1 => with_unfolding_all rfl
    case h2 => decide
    case h3 => rfl
    case h4 => decide
    case h5 => exact fun _ => rfl
    ((with_reducible refine' ev_Call ?_ ?qe); (case qe => with_unfolding_all rfl))
    ((with_reducible refine' ev_bltn ?qez ?qv ?_ ?qn ?qg ?qb ?qk ?qx ?qd); (case qg => with_unfolding_all rfl); (case qb => with_unfolding_all rfl); (case qk => with_unfolding_all rfl); (case qx => with_unfolding_all rfl); (case qd => decide); (case qn => decide); (case qez => k_is); (case qv => first | boot_fast | boot_by_name))
    ((with_reducible refine' ev_cwT_0 ?_ ?qe ?qp); (case qe => with_unfolding_all rfl); (case qp => with_unfolding_all rfl))
    ((with_reducible refine' ev_spl ?_ ?qe); (case qe => with_unfolding_all rfl))
    ((with_reducible refine' ev_Call ?_ ?qe); (case qe => with_unfolding_all rfl))
    ((with_reducible refine' ev_glob ?qez ?_ ?qg ?qk ?qx ?qd); (case qg => with_unfolding_all rfl); (case qk => with_unfolding_all rfl); (case qx => with_unfolding_all rfl); (case qd => decide); (case qez => k_is))
    ((with_reducible refine' ev_cwF_0 ?qk ?_ ?qe ?qp); (case qe => with_unfolding_all rfl); (case qp => with_unfolding_all rfl); (case qk => k_is))
    ((with_reducible refine' ev_spl ?_ ?qe); (case qe => with_unfolding_all rfl))
    ((with_reducible refine' ev_local ?qvz ?_ ?qL ?qk ?qx ?qd); (case qL => with_unfolding_all rfl); (case qk => with_unfolding_all rfl); (case qx => with_unfolding_all rfl); (case qd => decide); (case qvz => walk_at "zlk"))
    with_reducible refine ev_spl0 ?_
    refine c_shape_of (by walk_at "zroom") hv0 hs fun _ => ?_
    ((with_reducible refine' ev_spl ?_ ?qe); (case qe => with_unfolding_all rfl))
    ((with_reducible refine' ev_FromA ?_ ?qs); (case qs => intro _ _; with_unfolding_all rfl))
    ((with_reducible refine' ev_local ?qvz ?_ ?qL ?qk ?qx ?qd); (case qL => with_unfolding_all rfl); (case qk => with_unfolding_all rfl); (case qx => with_unfolding_all rfl); (case qd => decide); (case qvz => walk_at "zlk"))
    ((with_reducible refine ev_int ?_); intro _)
    refine ⟨b, o, _, 1, _, rfl, rfl, hm, ho, by decide, by simp only [List.length_cons]; omega, by simp only [List.length_cons]; omega, fun D hD => ?_⟩
    with_reducible refine ev_spl0 ?_
    refine ev_zip (vs := vs) (letters_ascii r) (.head _) ⟨0, rfl⟩ fun z TI TO i1 i2 zb Z hzb hup => ?_
    have hT : TupO (tupO (List.drop 1 (Value.str r.name tn :: vs))) vs := ⟨0, rfl⟩
    have hsz : r.letters.cps.size = vs.length := (Row.letters_len r).trans hn.symm
    refine zself Z hT hsz hzb (by walk_at "zbase") ?_
    refine ev_compI (yldZ Z hT hsz) (by rw [hn]; exact Nat.le_trans h5 (by decide)) (fun k acc ν₁ => ν₁ = (D, tupO (List.drop 1 (Value.str r.name tn :: vs))) :: ν ∧ AllV IntV ((r.parts.take k).flatMap goalsP) acc) (ν₀ := (D, tupO (List.drop 1 (Value.str r.name tn :: vs))) :: ν) hzb (fun p hp ho => Nat.lt_irrefl _ (hup _ ho p hp)) (.head _) ⟨rfl, .nil⟩ (fun _ h => h) (zB_has hzb) (fun k b hb => zB_own hb) (fun L q h => .tail _ h) ?_ ?_
    · rintro k acc ν₁ v δ b' C oC mC D' oD hk hal ⟨rfl, hacc⟩ hne hsr hit hδ hB hNs hoD hab hDC hbCD hneC
      obtain ⟨T, p, y, w, hp, hpv, rfl, rfl⟩ := zrow_item rfl hit ha
      rcases p with n | n | li | n | x
      focus
        ((with_reducible refine' ev_assignT2 ?qm ?qo ?_); (case qm => walk_at "zmem"); (case qo => walk_at "zo"))
        ((with_reducible refine' ev_storeC ?qC (fun _ h => h) ?qn ?_ ?qL ?qk ?qx); (case qL => with_unfolding_all rfl); (case qk => with_unfolding_all rfl); (case qx => with_unfolding_all rfl); (case qC => assumption); (case qn => walk_at "zne"); intro _ _)
        ((with_reducible refine' ev_storeC ?qC (fun _ h => h) ?qn ?_ ?qL ?qk ?qx); (case qL => with_unfolding_all rfl); (case qk => with_unfolding_all rfl); (case qx => with_unfolding_all rfl); (case qC => assumption); (case qn => walk_at "zne"); intro _ _)
        with_reducible refine ev_tests1 ?_
        ((with_reducible refine' ev_isCompare ?_ ?qs); (case qs => with_unfolding_all rfl))
        ((with_reducible refine' ev_localC ?qm ?qC ?qv ?_ ?qL ?qk ?qx ?qd); (case qL => with_unfolding_all rfl); (case qk => with_unfolding_all rfl); (case qx => with_unfolding_all rfl); (case qd => decide); (case qm => walk_at "zmem"); (case qC => assumption); (case qv => walk_at "zlk"))
        ((with_reducible refine ev_str ?_); intro _)
        with_reducible refine ev_eqS ?_
        with_reducible refine ev_truthyB ?_
        ((with_reducible refine' ite_isF (b := Str.mk #[_] == _) ?qb ?_); (case qb => exact rfl))
      rotate_left
      focus
        ((with_reducible refine' ev_assignT2 ?qm ?qo ?_); (case qm => walk_at "zmem"); (case qo => walk_at "zo"))
        ((with_reducible refine' ev_storeC ?qC (fun _ h => h) ?qn ?_ ?qL ?qk ?qx); (case qL => with_unfolding_all rfl); (case qk => with_unfolding_all rfl); (case qx => with_unfolding_all rfl); (case qC => assumption); (case qn => walk_at "zne"); intro _ _)
        ((with_reducible refine' ev_storeC ?qC (fun _ h => h) ?qn ?_ ?qL ?qk ?qx); (case qL => with_unfolding_all rfl); (case qk => with_unfolding_all rfl); (case qx => with_unfolding_all rfl); (case qC => assumption); (case qn => walk_at "zne"); intro _ _)
        with_reducible refine ev_tests1 ?_
        ((with_reducible refine' ev_isCompare ?_ ?qs); (case qs => with_unfolding_all rfl))
        ((with_reducible refine' ev_localC ?qm ?qC ?qv ?_ ?qL ?qk ?qx ?qd); (case qL => with_unfolding_all rfl); (case qk => with_unfolding_all rfl); (case qx => with_unfolding_all rfl); (case qd => decide); (case qm => walk_at "zmem"); (case qC => assumption); (case qv => walk_at "zlk"))
        ((with_reducible refine ev_str ?_); intro _)
        with_reducible refine ev_eqS ?_
        with_reducible refine ev_truthyB ?_
        ((with_reducible refine' ite_isF (b := Str.mk #[_] == _) ?qb ?_); (case qb => exact rfl))
      rotate_left
      focus
        ((with_reducible refine' ev_assignT2 ?qm ?qo ?_); (case qm => walk_at "zmem"); (case qo => walk_at "zo"))
        ((with_reducible refine' ev_storeC ?qC (fun _ h => h) ?qn ?_ ?qL ?qk ?qx); (case qL => with_unfolding_all rfl); (case qk => with_unfolding_all rfl); (case qx => with_unfolding_all rfl); (case qC => assumption); (case qn => walk_at "zne"); intro _ _)
        ((with_reducible refine' ev_storeC ?qC (fun _ h => h) ?qn ?_ ?qL ?qk ?qx); (case qL => with_unfolding_all rfl); (case qk => with_unfolding_all rfl); (case qx => with_unfolding_all rfl); (case qC => assumption); (case qn => walk_at "zne"); intro _ _)
        with_reducible refine ev_tests1 ?_
        ((with_reducible refine' ev_isCompare ?_ ?qs); (case qs => with_unfolding_all rfl))
        ((with_reducible refine' ev_localC ?qm ?qC ?qv ?_ ?qL ?qk ?qx ?qd); (case qL => with_unfolding_all rfl); (case qk => with_unfolding_all rfl); (case qx => with_unfolding_all rfl); (case qd => decide); (case qm => walk_at "zmem"); (case qC => assumption); (case qv => walk_at "zlk"))
        ((with_reducible refine ev_str ?_); intro _)
        with_reducible refine ev_eqS ?_
        with_reducible refine ev_truthyB ?_
        ((with_reducible refine' ite_isF (b := Str.mk #[_] == _) ?qb ?_); (case qb => exact rfl))
      rotate_left
      focus
        ((with_reducible refine' ev_assignT2 ?qm ?qo ?_); (case qm => walk_at "zmem"); (case qo => walk_at "zo"))
        ((with_reducible refine' ev_storeC ?qC (fun _ h => h) ?qn ?_ ?qL ?qk ?qx); (case qL => with_unfolding_all rfl); (case qk => with_unfolding_all rfl); (case qx => with_unfolding_all rfl); (case qC => assumption); (case qn => walk_at "zne"); intro _ _)
        ((with_reducible refine' ev_storeC ?qC (fun _ h => h) ?qn ?_ ?qL ?qk ?qx); (case qL => with_unfolding_all rfl); (case qk => with_unfolding_all rfl); (case qx => with_unfolding_all rfl); (case qC => assumption); (case qn => walk_at "zne"); intro _ _)
        with_reducible refine ev_tests1 ?_
        ((with_reducible refine' ev_isCompare ?_ ?qs); (case qs => with_unfolding_all rfl))
        ((with_reducible refine' ev_localC ?qm ?qC ?qv ?_ ?qL ?qk ?qx ?qd); (case qL => with_unfolding_all rfl); (case qk => with_unfolding_all rfl); (case qx => with_unfolding_all rfl); (case qd => decide); (case qm => walk_at "zmem"); (case qC => assumption); (case qv => walk_at "zlk"))
        ((with_reducible refine ev_str ?_); intro _)
        with_reducible refine ev_eqS ?_
        with_reducible refine ev_truthyB ?_
        ((with_reducible refine' ite_isT (b := Str.mk #[_] == _) ?qb ?_); (case qb => exact rfl))
        ((with_reducible refine' ev_localC ?qm ?qC ?qv ?_ ?qL ?qk ?qx ?qd); (case qL => with_unfolding_all rfl); (case qk => with_unfolding_all rfl); (case qx => with_unfolding_all rfl); (case qd => decide); (case qm => walk_at "zmem"); (case qC => assumption); (case qv => walk_at "zlk"))
      rotate_left
      focus
        ((with_reducible refine' ev_assignT2 ?qm ?qo ?_); (case qm => walk_at "zmem"); (case qo => walk_at "zo"))
        ((with_reducible refine' ev_storeC ?qC (fun _ h => h) ?qn ?_ ?qL ?qk ?qx); (case qL => with_unfolding_all rfl); (case qk => with_unfolding_all rfl); (case qx => with_unfolding_all rfl); (case qC => assumption); (case qn => walk_at "zne"); intro _ _)
        ((with_reducible refine' ev_storeC ?qC (fun _ h => h) ?qn ?_ ?qL ?qk ?qx); (case qL => with_unfolding_all rfl); (case qk => with_unfolding_all rfl); (case qx => with_unfolding_all rfl); (case qC => assumption); (case qn => walk_at "zne"); intro _ _)
        with_reducible refine ev_tests1 ?_
        ((with_reducible refine' ev_isCompare ?_ ?qs); (case qs => with_unfolding_all rfl))
        ((with_reducible refine' ev_localC ?qm ?qC ?qv ?_ ?qL ?qk ?qx ?qd); (case qL => with_unfolding_all rfl); (case qk => with_unfolding_all rfl); (case qx => with_unfolding_all rfl); (case qd => decide); (case qm => walk_at "zmem"); (case qC => assumption); (case qv => walk_at "zlk"))
        ((with_reducible refine ev_str ?_); intro _)
        with_reducible refine ev_eqS ?_
        with_reducible refine ev_truthyB ?_
        ((with_reducible refine' ite_isF (b := Str.mk #[_] == _) ?qb ?_); (case qb => exact rfl))
      rotate_left
      all_goals (refine' comp_done ?sub ?ns hne (.head _) ⟨rfl, ?_⟩; (case sub => walk_at "zsub"); (case ns => assumption); rw [take_next _ hp])
      · show AllV IntV (_ ++ []) _; rw [List.append_nil]; exact hacc
      · show AllV IntV (_ ++ []) _; rw [List.append_nil]; exact hacc
      · show AllV IntV (_ ++ []) _; rw [List.append_nil]; exact hacc
      · exact hacc.snoc hpv
      · show AllV IntV (_ ++ []) _; rw [List.append_nil]; exact hacc
    · rintro D' oD acc ν₁ _ ⟨rfl, hacc⟩ hoD hab hne hsr
      rw [hn, List.take_length] at hacc
      with_reducible refine then_ret ?_
      exact ⟨_, by walk_at "zsub", h D' oD acc hab.tail hoD hacc⟩

def fol (r : Row) (k : Nat) : List Int := (if isEnd r.name then [] else [(k : Int) + 1]) ++ r.goals
theorem goals_len {r : Row} (hs : Shaped r) : r.goals.length ≤ 5 := by
  have : ∀ l : List Part, (l.flatMap goalsP).length ≤ l.length := by
    intro l
    induction l with
    | nil => exact Nat.le_refl _
    | cons p l ih => cases p <;> simp only [List.flatMap_cons, goalsP, List.length_append, List.length_cons, List.length_nil] <;> omega
  exact Nat.le_trans (this _) (shaped_len hs)
theorem c_followers {c : Cx} {m : Loc} {ν : Led} {P : Value → Loc → Led → Prop} {R : RX} {rs : List Row} {r : Row} {vs : List Value} {t : Addr} {o : Obj} {k : Nat} {u : Tok} (hr : Room c 3) (hm : (t, o) ∈ ν) (ho : TupO o vs) (hv : RowsV ν rs vs) (hk : rs[k]? = some r) (hk1 : k < 1000) (hs : Shaped r)
    (h : ∀ D o vs, Above D ν → LstO o vs → AllV IntV (fol r k) vs → P (.ref D) m ((D, o) :: ν)) : EV c m ν (call (.ref 120) [.ref t, .int k u]) P R := by
  obtain ⟨v, hkv, hrv⟩ := hv.get hk
  have hrv0 := hrv
  obtain ⟨b, ob, tn, ps, rfl, hmb, hob, ha⟩ := hrv
  refine ev_post ?_
  refine' ev_call (n := 2) (Rb := NoX) (binds := [("rows", .ref t), ("at", .int k u)]) ?ho ?hcd hr ?hb ?hl ?hk ?hc ?h (fun _ _ _ _ _ _ x => x.elim)
  case ho => k_is
  case hcd => k_is
  case hb => exact fun s => BindsTo.of_eq rfl
  case hl => exact locs rfl
  case hk => exact rfl
  case hc => decide
  case h =>
    intro c' hr' _
    dsimp only [bnd]
    with_reducible refine ev_cons ?_
    ((with_reducible refine' ev_Assign ?_ ?qs); (case qs => with_unfolding_all rfl))
    with_reducible refine ev_IfExp ?_
    ((with_reducible refine' ev_isCompare ?_ ?qs); (case qs => with_unfolding_all rfl))
    with_reducible refine ev_Sub ?_
    with_reducible refine ev_Sub ?_
    ((with_reducible refine' ev_local ?qvz ?_ ?qL ?qk ?qx ?qd); (case qL => with_unfolding_all rfl); (case qk => with_unfolding_all rfl); (case qx => with_unfolding_all rfl); (case qd => decide); (case qvz => walk_at "zlk"))
    ((with_reducible refine' ev_local ?qvz ?_ ?qL ?qk ?qx ?qd); (case qL => with_unfolding_all rfl); (case qk => with_unfolding_all rfl); (case qx => with_unfolding_all rfl); (case qd => decide); (case qvz => walk_at "zlk"))
    ((with_reducible refine' ev_itemTK ?qm ?qo ?q1 ?qx ?_ ?qs); (case qs => with_unfolding_all rfl); (case qm => walk_at "zmem"); (case qo => walk_at "zo"); (case q1 => omega); (case qx => assumption))
    ((with_reducible refine ev_int ?_); intro _)
    ((with_reducible refine' ev_itemTN ?qm ?qo ?q0 ?q1 ?qx ?_ ?qs); (case qs => with_unfolding_all rfl); (case qm => walk_at "zmem"); (case qo => walk_at "zo"); (case q0 => decide); (case q1 => decide); (case qx => exact rfl))
    ((with_reducible refine' ev_glob ?qez ?_ ?qg ?qk ?qx ?qd); (case qg => with_unfolding_all rfl); (case qk => with_unfolding_all rfl); (case qx => with_unfolding_all rfl); (case qd => decide); (case qez => k_is))
    with_reducible refine ev_ends ?_
    with_reducible refine ev_truthyB ?_
    have gl := goals_len hs
    refine ite_B (fun hb => ?_) (fun hb => ?_)
    · with_reducible refine ev_List ?_
      with_reducible refine ev_spl0 ?_
      refine ev_newList (fun l hl => ?_) (by decide)
      ((with_reducible refine' ev_store ?_ ?qL ?qk ?qx); (case qL => with_unfolding_all rfl); (case qk => with_unfolding_all rfl); (case qx => with_unfolding_all rfl))
      with_reducible refine then_next ?_
      with_reducible refine ev_cons ?_
      with_reducible refine ev_Return ?_
      with_reducible refine ev_BinOp ?_
      ((with_reducible refine' ev_local ?qvz ?_ ?qL ?qk ?qx ?qd); (case qL => with_unfolding_all rfl); (case qk => with_unfolding_all rfl); (case qx => with_unfolding_all rfl); (case qd => decide); (case qvz => walk_at "zlk"))
      ((with_reducible refine' ev_Call ?_ ?qe); (case qe => with_unfolding_all rfl))
      ((with_reducible refine' ev_glob ?qez ?_ ?qg ?qk ?qx ?qd); (case qg => with_unfolding_all rfl); (case qk => with_unfolding_all rfl); (case qx => with_unfolding_all rfl); (case qd => decide); (case qez => k_is))
      ((with_reducible refine' ev_cwF_0 ?qk ?_ ?qe ?qp); (case qe => with_unfolding_all rfl); (case qp => with_unfolding_all rfl); (case qk => k_is))
      ((with_reducible refine' ev_spl ?_ ?qe); (case qe => with_unfolding_all rfl))
      with_reducible refine ev_Sub ?_
      ((with_reducible refine' ev_local ?qvz ?_ ?qL ?qk ?qx ?qd); (case qL => with_unfolding_all rfl); (case qk => with_unfolding_all rfl); (case qx => with_unfolding_all rfl); (case qd => decide); (case qvz => walk_at "zlk"))
      ((with_reducible refine' ev_local ?qvz ?_ ?qL ?qk ?qx ?qd); (case qL => with_unfolding_all rfl); (case qk => with_unfolding_all rfl); (case qx => with_unfolding_all rfl); (case qd => decide); (case qvz => walk_at "zlk"))
      ((with_reducible refine' ev_itemTK ?qm ?qo ?q1 ?qx ?_ ?qs); (case qs => with_unfolding_all rfl); (case qm => walk_at "zmem"); (case qo => walk_at "zo"); (case q1 => omega); (case qx => assumption))
      with_reducible refine ev_spl0 ?_
      refine c_goals_of (by walk_at "zroom") (hrv0.mono (KeepT.refl.cons _)) hs fun l2 o2 acc hl2 ho2 ha2 => ?_
      refine ev_addL (a := l) (b := l2) (.tail _ (.head _)) lstO_mk (.head _) ho2 (by rw [ha2.length]; exact Nat.le_trans (Nat.add_le_add_left gl _) (by decide)) fun D o3 hD ho3 => ?_
      with_reducible refine then_ret ?_
      exact ⟨_, by walk_at "zsub", h D o3 _ hD.tail.tail ho3 (by unfold fol; rw [hb]; exact ha2)⟩
    · with_reducible refine ev_List ?_
      ((with_reducible refine' ev_spl ?_ ?qe); (case qe => with_unfolding_all rfl))
      with_reducible refine ev_BinOp ?_
      ((with_reducible refine' ev_local ?qvz ?_ ?qL ?qk ?qx ?qd); (case qL => with_unfolding_all rfl); (case qk => with_unfolding_all rfl); (case qx => with_unfolding_all rfl); (case qd => decide); (case qvz => walk_at "zlk"))
      ((with_reducible refine ev_int ?_); intro _)
      ((with_reducible refine ev_add ?_); intro _)
      with_reducible refine ev_spl0 ?_
      refine ev_newList (fun l hl => ?_) (by simp [sizeLine])
      ((with_reducible refine' ev_store ?_ ?qL ?qk ?qx); (case qL => with_unfolding_all rfl); (case qk => with_unfolding_all rfl); (case qx => with_unfolding_all rfl))
      with_reducible refine then_next ?_
      with_reducible refine ev_cons ?_
      with_reducible refine ev_Return ?_
      with_reducible refine ev_BinOp ?_
      ((with_reducible refine' ev_local ?qvz ?_ ?qL ?qk ?qx ?qd); (case qL => with_unfolding_all rfl); (case qk => with_unfolding_all rfl); (case qx => with_unfolding_all rfl); (case qd => decide); (case qvz => walk_at "zlk"))
      ((with_reducible refine' ev_Call ?_ ?qe); (case qe => with_unfolding_all rfl))
      ((with_reducible refine' ev_glob ?qez ?_ ?qg ?qk ?qx ?qd); (case qg => with_unfolding_all rfl); (case qk => with_unfolding_all rfl); (case qx => with_unfolding_all rfl); (case qd => decide); (case qez => k_is))
      ((with_reducible refine' ev_cwF_0 ?qk ?_ ?qe ?qp); (case qe => with_unfolding_all rfl); (case qp => with_unfolding_all rfl); (case qk => k_is))
      ((with_reducible refine' ev_spl ?_ ?qe); (case qe => with_unfolding_all rfl))
      with_reducible refine ev_Sub ?_
      ((with_reducible refine' ev_local ?qvz ?_ ?qL ?qk ?qx ?qd); (case qL => with_unfolding_all rfl); (case qk => with_unfolding_all rfl); (case qx => with_unfolding_all rfl); (case qd => decide); (case qvz => walk_at "zlk"))
      ((with_reducible refine' ev_local ?qvz ?_ ?qL ?qk ?qx ?qd); (case qL => with_unfolding_all rfl); (case qk => with_unfolding_all rfl); (case qx => with_unfolding_all rfl); (case qd => decide); (case qvz => walk_at "zlk"))
      ((with_reducible refine' ev_itemTK ?qm ?qo ?q1 ?qx ?_ ?qs); (case qs => with_unfolding_all rfl); (case qm => walk_at "zmem"); (case qo => walk_at "zo"); (case q1 => omega); (case qx => assumption))
      with_reducible refine ev_spl0 ?_
      refine c_goals_of (by walk_at "zroom") (hrv0.mono (KeepT.refl.cons _)) hs fun l2 o2 acc hl2 ho2 ha2 => ?_
      refine ev_addL (a := l) (b := l2) (.tail _ (.head _)) lstO_mk (.head _) ho2 (by rw [ha2.length]; exact Nat.le_trans (Nat.add_le_add_left gl _) (by simp [sizeLine])) fun D o3 hD ho3 => ?_
      with_reducible refine then_ret ?_
      exact ⟨_, by walk_at "zsub", h D o3 _ hD.tail.tail ho3 (by unfold fol; rw [hb]; exact .cons ⟨_, rfl⟩ ha2)⟩
theorem c_depth_behind {c : Cx} {m : Loc} {ν : Led} {P : Value → Loc → Led → Prop} {R : RX} {r : Row} {v : Value} {d e : Int} {u : Tok} (hr : Room c 1) (hv : RowV ν r v) (he : (r.name = "enter" ∧ e = d + 1) ∨ (r.name ≠ "enter" ∧ r.name ≠ "leave" ∧ e = d) ∨ (r.name = "leave" ∧ ∃ n, r.parts = [.x (.one (.int n))] ∧ 1 ≤ n ∧ n ≤ d ∧ e = d - n))
    (h : ∀ t, P (.int e t) m ν) : EV c m ν (call (.ref 144) [v, .int d u]) P R := by
  obtain ⟨b, o, tn, vs, rfl, hm, ho, ha⟩ := hv
  refine' ev_call (n := 0) (Rb := NoX) (binds := [("row", .ref b), ("depth", .int d u)]) ?ho ?hcd hr ?hb ?hl ?hk ?hc ?h (fun _ _ _ _ _ _ x => x.elim)
  case ho => k_is
  case hcd => k_is
  case hb => exact fun s => BindsTo.of_eq rfl
  case hl => exact locs rfl
  case hk => exact rfl
  case hc => decide
  case h =>
    intro c' hr' _
    dsimp only [bnd]
    rcases he with ⟨hn, rfl⟩ | ⟨h1, h2, rfl⟩ | ⟨hn, n, hp, h1, h2, rfl⟩
    · with_reducible refine ev_cons ?_
      with_reducible refine ev_If ?_
      ((with_reducible refine' ev_isCompare ?_ ?qs); (case qs => with_unfolding_all rfl))
      with_reducible refine ev_Sub ?_
      ((with_reducible refine' ev_local ?qvz ?_ ?qL ?qk ?qx ?qd); (case qL => with_unfolding_all rfl); (case qk => with_unfolding_all rfl); (case qx => with_unfolding_all rfl); (case qd => decide); (case qvz => walk_at "zlk"))
      ((with_reducible refine ev_int ?_); intro _)
      ((with_reducible refine' ev_itemTN ?qm ?qo ?q0 ?q1 ?qx ?_ ?qs); (case qs => with_unfolding_all rfl); (case qm => walk_at "zmem"); (case qo => walk_at "zo"); (case q0 => decide); (case q1 => decide); (case qx => exact rfl))
      ((with_reducible refine ev_str ?_); intro _)
      with_reducible refine ev_eqS ?_
      with_reducible refine ev_truthyB ?_
      refine ite_isT (by rw [hn]; rfl) ?_
      with_reducible refine ev_cons ?_
      with_reducible refine ev_Return ?_
      with_reducible refine ev_BinOp ?_
      ((with_reducible refine' ev_local ?qvz ?_ ?qL ?qk ?qx ?qd); (case qL => with_unfolding_all rfl); (case qk => with_unfolding_all rfl); (case qx => with_unfolding_all rfl); (case qd => decide); (case qvz => walk_at "zlk"))
      ((with_reducible refine ev_int ?_); intro _)
      ((with_reducible refine ev_add ?_); intro _)
      with_reducible refine then_ret ?_
      with_reducible refine then_ret ?_
      exact h _
    · with_reducible refine ev_cons ?_
      with_reducible refine ev_If ?_
      ((with_reducible refine' ev_isCompare ?_ ?qs); (case qs => with_unfolding_all rfl))
      with_reducible refine ev_Sub ?_
      ((with_reducible refine' ev_local ?qvz ?_ ?qL ?qk ?qx ?qd); (case qL => with_unfolding_all rfl); (case qk => with_unfolding_all rfl); (case qx => with_unfolding_all rfl); (case qd => decide); (case qvz => walk_at "zlk"))
      ((with_reducible refine ev_int ?_); intro _)
      ((with_reducible refine' ev_itemTN ?qm ?qo ?q0 ?q1 ?qx ?_ ?qs); (case qs => with_unfolding_all rfl); (case qm => walk_at "zmem"); (case qo => walk_at "zo"); (case q0 => decide); (case q1 => decide); (case qx => exact rfl))
      ((with_reducible refine ev_str ?_); intro _)
      with_reducible refine ev_eqS ?_
      with_reducible refine ev_truthyB ?_
      refine ite_isF (by simpa using h1) ?_
      with_reducible refine ev_nil ?_
      with_reducible refine then_next ?_
      with_reducible refine ev_cons ?_
      with_reducible refine ev_If ?_
      ((with_reducible refine' ev_isCompare ?_ ?qs); (case qs => with_unfolding_all rfl))
      with_reducible refine ev_Sub ?_
      ((with_reducible refine' ev_local ?qvz ?_ ?qL ?qk ?qx ?qd); (case qL => with_unfolding_all rfl); (case qk => with_unfolding_all rfl); (case qx => with_unfolding_all rfl); (case qd => decide); (case qvz => walk_at "zlk"))
      ((with_reducible refine ev_int ?_); intro _)
      ((with_reducible refine' ev_itemTN ?qm ?qo ?q0 ?q1 ?qx ?_ ?qs); (case qs => with_unfolding_all rfl); (case qm => walk_at "zmem"); (case qo => walk_at "zo"); (case q0 => decide); (case q1 => decide); (case qx => exact rfl))
      ((with_reducible refine ev_str ?_); intro _)
      with_reducible refine ev_neS ?_
      with_reducible refine ev_truthyB ?_
      refine ite_isT (by simpa using h2) ?_
      with_reducible refine ev_cons ?_
      with_reducible refine ev_Return ?_
      ((with_reducible refine' ev_local ?qvz ?_ ?qL ?qk ?qx ?qd); (case qL => with_unfolding_all rfl); (case qk => with_unfolding_all rfl); (case qx => with_unfolding_all rfl); (case qd => decide); (case qvz => walk_at "zlk"))
      with_reducible refine then_ret ?_
      with_reducible refine then_ret ?_
      exact h _
    · with_reducible refine ev_cons ?_
      with_reducible refine ev_If ?_
      ((with_reducible refine' ev_isCompare ?_ ?qs); (case qs => with_unfolding_all rfl))
      with_reducible refine ev_Sub ?_
      ((with_reducible refine' ev_local ?qvz ?_ ?qL ?qk ?qx ?qd); (case qL => with_unfolding_all rfl); (case qk => with_unfolding_all rfl); (case qx => with_unfolding_all rfl); (case qd => decide); (case qvz => walk_at "zlk"))
      ((with_reducible refine ev_int ?_); intro _)
      ((with_reducible refine' ev_itemTN ?qm ?qo ?q0 ?q1 ?qx ?_ ?qs); (case qs => with_unfolding_all rfl); (case qm => walk_at "zmem"); (case qo => walk_at "zo"); (case q0 => decide); (case q1 => decide); (case qx => exact rfl))
      ((with_reducible refine ev_str ?_); intro _)
      with_reducible refine ev_eqS ?_
      with_reducible refine ev_truthyB ?_
      refine ite_isF (by rw [hn]; rfl) ?_
      with_reducible refine ev_nil ?_
      with_reducible refine then_next ?_
      with_reducible refine ev_cons ?_
      with_reducible refine ev_If ?_
      ((with_reducible refine' ev_isCompare ?_ ?qs); (case qs => with_unfolding_all rfl))
      with_reducible refine ev_Sub ?_
      ((with_reducible refine' ev_local ?qvz ?_ ?qL ?qk ?qx ?qd); (case qL => with_unfolding_all rfl); (case qk => with_unfolding_all rfl); (case qx => with_unfolding_all rfl); (case qd => decide); (case qvz => walk_at "zlk"))
      ((with_reducible refine ev_int ?_); intro _)
      ((with_reducible refine' ev_itemTN ?qm ?qo ?q0 ?q1 ?qx ?_ ?qs); (case qs => with_unfolding_all rfl); (case qm => walk_at "zmem"); (case qo => walk_at "zo"); (case q0 => decide); (case q1 => decide); (case qx => exact rfl))
      ((with_reducible refine ev_str ?_); intro _)
      with_reducible refine ev_neS ?_
      with_reducible refine ev_truthyB ?_
      refine ite_isF (by rw [hn]; rfl) ?_
      rw [hp] at ha
      cases ha with
      | cons x xs =>
        obtain ⟨t1, rfl⟩ := x
        with_reducible refine ev_nil ?_
        with_reducible refine then_next ?_
        with_reducible refine ev_cons ?_
        with_reducible refine ev_If ?_
        with_reducible refine ev_isOr ?_
        ((with_reducible refine' ev_isCompare ?_ ?qs); (case qs => with_unfolding_all rfl))
        with_reducible refine ev_Sub ?_
        ((with_reducible refine' ev_local ?qvz ?_ ?qL ?qk ?qx ?qd); (case qL => with_unfolding_all rfl); (case qk => with_unfolding_all rfl); (case qx => with_unfolding_all rfl); (case qd => decide); (case qvz => walk_at "zlk"))
        ((with_reducible refine ev_int ?_); intro _)
        ((with_reducible refine' ev_itemTN ?qm ?qo ?q0 ?q1 ?qx ?_ ?qs); (case qs => with_unfolding_all rfl); (case qm => walk_at "zmem"); (case qo => walk_at "zo"); (case q0 => decide); (case q1 => decide); (case qx => exact rfl))
        ((with_reducible refine ev_int ?_); intro _)
        with_reducible refine ev_lt ?_
        with_reducible refine ev_truthyB ?_
        refine ite_isF (by simpa using h1) ?_
        with_reducible refine ev_isOr ?_
        ((with_reducible refine' ev_isCompare ?_ ?qs); (case qs => with_unfolding_all rfl))
        with_reducible refine ev_Sub ?_
        ((with_reducible refine' ev_local ?qvz ?_ ?qL ?qk ?qx ?qd); (case qL => with_unfolding_all rfl); (case qk => with_unfolding_all rfl); (case qx => with_unfolding_all rfl); (case qd => decide); (case qvz => walk_at "zlk"))
        ((with_reducible refine ev_int ?_); intro _)
        ((with_reducible refine' ev_itemTN ?qm ?qo ?q0 ?q1 ?qx ?_ ?qs); (case qs => with_unfolding_all rfl); (case qm => walk_at "zmem"); (case qo => walk_at "zo"); (case q0 => decide); (case q1 => decide); (case qx => exact rfl))
        ((with_reducible refine' ev_local ?qvz ?_ ?qL ?qk ?qx ?qd); (case qL => with_unfolding_all rfl); (case qk => with_unfolding_all rfl); (case qx => with_unfolding_all rfl); (case qd => decide); (case qvz => walk_at "zlk"))
        with_reducible refine ev_gt ?_
        with_reducible refine ev_truthyB ?_
        refine ite_isF (by simpa using h2) ?_
        with_reducible refine ev_isOr0 ?_
        with_reducible refine ite_F ?_
        with_reducible refine ev_nil ?_
        with_reducible refine then_next ?_
        with_reducible refine ev_cons ?_
        with_reducible refine ev_Return ?_
        with_reducible refine ev_BinOp ?_
        ((with_reducible refine' ev_local ?qvz ?_ ?qL ?qk ?qx ?qd); (case qL => with_unfolding_all rfl); (case qk => with_unfolding_all rfl); (case qx => with_unfolding_all rfl); (case qd => decide); (case qvz => walk_at "zlk"))
        with_reducible refine ev_Sub ?_
        ((with_reducible refine' ev_local ?qvz ?_ ?qL ?qk ?qx ?qd); (case qL => with_unfolding_all rfl); (case qk => with_unfolding_all rfl); (case qx => with_unfolding_all rfl); (case qd => decide); (case qvz => walk_at "zlk"))
        ((with_reducible refine ev_int ?_); intro _)
        ((with_reducible refine' ev_itemTN ?qm ?qo ?q0 ?q1 ?qx ?_ ?qs); (case qs => with_unfolding_all rfl); (case qm => walk_at "zmem"); (case qo => walk_at "zo"); (case q0 => decide); (case q1 => decide); (case qx => exact rfl))
        ((with_reducible refine ev_sub' ?_); intro _)
        with_reducible refine then_ret ?_
        exact h _

def turnP (F G : Int → Int) : Part → Part
  | .d n => .d (F n)
  | .s n => .s (F n)
  | .m l => .m (l.map F)
  | .g n => .g (G n)
  | .x p => .x p
def Row.turn (F G : Int → Int) (r : Row) : Row := ⟨r.name, r.parts.map (turnP F G)⟩
theorem at_ints {l : List Int} {vs : List Value} (h : AllV IntV l vs) : AllV AtV (l.map .int) vs := by
  induction l generalizing vs with
  | nil => cases h; exact .nil
  | cons n l ih =>
    cases h with
    | cons x r => exact .cons x (ih r)
theorem c_turned_row {c : Cx} {m : Loc} {ν : Led} {P : Value → Loc → Led → Prop} {R : RX} {r : Row} {v : Value} {f g : Addr} {F G : Int → Int} (hr : Room c 3) (hv : RowV ν r v) (hs : Shaped r) (hm5 : ∀ l, Part.m l ∈ r.parts → l.length ≤ 1000) (hf : Callee ν f F) (hg : Callee ν g G)
    (h : ∀ v δ, (∀ p ∈ δ, Above p.1 ν) → RowV (δ ++ ν) (r.turn F G) v → P v m (δ ++ ν)) : EV c m ν (call (.ref 113) [v, .ref f, .ref g]) P R := by
  have hv0 := hv
  obtain ⟨b, o, tn, vs, rfl, hm, ho, ha⟩ := hv
  have hn := ha.length
  have h5 := shaped_len hs
  refine ev_post ?_
  refine' ev_callC (n := 2) (Rb := NoX) (binds := [("row", .ref b), ("register", .ref f), ("goal", .ref g)]) (m₀ := bnd noLoc [("row", .ref b), ("goal", .ref g)]) (cs := fun L => [("register", L + 1)]) (cm := bnd noLoc [("register", .ref f)]) ?ho ?hcd hr ?hb ?hkd ?hnd ?hm ?hcm ?hcs ?hck ?h (fun _ _ _ _ _ _ x => x.elim)
  case ho => k_is
  case hcd => k_is
  case hb => exact fun s => BindsTo.of_eq rfl
  case hkd => exact rfl
  case hnd => decide
  case hm => exact fun _ => rfl
  case hcm => exact fun _ => rfl
  case hcs => exact fun _ => rfl
  case hck => exact rfl
  case h =>
    intro c' cells hr' _ hY lt
    obtain ⟨oc, rfl, hoc⟩ := hY.one
    replace hoc : oc.data = .cell (some (.ref f)) := by rw [hoc]; rfl
    have hcc : Above (c'.L + 1) ν := fun p hp => Nat.lt_succ_of_lt (lt p hp)
    obtain ⟨of, hfm, hfo⟩ := hf.fn
    obtain ⟨og, hgm, hgo⟩ := hg.fn
    dsimp only [bnd]
    rw [List.singleton_append]
    with_reducible refine ev_cons ?_
    ((with_reducible refine' ev_Assign ?_ ?qs); (case qs => with_unfolding_all rfl))
    with_reducible refine ev_List ?_
    ((with_reducible refine' ev_spl ?_ ?qe); (case qe => with_unfolding_all rfl))
    with_reducible refine ev_Sub ?_
    ((with_reducible refine' ev_local ?qvz ?_ ?qL ?qk ?qx ?qd); (case qL => with_unfolding_all rfl); (case qk => with_unfolding_all rfl); (case qx => with_unfolding_all rfl); (case qd => decide); (case qvz => walk_at "zlk"))
    ((with_reducible refine ev_int ?_); intro _)
    ((with_reducible refine' ev_itemTN ?qm ?qo ?q0 ?q1 ?qx ?_ ?qs); (case qs => with_unfolding_all rfl); (case qm => walk_at "zmem"); (case qo => walk_at "zo"); (case q0 => decide); (case q1 => decide); (case qx => exact rfl))
    with_reducible refine ev_spl0 ?_
    refine ev_newList (fun l hl => ?_) (by simp [sizeLine])
    ((with_reducible refine' ev_store ?_ ?qL ?qk ?qx); (case qL => with_unfolding_all rfl); (case qk => with_unfolding_all rfl); (case qx => with_unfolding_all rfl))
    with_reducible refine then_next ?_
    with_reducible refine ev_cons ?_
    refine ev_For ?_ outNoX (Rb := NoX) (hs := fun _ => rfl)
    ((with_reducible refine' ev_Call ?_ ?qe); (case qe => with_unfolding_all rfl))
    ((with_reducible refine' ev_bltn ?qez ?qv ?_ ?qn ?qg ?qb ?qk ?qx ?qd); (case qg => with_unfolding_all rfl); (case qb => with_unfolding_all rfl); (case qk => with_unfolding_all rfl); (case qx => with_unfolding_all rfl); (case qd => decide); (case qn => decide); (case qez => k_is); (case qv => first | boot_fast | boot_by_name))
    ((with_reducible refine' ev_cwT_0 ?_ ?qe ?qp); (case qe => with_unfolding_all rfl); (case qp => with_unfolding_all rfl))
    ((with_reducible refine' ev_spl ?_ ?qe); (case qe => with_unfolding_all rfl))
    ((with_reducible refine' ev_Call ?_ ?qe); (case qe => with_unfolding_all rfl))
    ((with_reducible refine' ev_glob ?qez ?_ ?qg ?qk ?qx ?qd); (case qg => with_unfolding_all rfl); (case qk => with_unfolding_all rfl); (case qx => with_unfolding_all rfl); (case qd => decide); (case qez => k_is))
    ((with_reducible refine' ev_cwF_0 ?qk ?_ ?qe ?qp); (case qe => with_unfolding_all rfl); (case qp => with_unfolding_all rfl); (case qk => k_is))
    ((with_reducible refine' ev_spl ?_ ?qe); (case qe => with_unfolding_all rfl))
    ((with_reducible refine' ev_local ?qvz ?_ ?qL ?qk ?qx ?qd); (case qL => with_unfolding_all rfl); (case qk => with_unfolding_all rfl); (case qx => with_unfolding_all rfl); (case qd => decide); (case qvz => walk_at "zlk"))
    with_reducible refine ev_spl0 ?_
    refine c_shape_of (by walk_at "zroom") (hv0.mono (KeepT.of (by walk_at "zsub"))) hs fun _ => ?_
    ((with_reducible refine' ev_spl ?_ ?qe); (case qe => with_unfolding_all rfl))
    ((with_reducible refine' ev_FromA ?_ ?qs); (case qs => intro _ _; with_unfolding_all rfl))
    ((with_reducible refine' ev_local ?qvz ?_ ?qL ?qk ?qx ?qd); (case qL => with_unfolding_all rfl); (case qk => with_unfolding_all rfl); (case qx => with_unfolding_all rfl); (case qd => decide); (case qvz => walk_at "zlk"))
    ((with_reducible refine ev_int ?_); intro _)
    refine ⟨b, o, _, 1, _, rfl, rfl, by walk_at "zmem", ho, by decide, by simp only [List.length_cons]; omega, by simp only [List.length_cons]; omega, fun D hD => ?_⟩
    with_reducible refine ev_spl0 ?_
    refine ev_zip (vs := vs) (letters_ascii r) (.head _) ⟨0, rfl⟩ fun z TI TO i1 i2 zb Z hzb hup => ?_
    have hT : TupO (tupO (List.drop 1 (Value.str r.name tn :: vs))) vs := ⟨0, rfl⟩
    have hsz : r.letters.cps.size = vs.length := (Row.letters_len r).trans hn.symm
    refine zself Z hT hsz hzb (by walk_at "zbase") ?_
    have hDl : D ≠ l := gtN hD.head
    have hll : @LT.lt Nat _ (c'.L + 1) l := hl.head
    have hlz : ∀ a, zOwn z TI TO i1 i2 a → @LT.lt Nat _ D a := fun a ha' => (hup a ha').head
    refine ev_forI (yldZ Z hT hsz) (fun k m₁ ν₁ => ∃ o1 acc δ, ν₁ = (D, tupO (List.drop 1 (Value.str r.name tn :: vs))) :: (l, o1) :: (δ ++ ((c'.L + 1, oc) :: ν)) ∧ LstO o1 (.str r.name tn :: acc) ∧ AllV (PartV (δ ++ ν)) ((r.parts.take k).map (turnP F G)) acc ∧ (∀ p ∈ δ, @LT.lt Nat _ D p.1 ∧ ∀ a, zOwn z TI TO i1 i2 a → @LT.lt Nat _ a p.1) ∧ m₁ "found" = some (.ref l) ∧ m₁ "goal" = some (.ref g)) (ν₀ := (D, tupO (List.drop 1 (Value.str r.name tn :: vs))) :: (l, lstO [.str r.name tn]) :: (c'.L + 1, oc) :: ν) hzb (fun p hp ho => Nat.lt_irrefl _ (hup _ ho p hp)) (.head _) ⟨_, [], [], rfl, lstO_mk, .nil, (fun _ h => nomatch h), by walk_at "zlk", by walk_at "zlk"⟩ (fun _ h => h) ?_ ?_
    · rintro k m₁ ν₁ v δ1 b' hk ⟨o1, acc, δ, rfl, ho1, hacc, hδ, hmf, hmg⟩ hcl hsr hit hδ1 hB'
      obtain ⟨T, p, y, w, hp, hpv, rfl, rfl⟩ := zrow_item rfl hit ha
      have hbl : ∀ p ∈ b', p.1 ≠ l := fun p hp => gtN (Nat.lt_trans hD.head (hlz _ (zB_own hB' p hp)))
      have hdl : ∀ p ∈ δ, p.1 ≠ l := fun p hp => gtN (Nat.lt_trans hD.head (hδ p hp).1)
      have hnl : ∀ p ∈ (c'.L + 1, oc) :: ν, p.1 ≠ l := hl.ne
      have hk5 : (Value.str r.name tn :: acc).length ≤ sizeLine := by
        rw [List.length_cons, hacc.length, List.length_map, List.length_take]
        exact Nat.le_trans (Nat.succ_le_succ (Nat.le_trans (Nat.min_le_right _ _) h5)) (by decide)
      have clean : ∀ o' δ', (∀ p ∈ δ', @LT.lt Nat _ D p.1 ∧ ∀ a, zOwn z TI TO i1 i2 a → @LT.lt Nat _ a p.1) → ∀ p ∈ (D, tupO (List.drop 1 (Value.str r.name tn :: vs))) :: (l, o') :: (δ' ++ ((c'.L + 1, oc) :: ν)), ¬ zOwn z TI TO i1 i2 p.1 := by
        intro o' δ' hδ' p hp hz
        rcases hp with _ | ⟨_, _ | ⟨_, hp⟩⟩
        · exact Nat.lt_irrefl _ (hlz _ hz)
        · exact Nat.lt_irrefl _ (Nat.lt_trans hD.head (hlz _ hz))
        · rcases List.mem_append.mp hp with hp | hp
          · exact Nat.lt_irrefl _ ((hδ' p hp).2 _ hz)
          · exact Nat.lt_irrefl _ ((hup _ hz) p (.tail _ (.tail _ hp)))
      have nextI : ∀ {P' : Part} {q : Part} {y' : Value} {δ' : Led}, r.parts[k]? = some q → P' = turnP F G q → PartV (δ' ++ ν) P' y' → (∀ p ∈ δ, p ∈ δ') → AllV (PartV (δ' ++ ν)) ((r.parts.take (k + 1)).map (turnP F G)) (acc ++ [y']) := by
        intro P' q y' δ' hq hP' hy hsub
        rw [List.take_add_one, hq, List.map_append]
        subst hP'
        exact (hacc.mono fun _ _ x => x.mono (KeepT.of (sub_app (fun p hp => List.mem_append_left _ (hsub p hp)) fun p hp => List.mem_append_right _ hp))).snoc hy
      rcases p with n | n | li | n | x
      · obtain ⟨ty, rfl⟩ := hpv
        ((with_reducible refine' ev_assignT2 ?qm ?qo ?_); (case qm => walk_at "zmem"); (case qo => walk_at "zo"))
        ((with_reducible refine' ev_store ?_ ?qL ?qk ?qx); (case qL => with_unfolding_all rfl); (case qk => with_unfolding_all rfl); (case qx => with_unfolding_all rfl))
        ((with_reducible refine' ev_store ?_ ?qL ?qk ?qx); (case qL => with_unfolding_all rfl); (case qk => with_unfolding_all rfl); (case qx => with_unfolding_all rfl))
        with_reducible refine ev_cons ?_
        with_reducible refine ev_If ?_
        ((with_reducible refine' ev_isCompare ?_ ?qs); (case qs => with_unfolding_all rfl))
        ((with_reducible refine' ev_local ?qvz ?_ ?qL ?qk ?qx ?qd); (case qL => with_unfolding_all rfl); (case qk => with_unfolding_all rfl); (case qx => with_unfolding_all rfl); (case qd => decide); (case qvz => walk_at "zlk"))
        ((with_reducible refine ev_str ?_); intro _)
        with_reducible refine ev_inDS ?_
        with_reducible refine ev_truthyB ?_
        ((with_reducible refine' ite_isT (b := isDS _) ?qb ?_); (case qb => exact rfl))
        with_reducible refine ev_cons ?_
        ((with_reducible refine' ev_ExprAny ?_ ?qi ?qs); (case qi => with_unfolding_all rfl); (case qs => with_unfolding_all rfl))
        ((with_reducible refine' ev_CallM ?_ ?qe); (case qe => with_unfolding_all rfl))
        ((with_reducible refine' ev_local ?qvz ?_ ?qL ?qk ?qx ?qd); (case qL => with_unfolding_all rfl); (case qk => with_unfolding_all rfl); (case qx => with_unfolding_all rfl); (case qd => decide); (case qvz => walk_at "zlk"))
        ((with_reducible refine' ev_getAppend ?qm ?qo ?_); (case qm => walk_at "zmem"); (case qo => walk_at "zo"))
        ((with_reducible refine' ev_cwB_1 ?_ ?qe ?qp); (case qe => with_unfolding_all rfl); (case qp => with_unfolding_all rfl))
        ((with_reducible refine' ev_spl ?_ ?qe); (case qe => with_unfolding_all rfl))
        ((with_reducible refine' ev_Call ?_ ?qe); (case qe => with_unfolding_all rfl))
        ((with_reducible refine' ev_cell ?qc ?qm ?qo ?_ ?qk ?qx ?qd); (case qk => with_unfolding_all rfl); (case qx => with_unfolding_all rfl); (case qd => decide); (case qc => with_unfolding_all rfl); (case qm => walk_at "zmem"); (case qo => assumption))
        ((with_reducible refine' ev_cwFn ?qf ?qd ?_ ?qe ?qp); (case qe => with_unfolding_all rfl); (case qp => with_unfolding_all rfl); (case qf => walk_at "zmem"); (case qd => assumption))
        ((with_reducible refine' ev_spl ?_ ?qe); (case qe => with_unfolding_all rfl))
        ((with_reducible refine' ev_local ?qvz ?_ ?qL ?qk ?qx ?qd); (case qL => with_unfolding_all rfl); (case qk => with_unfolding_all rfl); (case qx => with_unfolding_all rfl); (case qd => decide); (case qvz => walk_at "zlk"))
        with_reducible refine ev_spl0 ?_
        refine ⟨by walk_at "zmem", hf.call _ _ _ _ _ _ _ (by walk_at "zroom") (by walk_at "zsub") fun t2 => ?_⟩
        with_reducible refine ev_spl0 ?_
        refine ev_append (ν₁ := b' ++ ((D, tupO (List.drop 1 (Value.str r.name tn :: vs))) :: (δ ++ ((c'.L + 1, oc) :: ν)))) ho1 (by walk_at "zsub") (ne_app hbl (ne_cons hDl (ne_app hdl hnl))) hk5 fun o' ho' => ?_
        with_reducible refine then_next ?_
        with_reducible refine ev_nil ?_
        with_reducible refine then_next ?_
        with_reducible refine ev_nil ?_
        exact ⟨_, by walk_at "zsub", clean o' δ hδ, .head _, o', _, δ, rfl, ho', nextI hp rfl ⟨_, rfl⟩ (fun _ h => h), hδ, by walk_at "zlk", by walk_at "zlk"⟩
      · obtain ⟨ty, rfl⟩ := hpv
        ((with_reducible refine' ev_assignT2 ?qm ?qo ?_); (case qm => walk_at "zmem"); (case qo => walk_at "zo"))
        ((with_reducible refine' ev_store ?_ ?qL ?qk ?qx); (case qL => with_unfolding_all rfl); (case qk => with_unfolding_all rfl); (case qx => with_unfolding_all rfl))
        ((with_reducible refine' ev_store ?_ ?qL ?qk ?qx); (case qL => with_unfolding_all rfl); (case qk => with_unfolding_all rfl); (case qx => with_unfolding_all rfl))
        with_reducible refine ev_cons ?_
        with_reducible refine ev_If ?_
        ((with_reducible refine' ev_isCompare ?_ ?qs); (case qs => with_unfolding_all rfl))
        ((with_reducible refine' ev_local ?qvz ?_ ?qL ?qk ?qx ?qd); (case qL => with_unfolding_all rfl); (case qk => with_unfolding_all rfl); (case qx => with_unfolding_all rfl); (case qd => decide); (case qvz => walk_at "zlk"))
        ((with_reducible refine ev_str ?_); intro _)
        with_reducible refine ev_inDS ?_
        with_reducible refine ev_truthyB ?_
        ((with_reducible refine' ite_isT (b := isDS _) ?qb ?_); (case qb => exact rfl))
        with_reducible refine ev_cons ?_
        ((with_reducible refine' ev_ExprAny ?_ ?qi ?qs); (case qi => with_unfolding_all rfl); (case qs => with_unfolding_all rfl))
        ((with_reducible refine' ev_CallM ?_ ?qe); (case qe => with_unfolding_all rfl))
        ((with_reducible refine' ev_local ?qvz ?_ ?qL ?qk ?qx ?qd); (case qL => with_unfolding_all rfl); (case qk => with_unfolding_all rfl); (case qx => with_unfolding_all rfl); (case qd => decide); (case qvz => walk_at "zlk"))
        ((with_reducible refine' ev_getAppend ?qm ?qo ?_); (case qm => walk_at "zmem"); (case qo => walk_at "zo"))
        ((with_reducible refine' ev_cwB_1 ?_ ?qe ?qp); (case qe => with_unfolding_all rfl); (case qp => with_unfolding_all rfl))
        ((with_reducible refine' ev_spl ?_ ?qe); (case qe => with_unfolding_all rfl))
        ((with_reducible refine' ev_Call ?_ ?qe); (case qe => with_unfolding_all rfl))
        ((with_reducible refine' ev_cell ?qc ?qm ?qo ?_ ?qk ?qx ?qd); (case qk => with_unfolding_all rfl); (case qx => with_unfolding_all rfl); (case qd => decide); (case qc => with_unfolding_all rfl); (case qm => walk_at "zmem"); (case qo => assumption))
        ((with_reducible refine' ev_cwFn ?qf ?qd ?_ ?qe ?qp); (case qe => with_unfolding_all rfl); (case qp => with_unfolding_all rfl); (case qf => walk_at "zmem"); (case qd => assumption))
        ((with_reducible refine' ev_spl ?_ ?qe); (case qe => with_unfolding_all rfl))
        ((with_reducible refine' ev_local ?qvz ?_ ?qL ?qk ?qx ?qd); (case qL => with_unfolding_all rfl); (case qk => with_unfolding_all rfl); (case qx => with_unfolding_all rfl); (case qd => decide); (case qvz => walk_at "zlk"))
        with_reducible refine ev_spl0 ?_
        refine ⟨by walk_at "zmem", hf.call _ _ _ _ _ _ _ (by walk_at "zroom") (by walk_at "zsub") fun t2 => ?_⟩
        with_reducible refine ev_spl0 ?_
        refine ev_append (ν₁ := b' ++ ((D, tupO (List.drop 1 (Value.str r.name tn :: vs))) :: (δ ++ ((c'.L + 1, oc) :: ν)))) ho1 (by walk_at "zsub") (ne_app hbl (ne_cons hDl (ne_app hdl hnl))) hk5 fun o' ho' => ?_
        with_reducible refine then_next ?_
        with_reducible refine ev_nil ?_
        with_reducible refine then_next ?_
        with_reducible refine ev_nil ?_
        exact ⟨_, by walk_at "zsub", clean o' δ hδ, .head _, o', _, δ, rfl, ho', nextI hp rfl ⟨_, rfl⟩ (fun _ h => h), hδ, by walk_at "zlk", by walk_at "zlk"⟩
      · obtain ⟨b2, o2, vs2, rfl, hm2, ho2, hv2⟩ := hpv
        have hi2 := ints_at hv2
        have hl2 : vs2.length ≤ 1000 := by rw [hi2.length]; exact hm5 li (List.mem_of_getElem? hp)
        ((with_reducible refine' ev_assignT2 ?qm ?qo ?_); (case qm => walk_at "zmem"); (case qo => walk_at "zo"))
        ((with_reducible refine' ev_store ?_ ?qL ?qk ?qx); (case qL => with_unfolding_all rfl); (case qk => with_unfolding_all rfl); (case qx => with_unfolding_all rfl))
        ((with_reducible refine' ev_store ?_ ?qL ?qk ?qx); (case qL => with_unfolding_all rfl); (case qk => with_unfolding_all rfl); (case qx => with_unfolding_all rfl))
        with_reducible refine ev_cons ?_
        with_reducible refine ev_If ?_
        ((with_reducible refine' ev_isCompare ?_ ?qs); (case qs => with_unfolding_all rfl))
        ((with_reducible refine' ev_local ?qvz ?_ ?qL ?qk ?qx ?qd); (case qL => with_unfolding_all rfl); (case qk => with_unfolding_all rfl); (case qx => with_unfolding_all rfl); (case qd => decide); (case qvz => walk_at "zlk"))
        ((with_reducible refine ev_str ?_); intro _)
        with_reducible refine ev_inDS ?_
        with_reducible refine ev_truthyB ?_
        ((with_reducible refine' ite_isF (b := isDS _) ?qb ?_); (case qb => exact rfl))
        with_reducible refine ev_cons ?_
        with_reducible refine ev_If ?_
        ((with_reducible refine' ev_isCompare ?_ ?qs); (case qs => with_unfolding_all rfl))
        ((with_reducible refine' ev_local ?qvz ?_ ?qL ?qk ?qx ?qd); (case qL => with_unfolding_all rfl); (case qk => with_unfolding_all rfl); (case qx => with_unfolding_all rfl); (case qd => decide); (case qvz => walk_at "zlk"))
        ((with_reducible refine ev_str ?_); intro _)
        with_reducible refine ev_eqS ?_
        with_reducible refine ev_truthyB ?_
        ((with_reducible refine' ite_isT (b := Str.mk #[_] == _) ?qb ?_); (case qb => exact rfl))
        with_reducible refine ev_cons ?_
        ((with_reducible refine' ev_ExprAny ?_ ?qi ?qs); (case qi => with_unfolding_all rfl); (case qs => with_unfolding_all rfl))
        ((with_reducible refine' ev_CallM ?_ ?qe); (case qe => with_unfolding_all rfl))
        ((with_reducible refine' ev_local ?qvz ?_ ?qL ?qk ?qx ?qd); (case qL => with_unfolding_all rfl); (case qk => with_unfolding_all rfl); (case qx => with_unfolding_all rfl); (case qd => decide); (case qvz => walk_at "zlk"))
        ((with_reducible refine' ev_getAppend ?qm ?qo ?_); (case qm => walk_at "zmem"); (case qo => walk_at "zo"))
        ((with_reducible refine' ev_cwB_1 ?_ ?qe ?qp); (case qe => with_unfolding_all rfl); (case qp => with_unfolding_all rfl))
        ((with_reducible refine' ev_spl ?_ ?qe); (case qe => with_unfolding_all rfl))
        ((with_reducible refine' ev_Call ?_ ?qe); (case qe => with_unfolding_all rfl))
        ((with_reducible refine' ev_bltn ?qez ?qv ?_ ?qn ?qg ?qb ?qk ?qx ?qd); (case qg => with_unfolding_all rfl); (case qb => with_unfolding_all rfl); (case qk => with_unfolding_all rfl); (case qx => with_unfolding_all rfl); (case qd => decide); (case qn => decide); (case qez => k_is); (case qv => first | boot_fast | boot_by_name))
        ((with_reducible refine' ev_cwT_0 ?_ ?qe ?qp); (case qe => with_unfolding_all rfl); (case qp => with_unfolding_all rfl))
        ((with_reducible refine' ev_spl ?_ ?qe); (case qe => with_unfolding_all rfl))
        refine' ev_ListComp (cl := [("register", c'.L + 1)]) (Rb := NoX) ?_ outCompNoX ?h1 ?h2 ?h3 ?h4 ?h5
        case h1 => with_unfolding_all rfl
        case h2 => decide
        case h3 => rfl
        case h4 => decide
        case h5 => exact fun _ => rfl
        ((with_reducible refine' ev_local ?qvz ?_ ?qL ?qk ?qx ?qd); (case qL => with_unfolding_all rfl); (case qk => with_unfolding_all rfl); (case qx => with_unfolding_all rfl); (case qd => decide); (case qvz => walk_at "zlk"))
        refine ev_iterT (l := b2) (by walk_at "zmem") ho2 fun it oi hit2 hoi => ?_
        refine ev_compI (yldT ho2) (Nat.le_trans hl2 (by decide)) (fun k acc2 ν₂ => ν₂ = b' ++ ([(T, tupO [Value.str ⟨#[(Part.m li).letter]⟩ w, Value.ref b2])] ++ ((D, tupO (List.drop 1 (Value.str r.name tn :: vs))) :: (l, o1) :: (δ ++ ((c'.L + 1, oc) :: ν)))) ∧ AllV IntV ((li.take k).map F) acc2) ⟨oi, rfl, hoi⟩ (fun p hp => ltN' (hit2 p hp)) (by walk_at "zmem") ⟨rfl, .nil⟩ (fun _ h => h) (fun a ha => ⟨_, .head _, ha.symm⟩) (fun k b hb p hp => by obtain ⟨oi', rfl, _⟩ := hb; cases hp with | head => rfl | tail _ h => cases h) (fun L q h => .tail _ h) ?_ ?_
        · rintro k2 acc2 ν₂ v2 δ2 b3 C oC mC D2 oD2 hk2 hal2 ⟨rfl, hacc2⟩ hne2 hsr2 ⟨hx2, rfl⟩ hδ2 hB2 hNs hoD2 hab2 hDC hbCD hneC
          obtain ⟨n2, hn2, t2, rfl⟩ := hi2.at hx2
          with_reducible refine ev_assignName ?_
          ((with_reducible refine' ev_storeC ?qC (fun _ h => h) ?qn ?_ ?qL ?qk ?qx); (case qL => with_unfolding_all rfl); (case qk => with_unfolding_all rfl); (case qx => with_unfolding_all rfl); (case qC => assumption); (case qn => walk_at "zne"); intro _ _)
          with_reducible refine ev_tests0 ?_
          with_reducible refine ite_T ?_
          ((with_reducible refine' ev_Call ?_ ?qe); (case qe => with_unfolding_all rfl))
          ((with_reducible refine' ev_cell ?qc ?qm ?qo ?_ ?qk ?qx ?qd); (case qk => with_unfolding_all rfl); (case qx => with_unfolding_all rfl); (case qd => decide); (case qc => with_unfolding_all rfl); (case qm => walk_at "zmem"); (case qo => assumption))
          ((with_reducible refine' ev_cwFn ?qf ?qd ?_ ?qe ?qp); (case qe => with_unfolding_all rfl); (case qp => with_unfolding_all rfl); (case qf => walk_at "zmem"); (case qd => assumption))
          ((with_reducible refine' ev_spl ?_ ?qe); (case qe => with_unfolding_all rfl))
          ((with_reducible refine' ev_localC ?qm ?qC ?qv ?_ ?qL ?qk ?qx ?qd); (case qL => with_unfolding_all rfl); (case qk => with_unfolding_all rfl); (case qx => with_unfolding_all rfl); (case qd => decide); (case qm => walk_at "zmem"); (case qC => assumption); (case qv => walk_at "zlk"))
          with_reducible refine ev_spl0 ?_
          refine ⟨by walk_at "zmem", hf.call _ _ _ _ _ _ _ (by walk_at "zroom") (by walk_at "zsub") fun t3 => ?_⟩
          refine' comp_done ?sub ?ns hne2 hsr2 ⟨rfl, ?_⟩
          case sub => walk_at "zsub"
          case ns => assumption
          rw [List.take_add_one, hn2, List.map_append]
          exact hacc2.snoc ⟨_, rfl⟩
        · rintro D2 oD2 acc2 ν₂ _ ⟨rfl, hacc2⟩ hoD2 hab2 hne2 hsr2
          rw [hi2.length, List.take_length] at hacc2
          with_reducible refine ev_spl0 ?_
          refine ev_tupleOfL (.head _) hoD2 (by rw [hacc2.length, List.length_map, ← hi2.length]; exact Nat.le_trans hl2 (by decide)) fun T2 hT2 => ?_
          with_reducible refine ev_spl0 ?_
          have hab3 : ∀ q ∈ b' ++ ([(T, tupO [Value.str ⟨#[(Part.m li).letter]⟩ w, Value.ref b2])] ++ ((D, tupO (List.drop 1 (Value.str r.name tn :: vs))) :: (l, o1) :: (δ ++ ((c'.L + 1, oc) :: ν)))), @LT.lt Nat _ q.1 T2 := fun q hq => hT2 q (.tail _ hq)
          have hT2l : T2 ≠ l := gtN (hab3 _ (by walk_at "zmem" : (l, o1) ∈ _))
          have hδ' : ∀ p ∈ (T2, tupO acc2) :: δ, @LT.lt Nat _ D p.1 ∧ ∀ a, zOwn z TI TO i1 i2 a → @LT.lt Nat _ a p.1 := by
            intro p hp
            rcases List.mem_cons.mp hp with rfl | hp
            · refine ⟨hab3 _ (by walk_at "zmem" : (D, tupO (List.drop 1 (Value.str r.name tn :: vs))) ∈ _), fun a ha2 => ?_⟩
              obtain ⟨q, hq, rfl⟩ := zB_has hB' a ha2
              exact hab3 q (List.mem_append_left _ hq)
            · exact hδ p hp
          refine ev_append (ν₁ := b' ++ ((D, tupO (List.drop 1 (Value.str r.name tn :: vs))) :: ((T2, tupO acc2) :: δ ++ ((c'.L + 1, oc) :: ν)))) ho1 (by walk_at "zsub") (ne_app hbl (ne_cons hDl (ne_app (ne_cons hT2l hdl) hnl))) hk5 fun o' ho' => ?_
          with_reducible refine then_next ?_
          with_reducible refine ev_nil ?_
          with_reducible refine then_next ?_
          with_reducible refine ev_nil ?_
          with_reducible refine then_next ?_
          with_reducible refine ev_nil ?_
          exact ⟨_, by walk_at "zsub", clean o' _ hδ', .head _, o', _, (T2, tupO acc2) :: δ, rfl, ho', nextI hp rfl ⟨T2, _, acc2, rfl, .head _, tupO_mk, at_ints hacc2⟩ (fun _ h => .tail _ h), hδ', by walk_at "zlk", by walk_at "zlk"⟩
      · obtain ⟨ty, rfl⟩ := hpv
        ((with_reducible refine' ev_assignT2 ?qm ?qo ?_); (case qm => walk_at "zmem"); (case qo => walk_at "zo"))
        ((with_reducible refine' ev_store ?_ ?qL ?qk ?qx); (case qL => with_unfolding_all rfl); (case qk => with_unfolding_all rfl); (case qx => with_unfolding_all rfl))
        ((with_reducible refine' ev_store ?_ ?qL ?qk ?qx); (case qL => with_unfolding_all rfl); (case qk => with_unfolding_all rfl); (case qx => with_unfolding_all rfl))
        with_reducible refine ev_cons ?_
        with_reducible refine ev_If ?_
        ((with_reducible refine' ev_isCompare ?_ ?qs); (case qs => with_unfolding_all rfl))
        ((with_reducible refine' ev_local ?qvz ?_ ?qL ?qk ?qx ?qd); (case qL => with_unfolding_all rfl); (case qk => with_unfolding_all rfl); (case qx => with_unfolding_all rfl); (case qd => decide); (case qvz => walk_at "zlk"))
        ((with_reducible refine ev_str ?_); intro _)
        with_reducible refine ev_inDS ?_
        with_reducible refine ev_truthyB ?_
        ((with_reducible refine' ite_isF (b := isDS _) ?qb ?_); (case qb => exact rfl))
        with_reducible refine ev_cons ?_
        with_reducible refine ev_If ?_
        ((with_reducible refine' ev_isCompare ?_ ?qs); (case qs => with_unfolding_all rfl))
        ((with_reducible refine' ev_local ?qvz ?_ ?qL ?qk ?qx ?qd); (case qL => with_unfolding_all rfl); (case qk => with_unfolding_all rfl); (case qx => with_unfolding_all rfl); (case qd => decide); (case qvz => walk_at "zlk"))
        ((with_reducible refine ev_str ?_); intro _)
        with_reducible refine ev_eqS ?_
        with_reducible refine ev_truthyB ?_
        ((with_reducible refine' ite_isF (b := Str.mk #[_] == _) ?qb ?_); (case qb => exact rfl))
        with_reducible refine ev_cons ?_
        ((with_reducible refine' ev_ExprAny ?_ ?qi ?qs); (case qi => with_unfolding_all rfl); (case qs => with_unfolding_all rfl))
        ((with_reducible refine' ev_CallM ?_ ?qe); (case qe => with_unfolding_all rfl))
        ((with_reducible refine' ev_local ?qvz ?_ ?qL ?qk ?qx ?qd); (case qL => with_unfolding_all rfl); (case qk => with_unfolding_all rfl); (case qx => with_unfolding_all rfl); (case qd => decide); (case qvz => walk_at "zlk"))
        ((with_reducible refine' ev_getAppend ?qm ?qo ?_); (case qm => walk_at "zmem"); (case qo => walk_at "zo"))
        ((with_reducible refine' ev_cwB_1 ?_ ?qe ?qp); (case qe => with_unfolding_all rfl); (case qp => with_unfolding_all rfl))
        ((with_reducible refine' ev_spl ?_ ?qe); (case qe => with_unfolding_all rfl))
        with_reducible refine ev_IfExp ?_
        ((with_reducible refine' ev_isCompare ?_ ?qs); (case qs => with_unfolding_all rfl))
        ((with_reducible refine' ev_local ?qvz ?_ ?qL ?qk ?qx ?qd); (case qL => with_unfolding_all rfl); (case qk => with_unfolding_all rfl); (case qx => with_unfolding_all rfl); (case qd => decide); (case qvz => walk_at "zlk"))
        ((with_reducible refine ev_str ?_); intro _)
        with_reducible refine ev_eqS ?_
        with_reducible refine ev_truthyB ?_
        ((with_reducible refine' ite_isT (b := Str.mk #[_] == _) ?qb ?_); (case qb => exact rfl))
        ((with_reducible refine' ev_Call ?_ ?qe); (case qe => with_unfolding_all rfl))
        ((with_reducible refine' ev_local ?qvz ?_ ?qL ?qk ?qx ?qd); (case qL => with_unfolding_all rfl); (case qk => with_unfolding_all rfl); (case qx => with_unfolding_all rfl); (case qd => decide); (case qvz => walk_at "zlk"))
        ((with_reducible refine' ev_cwFn ?qf ?qd ?_ ?qe ?qp); (case qe => with_unfolding_all rfl); (case qp => with_unfolding_all rfl); (case qf => walk_at "zmem"); (case qd => assumption))
        ((with_reducible refine' ev_spl ?_ ?qe); (case qe => with_unfolding_all rfl))
        ((with_reducible refine' ev_local ?qvz ?_ ?qL ?qk ?qx ?qd); (case qL => with_unfolding_all rfl); (case qk => with_unfolding_all rfl); (case qx => with_unfolding_all rfl); (case qd => decide); (case qvz => walk_at "zlk"))
        with_reducible refine ev_spl0 ?_
        refine ⟨by walk_at "zmem", hg.call _ _ _ _ _ _ _ (by walk_at "zroom") (by walk_at "zsub") fun t2 => ?_⟩
        with_reducible refine ev_spl0 ?_
        refine ev_append (ν₁ := b' ++ ((D, tupO (List.drop 1 (Value.str r.name tn :: vs))) :: (δ ++ ((c'.L + 1, oc) :: ν)))) ho1 (by walk_at "zsub") (ne_app hbl (ne_cons hDl (ne_app hdl hnl))) hk5 fun o' ho' => ?_
        with_reducible refine then_next ?_
        with_reducible refine ev_nil ?_
        with_reducible refine then_next ?_
        with_reducible refine ev_nil ?_
        with_reducible refine then_next ?_
        with_reducible refine ev_nil ?_
        exact ⟨_, by walk_at "zsub", clean o' δ hδ, .head _, o', _, δ, rfl, ho', nextI hp rfl ⟨_, rfl⟩ (fun _ h => h), hδ, by walk_at "zlk", by walk_at "zlk"⟩
      · ((with_reducible refine' ev_assignT2 ?qm ?qo ?_); (case qm => walk_at "zmem"); (case qo => walk_at "zo"))
        ((with_reducible refine' ev_store ?_ ?qL ?qk ?qx); (case qL => with_unfolding_all rfl); (case qk => with_unfolding_all rfl); (case qx => with_unfolding_all rfl))
        ((with_reducible refine' ev_store ?_ ?qL ?qk ?qx); (case qL => with_unfolding_all rfl); (case qk => with_unfolding_all rfl); (case qx => with_unfolding_all rfl))
        with_reducible refine ev_cons ?_
        with_reducible refine ev_If ?_
        ((with_reducible refine' ev_isCompare ?_ ?qs); (case qs => with_unfolding_all rfl))
        ((with_reducible refine' ev_local ?qvz ?_ ?qL ?qk ?qx ?qd); (case qL => with_unfolding_all rfl); (case qk => with_unfolding_all rfl); (case qx => with_unfolding_all rfl); (case qd => decide); (case qvz => walk_at "zlk"))
        ((with_reducible refine ev_str ?_); intro _)
        with_reducible refine ev_inDS ?_
        with_reducible refine ev_truthyB ?_
        ((with_reducible refine' ite_isF (b := isDS _) ?qb ?_); (case qb => exact rfl))
        with_reducible refine ev_cons ?_
        with_reducible refine ev_If ?_
        ((with_reducible refine' ev_isCompare ?_ ?qs); (case qs => with_unfolding_all rfl))
        ((with_reducible refine' ev_local ?qvz ?_ ?qL ?qk ?qx ?qd); (case qL => with_unfolding_all rfl); (case qk => with_unfolding_all rfl); (case qx => with_unfolding_all rfl); (case qd => decide); (case qvz => walk_at "zlk"))
        ((with_reducible refine ev_str ?_); intro _)
        with_reducible refine ev_eqS ?_
        with_reducible refine ev_truthyB ?_
        ((with_reducible refine' ite_isF (b := Str.mk #[_] == _) ?qb ?_); (case qb => exact rfl))
        with_reducible refine ev_cons ?_
        ((with_reducible refine' ev_ExprAny ?_ ?qi ?qs); (case qi => with_unfolding_all rfl); (case qs => with_unfolding_all rfl))
        ((with_reducible refine' ev_CallM ?_ ?qe); (case qe => with_unfolding_all rfl))
        ((with_reducible refine' ev_local ?qvz ?_ ?qL ?qk ?qx ?qd); (case qL => with_unfolding_all rfl); (case qk => with_unfolding_all rfl); (case qx => with_unfolding_all rfl); (case qd => decide); (case qvz => walk_at "zlk"))
        ((with_reducible refine' ev_getAppend ?qm ?qo ?_); (case qm => walk_at "zmem"); (case qo => walk_at "zo"))
        ((with_reducible refine' ev_cwB_1 ?_ ?qe ?qp); (case qe => with_unfolding_all rfl); (case qp => with_unfolding_all rfl))
        ((with_reducible refine' ev_spl ?_ ?qe); (case qe => with_unfolding_all rfl))
        with_reducible refine ev_IfExp ?_
        ((with_reducible refine' ev_isCompare ?_ ?qs); (case qs => with_unfolding_all rfl))
        ((with_reducible refine' ev_local ?qvz ?_ ?qL ?qk ?qx ?qd); (case qL => with_unfolding_all rfl); (case qk => with_unfolding_all rfl); (case qx => with_unfolding_all rfl); (case qd => decide); (case qvz => walk_at "zlk"))
        ((with_reducible refine ev_str ?_); intro _)
        with_reducible refine ev_eqS ?_
        with_reducible refine ev_truthyB ?_
        ((with_reducible refine' ite_isF (b := Str.mk #[_] == _) ?qb ?_); (case qb => exact rfl))
        ((with_reducible refine' ev_local ?qvz ?_ ?qL ?qk ?qx ?qd); (case qL => with_unfolding_all rfl); (case qk => with_unfolding_all rfl); (case qx => with_unfolding_all rfl); (case qd => decide); (case qvz => walk_at "zlk"))
        with_reducible refine ev_spl0 ?_
        refine ev_append (ν₁ := b' ++ ((D, tupO (List.drop 1 (Value.str r.name tn :: vs))) :: (δ ++ ((c'.L + 1, oc) :: ν)))) ho1 (by walk_at "zsub") (ne_app hbl (ne_cons hDl (ne_app hdl hnl))) hk5 fun o' ho' => ?_
        with_reducible refine then_next ?_
        with_reducible refine ev_nil ?_
        with_reducible refine then_next ?_
        with_reducible refine ev_nil ?_
        with_reducible refine then_next ?_
        with_reducible refine ev_nil ?_
        exact ⟨_, by walk_at "zsub", clean o' δ hδ, .head _, o', _, δ, rfl, ho', nextI hp rfl (PartV.mono (KeepT.refl.app δ) hpv) (fun _ h => h), hδ, by walk_at "zlk", by walk_at "zlk"⟩
    · rintro m₁ ν₁ ⟨o1, acc, δ, rfl, ho1, hacc, hδ, hmf, hmg⟩ _ _
      rw [hn, List.take_length] at hacc
      with_reducible refine then_next ?_
      with_reducible refine ev_cons ?_
      with_reducible refine ev_Return ?_
      ((with_reducible refine' ev_Call ?_ ?qe); (case qe => with_unfolding_all rfl))
      ((with_reducible refine' ev_bltn ?qez ?qv ?_ ?qn ?qg ?qb ?qk ?qx ?qd); (case qg => with_unfolding_all rfl); (case qb => with_unfolding_all rfl); (case qk => with_unfolding_all rfl); (case qx => with_unfolding_all rfl); (case qd => decide); (case qn => decide); (case qez => k_is); (case qv => first | boot_fast | boot_by_name))
      ((with_reducible refine' ev_cwT_0 ?_ ?qe ?qp); (case qe => with_unfolding_all rfl); (case qp => with_unfolding_all rfl))
      ((with_reducible refine' ev_spl ?_ ?qe); (case qe => with_unfolding_all rfl))
      ((with_reducible refine' ev_local ?qvz ?_ ?qL ?qk ?qx ?qd); (case qL => with_unfolding_all rfl); (case qk => with_unfolding_all rfl); (case qx => with_unfolding_all rfl); (case qd => decide); (case qvz => walk_at "zlk"))
      with_reducible refine ev_spl0 ?_
      refine ev_tupleOfL (by walk_at "zmem") ho1 (by rw [List.length_cons, hacc.length, List.length_map]; exact Nat.le_trans (Nat.succ_le_succ h5) (by decide)) fun T3 hT3 => ?_
      with_reducible refine then_ret ?_
      refine ⟨_, ?_, h (.ref T3) ((T3, tupO (.str r.name tn :: acc)) :: δ) (fun p hp => ?_) ⟨T3, _, tn, acc, rfl, .head _, tupO_mk, ?_⟩⟩
      · walk_at "zsub"
      · rcases List.mem_cons.mp hp with rfl | hp
        · exact fun q hq => hT3 q (by walk_at "zmem")
        · exact fun q hq => Nat.lt_trans (hD.tail.tail q hq) (hδ p hp).1
      · exact hacc.mono fun _ _ x => x.mono (KeepT.refl.cons _)

structure CodeD (es : List DictEntry) (nm : Str) (ar sl : Int) (rt st cp mk : Addr) : Prop where
  name : ∃ t, getL "name" es = some (some (.str nm t))
  arity : ∃ t, getL "arity" es = some (some (.int ar t))
  slots : ∃ t, getL "slots" es = some (some (.int sl t))
  rows : getL "rows" es = some (some (.ref rt))
  static : getL "static" es = some (some (.ref st))
  captures : getL "captures" es = some (some (.ref cp))
  marks : getL "marks" es = some (some (.ref mk))
  meth : getL "with_rows" es = some none
/-- a Code's object -/
def CodeAt (ν : Led) (x : Addr) (nm : Str) (ar sl : Int) (rt st cp mk : Addr) : Prop := ∃ dx es n, (x, instObj 78 dx) ∈ ν ∧ (dx, dictOf es n) ∈ ν ∧ CodeD es nm ar sl rt st cp mk
theorem CodeAt.mono {ν ν' : Led} {x rt st cp mk : Addr} {nm : Str} {ar sl : Int} (h : CodeAt ν x nm ar sl rt st cp mk) (hs : ∀ p ∈ ν, p ∈ ν') : CodeAt ν' x nm ar sl rt st cp mk := by
  obtain ⟨dx, es, n, a, b, d⟩ := h
  exact ⟨dx, es, n, hs _ a, hs _ b, d⟩
theorem c_Code {c : Cx} {m : Loc} {ν : Led} {P : Value → Loc → Led → Prop} {R : RX} {nm : Str} {ar sl : Int} {l st cp mk : Addr} {o os oc om : Obj} {vs vst vcp vmk : List Value} {t1 t2 t3 : Tok} (hr : Room c 3) (hl : (l, o) ∈ ν) (ho : LstO o vs) (hz : vs.length ≤ 1000)
    (h1 : (st, os) ∈ ν) (h1' : TupO os vst) (h2 : (cp, oc) ∈ ν) (h2' : TupO oc vcp) (h3 : (mk, om) ∈ ν) (h3' : TupO om vmk)
    (h : ∀ x rt δ, (∀ p ∈ δ, Above p.1 ν) → Above rt ν → (rt, tupO vs) ∈ δ → CodeAt δ x nm ar sl rt st cp mk → P (.ref x) m (δ ++ ν)) :
    EV c m ν (call (.ref 78) [.str nm t1, .int ar t2, .int sl t3, .ref l, .ref st, .ref cp, .ref mk]) P R := by
  refine' ev_make (n := 1) (binds := fun x => [("self", .ref x), ("name", .str nm t1), ("arity", .int ar t2), ("slots", .int sl t3), ("rows", .ref l), ("static", .ref st), ("captures", .ref cp), ("marks", .ref mk)]) ?hm ?hi ?hf ?ho ?hcd hr ?hb ?hl ?hk ?hc ?h
  case hm => k_is
  case hi => k_is
  case hf => k_is
  case ho => k_is
  case hcd => k_is
  case hb =>
    intro x s st'
    refine' binds_K (c.X.keeps st') ?hd ?ho2 ?hs ?e1 ?e2
    case hd => exact rfl
    case ho2 => k_is
    case hs => exact rfl
    case e1 => exact rfl
    case e2 => exact rfl
  case hl => exact fun x => locs rfl
  case hk => exact rfl
  case hc => decide
  case h =>
    intro x dx c' hdx hlt hr' _
    dsimp only [bnd]
    have hne : ∀ p ∈ (x, instObj 78 dx) :: ν, p.1 ≠ dx := ne_cons (gtN hlt) hdx.ne
    refine ev_sub (ν' := (dx, dictOf [] 0) :: (x, instObj 78 dx) :: ν) ?_ (sub_cons (.tail _ (.head _)) (sub_cons (.head _) fun p hp => .tail _ (.tail _ hp)))
    with_reducible refine ev_cons ?_
    ((with_reducible refine' ev_AssignAttr ?_ ?qs); (case qs => with_unfolding_all rfl))
    ((with_reducible refine' ev_local ?qvz ?_ ?qL ?qk ?qx ?qd); (case qL => with_unfolding_all rfl); (case qk => with_unfolding_all rfl); (case qx => with_unfolding_all rfl); (case qd => decide); (case qvz => walk_at "zlk"))
    ((with_reducible refine' ev_local ?qvz ?_ ?qL ?qk ?qx ?qd); (case qL => with_unfolding_all rfl); (case qk => with_unfolding_all rfl); (case qx => with_unfolding_all rfl); (case qd => decide); (case qvz => walk_at "zlk"))
    ((with_reducible refine' ev_setAttr ?qx (fun _ h => h) ?qne ?qs ?qp ?qt ?qh ?ql ?qz ?_); (case qx => exact List.Mem.head _); (case qne => assumption); (case qs => k_is); (case qp => k_is); (case qt => k_is); (case qh => k_is); (case ql => exact rfl); (case qz => exact Nat.le_of_ble_eq_true rfl); intro _)
    with_reducible refine then_next ?_
    with_reducible refine ev_cons ?_
    ((with_reducible refine' ev_AssignAttr ?_ ?qs); (case qs => with_unfolding_all rfl))
    ((with_reducible refine' ev_local ?qvz ?_ ?qL ?qk ?qx ?qd); (case qL => with_unfolding_all rfl); (case qk => with_unfolding_all rfl); (case qx => with_unfolding_all rfl); (case qd => decide); (case qvz => walk_at "zlk"))
    ((with_reducible refine' ev_local ?qvz ?_ ?qL ?qk ?qx ?qd); (case qL => with_unfolding_all rfl); (case qk => with_unfolding_all rfl); (case qx => with_unfolding_all rfl); (case qd => decide); (case qvz => walk_at "zlk"))
    ((with_reducible refine' ev_setAttr ?qx (fun _ h => h) ?qne ?qs ?qp ?qt ?qh ?ql ?qz ?_); (case qx => exact List.Mem.head _); (case qne => assumption); (case qs => k_is); (case qp => k_is); (case qt => k_is); (case qh => k_is); (case ql => exact rfl); (case qz => exact Nat.le_of_ble_eq_true rfl); intro _)
    with_reducible refine then_next ?_
    with_reducible refine ev_cons ?_
    ((with_reducible refine' ev_AssignAttr ?_ ?qs); (case qs => with_unfolding_all rfl))
    ((with_reducible refine' ev_local ?qvz ?_ ?qL ?qk ?qx ?qd); (case qL => with_unfolding_all rfl); (case qk => with_unfolding_all rfl); (case qx => with_unfolding_all rfl); (case qd => decide); (case qvz => walk_at "zlk"))
    ((with_reducible refine' ev_local ?qvz ?_ ?qL ?qk ?qx ?qd); (case qL => with_unfolding_all rfl); (case qk => with_unfolding_all rfl); (case qx => with_unfolding_all rfl); (case qd => decide); (case qvz => walk_at "zlk"))
    ((with_reducible refine' ev_setAttr ?qx (fun _ h => h) ?qne ?qs ?qp ?qt ?qh ?ql ?qz ?_); (case qx => exact List.Mem.head _); (case qne => assumption); (case qs => k_is); (case qp => k_is); (case qt => k_is); (case qh => k_is); (case ql => exact rfl); (case qz => exact Nat.le_of_ble_eq_true rfl); intro _)
    with_reducible refine then_next ?_
    with_reducible refine ev_cons ?_
    ((with_reducible refine' ev_AssignAttr ?_ ?qs); (case qs => with_unfolding_all rfl))
    ((with_reducible refine' ev_Call ?_ ?qe); (case qe => with_unfolding_all rfl))
    ((with_reducible refine' ev_bltn ?qez ?qv ?_ ?qn ?qg ?qb ?qk ?qx ?qd); (case qg => with_unfolding_all rfl); (case qb => with_unfolding_all rfl); (case qk => with_unfolding_all rfl); (case qx => with_unfolding_all rfl); (case qd => decide); (case qn => decide); (case qez => k_is); (case qv => first | boot_fast | boot_by_name))
    ((with_reducible refine' ev_cwT_0 ?_ ?qe ?qp); (case qe => with_unfolding_all rfl); (case qp => with_unfolding_all rfl))
    ((with_reducible refine' ev_spl ?_ ?qe); (case qe => with_unfolding_all rfl))
    ((with_reducible refine' ev_local ?qvz ?_ ?qL ?qk ?qx ?qd); (case qL => with_unfolding_all rfl); (case qk => with_unfolding_all rfl); (case qx => with_unfolding_all rfl); (case qd => decide); (case qvz => walk_at "zlk"))
    with_reducible refine ev_spl0 ?_
    refine ev_tupleOfL (vs := vs) (by walk_at "zmem") ho (Nat.le_trans hz (by decide)) fun rt hrt => ?_
    have hne2 : ∀ p ∈ (x, instObj 78 dx) :: (rt, tupO vs) :: ν, p.1 ≠ dx := ne_cons (gtN hlt) (ne_cons (gtN hrt.head) hdx.ne)
    refine ev_sub (ν' := (dx, dictOf _ _) :: (x, instObj 78 dx) :: (rt, tupO vs) :: ν) ?_ (sub_cons (.tail _ (.head _)) (sub_cons (.tail _ (.tail _ (.head _))) (sub_cons (.head _) fun p hp => .tail _ (.tail _ (.tail _ hp)))))
    ((with_reducible refine' ev_local ?qvz ?_ ?qL ?qk ?qx ?qd); (case qL => with_unfolding_all rfl); (case qk => with_unfolding_all rfl); (case qx => with_unfolding_all rfl); (case qd => decide); (case qvz => walk_at "zlk"))
    ((with_reducible refine' ev_setAttr ?qx (fun _ h => h) ?qne ?qs ?qp ?qt ?qh ?ql ?qz ?_); (case qx => exact List.Mem.head _); (case qne => assumption); (case qs => k_is); (case qp => k_is); (case qt => k_is); (case qh => k_is); (case ql => exact rfl); (case qz => exact Nat.le_of_ble_eq_true rfl); intro _)
    with_reducible refine then_next ?_
    with_reducible refine ev_cons ?_
    ((with_reducible refine' ev_AssignAttr ?_ ?qs); (case qs => with_unfolding_all rfl))
    ((with_reducible refine' ev_Call ?_ ?qe); (case qe => with_unfolding_all rfl))
    ((with_reducible refine' ev_bltn ?qez ?qv ?_ ?qn ?qg ?qb ?qk ?qx ?qd); (case qg => with_unfolding_all rfl); (case qb => with_unfolding_all rfl); (case qk => with_unfolding_all rfl); (case qx => with_unfolding_all rfl); (case qd => decide); (case qn => decide); (case qez => k_is); (case qv => first | boot_fast | boot_by_name))
    ((with_reducible refine' ev_cwT_0 ?_ ?qe ?qp); (case qe => with_unfolding_all rfl); (case qp => with_unfolding_all rfl))
    ((with_reducible refine' ev_spl ?_ ?qe); (case qe => with_unfolding_all rfl))
    ((with_reducible refine' ev_local ?qvz ?_ ?qL ?qk ?qx ?qd); (case qL => with_unfolding_all rfl); (case qk => with_unfolding_all rfl); (case qx => with_unfolding_all rfl); (case qd => decide); (case qvz => walk_at "zlk"))
    with_reducible refine ev_spl0 ?_
    ((with_reducible refine' ev_tupleOfT ?qm ?qo ?_); (case qm => walk_at "zmem"); (case qo => walk_at "zo"))
    ((with_reducible refine' ev_local ?qvz ?_ ?qL ?qk ?qx ?qd); (case qL => with_unfolding_all rfl); (case qk => with_unfolding_all rfl); (case qx => with_unfolding_all rfl); (case qd => decide); (case qvz => walk_at "zlk"))
    ((with_reducible refine' ev_setAttr ?qx (fun _ h => h) ?qne ?qs ?qp ?qt ?qh ?ql ?qz ?_); (case qx => exact List.Mem.head _); (case qne => assumption); (case qs => k_is); (case qp => k_is); (case qt => k_is); (case qh => k_is); (case ql => exact rfl); (case qz => exact Nat.le_of_ble_eq_true rfl); intro _)
    with_reducible refine then_next ?_
    with_reducible refine ev_cons ?_
    ((with_reducible refine' ev_AssignAttr ?_ ?qs); (case qs => with_unfolding_all rfl))
    ((with_reducible refine' ev_Call ?_ ?qe); (case qe => with_unfolding_all rfl))
    ((with_reducible refine' ev_bltn ?qez ?qv ?_ ?qn ?qg ?qb ?qk ?qx ?qd); (case qg => with_unfolding_all rfl); (case qb => with_unfolding_all rfl); (case qk => with_unfolding_all rfl); (case qx => with_unfolding_all rfl); (case qd => decide); (case qn => decide); (case qez => k_is); (case qv => first | boot_fast | boot_by_name))
    ((with_reducible refine' ev_cwT_0 ?_ ?qe ?qp); (case qe => with_unfolding_all rfl); (case qp => with_unfolding_all rfl))
    ((with_reducible refine' ev_spl ?_ ?qe); (case qe => with_unfolding_all rfl))
    ((with_reducible refine' ev_local ?qvz ?_ ?qL ?qk ?qx ?qd); (case qL => with_unfolding_all rfl); (case qk => with_unfolding_all rfl); (case qx => with_unfolding_all rfl); (case qd => decide); (case qvz => walk_at "zlk"))
    with_reducible refine ev_spl0 ?_
    ((with_reducible refine' ev_tupleOfT ?qm ?qo ?_); (case qm => walk_at "zmem"); (case qo => walk_at "zo"))
    ((with_reducible refine' ev_local ?qvz ?_ ?qL ?qk ?qx ?qd); (case qL => with_unfolding_all rfl); (case qk => with_unfolding_all rfl); (case qx => with_unfolding_all rfl); (case qd => decide); (case qvz => walk_at "zlk"))
    ((with_reducible refine' ev_setAttr ?qx (fun _ h => h) ?qne ?qs ?qp ?qt ?qh ?ql ?qz ?_); (case qx => exact List.Mem.head _); (case qne => assumption); (case qs => k_is); (case qp => k_is); (case qt => k_is); (case qh => k_is); (case ql => exact rfl); (case qz => exact Nat.le_of_ble_eq_true rfl); intro _)
    with_reducible refine then_next ?_
    with_reducible refine ev_cons ?_
    ((with_reducible refine' ev_AssignAttr ?_ ?qs); (case qs => with_unfolding_all rfl))
    ((with_reducible refine' ev_Call ?_ ?qe); (case qe => with_unfolding_all rfl))
    ((with_reducible refine' ev_bltn ?qez ?qv ?_ ?qn ?qg ?qb ?qk ?qx ?qd); (case qg => with_unfolding_all rfl); (case qb => with_unfolding_all rfl); (case qk => with_unfolding_all rfl); (case qx => with_unfolding_all rfl); (case qd => decide); (case qn => decide); (case qez => k_is); (case qv => first | boot_fast | boot_by_name))
    ((with_reducible refine' ev_cwT_0 ?_ ?qe ?qp); (case qe => with_unfolding_all rfl); (case qp => with_unfolding_all rfl))
    ((with_reducible refine' ev_spl ?_ ?qe); (case qe => with_unfolding_all rfl))
    ((with_reducible refine' ev_local ?qvz ?_ ?qL ?qk ?qx ?qd); (case qL => with_unfolding_all rfl); (case qk => with_unfolding_all rfl); (case qx => with_unfolding_all rfl); (case qd => decide); (case qvz => walk_at "zlk"))
    with_reducible refine ev_spl0 ?_
    ((with_reducible refine' ev_tupleOfT ?qm ?qo ?_); (case qm => walk_at "zmem"); (case qo => walk_at "zo"))
    ((with_reducible refine' ev_local ?qvz ?_ ?qL ?qk ?qx ?qd); (case qL => with_unfolding_all rfl); (case qk => with_unfolding_all rfl); (case qx => with_unfolding_all rfl); (case qd => decide); (case qvz => walk_at "zlk"))
    ((with_reducible refine' ev_setAttr ?qx (fun _ h => h) ?qne ?qs ?qp ?qt ?qh ?ql ?qz ?_); (case qx => exact List.Mem.head _); (case qne => assumption); (case qs => k_is); (case qp => k_is); (case qt => k_is); (case qh => k_is); (case ql => exact rfl); (case qz => exact Nat.le_of_ble_eq_true rfl); intro _)
    with_reducible refine then_next ?_
    with_reducible refine ev_nil ?_
    refine ⟨rfl, h x rt [(dx, _), (x, _), (rt, _)] (fun p hp => ?_) hrt.tail.tail (.tail _ (.tail _ (.head _))) ⟨dx, _, _, .tail _ (.head _), .head _, ⟨⟨_, rfl⟩, ⟨_, rfl⟩, ⟨_, rfl⟩, rfl, rfl, rfl, rfl, rfl⟩⟩⟩
    rcases hp with _ | ⟨_, _ | ⟨_, _ | ⟨_, hp⟩⟩⟩
    · exact hdx
    · exact fun q hq => Nat.lt_trans (hdx q hq) hlt
    · exact hrt.tail.tail
    · cases hp

structure GoodRow (sl : Int) (n k : Nat) (r : Row) : Prop where
  shaped : Shaped r
  many : r.uses.length ≤ 900
  regs : ∀ x ∈ r.uses ++ r.sets.toList, 0 ≤ x ∧ x < sl
  fols : ∀ x ∈ fol r k, 0 ≤ x ∧ x < n
  stat : r.name = "static" → ∃ d, r.parts = [.d d, .x (.one (.str "T.1"))]
  capt : r.name = "capture" → ∃ d, r.parts = [.d d, .x (.one (.int 0))]
  splat : r.name = "splat" → ∃ d s a b, r.parts = [.d d, .s s, .m [a], .x (.tup [b])]
  kw : r.name = "kwcall" → ∃ d s a b e, r.parts = [.d d, .s s, .x (.tup [a]), .m [b], .m [e]]
theorem c_check_row {c : Cx} {m : Loc} {ν : Led} {P : Value → Loc → Led → Prop} {R : RX} {x rt st cp mk : Addr} {nm : Str} {ar sl : Int} {rs : List Row} {r : Row} {vs : List Value} {ort ost ocp : Obj} {k : Nat} {u t1 t2 : Tok} (hr : Room c 5) (hx : CodeAt ν x nm ar sl rt st cp mk) (hrt : (rt, ort) ∈ ν) (hrt' : TupO ort vs) (hrs : RowsV ν rs vs)
    (hst : (st, ost) ∈ ν) (hst' : TupO ost [.str "T.1" t1]) (hcp : (cp, ocp) ∈ ν) (hcp' : TupO ocp [.str "x" t2]) (hk : rs[k]? = some r) (hk1 : rs.length < 1000) (hg : GoodRow sl rs.length k r)
    (h : P .none m ν) : EV c m ν (call (.ref 137) [.ref x, .int k u]) P R := by
  obtain ⟨dx, es, n, hx1, hx2, hD⟩ := hx
  obtain ⟨v, hkv, hrv⟩ := hrs.get hk
  have hrv0 := hrv
  obtain ⟨b, ob, tn, ps, rfl, hmb, hob, ha⟩ := hrv
  have hk2 : k < 1000 := Nat.lt_trans (List.getElem?_eq_some_iff.mp hk).1 hk1
  have h40 : vs.length < 2 ^ 40 := by rw [hrs.length]; omega
  have hro := hD.rows
  have hso := hD.static
  have hco := hD.captures
  obtain ⟨ts, hso2⟩ := hD.slots
  refine ev_post ?_
  refine' ev_call (n := 4) (Rb := NoX) (binds := [("code", .ref x), ("at", .int k u)]) ?ho ?hcd hr ?hb ?hl ?hk ?hc ?h (fun _ _ _ _ _ _ x => x.elim)
  case ho => k_is
  case hcd => k_is
  case hb => exact fun s => BindsTo.of_eq rfl
  case hl => exact locs rfl
  case hk => exact rfl
  case hc => decide
  case h =>
    intro c' hr' _
    dsimp only [bnd]
    with_reducible refine ev_cons ?_
    ((with_reducible refine' ev_Assign ?_ ?qs); (case qs => with_unfolding_all rfl))
    with_reducible refine ev_Sub ?_
    ((with_reducible refine' ev_Attr ?_ ?qe); (case qe => with_unfolding_all rfl))
    ((with_reducible refine' ev_local ?qvz ?_ ?qL ?qk ?qx ?qd); (case qL => with_unfolding_all rfl); (case qk => with_unfolding_all rfl); (case qx => with_unfolding_all rfl); (case qd => decide); (case qvz => walk_at "zlk"))
    ((with_reducible refine' ev_getAttr ?qx ?qdx ?qg ?qh ?qa ?qn ?ql ?qv ?_); (case qx => walk_at "zmem"); (case qdx => walk_at "zmem"); (case ql => assumption); (case qg => k_is); (case qh => k_is); (case qa => k_is); (case qn => k_is); (case qv => exact rfl))
    ((with_reducible refine' ev_local ?qvz ?_ ?qL ?qk ?qx ?qd); (case qL => with_unfolding_all rfl); (case qk => with_unfolding_all rfl); (case qx => with_unfolding_all rfl); (case qd => decide); (case qvz => walk_at "zlk"))
    ((with_reducible refine' ev_itemTK ?qm ?qo ?q1 ?qx ?_ ?qs); (case qs => with_unfolding_all rfl); (case qm => walk_at "zmem"); (case qo => walk_at "zo"); (case q1 => omega); (case qx => assumption))
    ((with_reducible refine' ev_store ?_ ?qL ?qk ?qx); (case qL => with_unfolding_all rfl); (case qk => with_unfolding_all rfl); (case qx => with_unfolding_all rfl))
    with_reducible refine then_next ?_
    with_reducible refine ev_cons ?_
    ((with_reducible refine' ev_Assign ?_ ?qs); (case qs => with_unfolding_all rfl))
    ((with_reducible refine' ev_Call ?_ ?qe); (case qe => with_unfolding_all rfl))
    ((with_reducible refine' ev_glob ?qez ?_ ?qg ?qk ?qx ?qd); (case qg => with_unfolding_all rfl); (case qk => with_unfolding_all rfl); (case qx => with_unfolding_all rfl); (case qd => decide); (case qez => k_is))
    ((with_reducible refine' ev_cwF_0 ?qk ?_ ?qe ?qp); (case qe => with_unfolding_all rfl); (case qp => with_unfolding_all rfl); (case qk => k_is))
    ((with_reducible refine' ev_spl ?_ ?qe); (case qe => with_unfolding_all rfl))
    ((with_reducible refine' ev_local ?qvz ?_ ?qL ?qk ?qx ?qd); (case qL => with_unfolding_all rfl); (case qk => with_unfolding_all rfl); (case qx => with_unfolding_all rfl); (case qd => decide); (case qvz => walk_at "zlk"))
    with_reducible refine ev_spl0 ?_
    refine c_sets_of (by walk_at "zroom") hrv0 hg.shaped fun sv hsv => ?_
    ((with_reducible refine' ev_store ?_ ?qL ?qk ?qx); (case qL => with_unfolding_all rfl); (case qk => with_unfolding_all rfl); (case qx => with_unfolding_all rfl))
    with_reducible refine then_next ?_
    with_reducible refine ev_cons ?_
    refine ev_For ?_ outNoX (Rb := NoX) (hs := fun _ => rfl)
    with_reducible refine ev_BinOp ?_
    ((with_reducible refine' ev_Call ?_ ?qe); (case qe => with_unfolding_all rfl))
    ((with_reducible refine' ev_glob ?qez ?_ ?qg ?qk ?qx ?qd); (case qg => with_unfolding_all rfl); (case qk => with_unfolding_all rfl); (case qx => with_unfolding_all rfl); (case qd => decide); (case qez => k_is))
    ((with_reducible refine' ev_cwF_0 ?qk ?_ ?qe ?qp); (case qe => with_unfolding_all rfl); (case qp => with_unfolding_all rfl); (case qk => k_is))
    ((with_reducible refine' ev_spl ?_ ?qe); (case qe => with_unfolding_all rfl))
    ((with_reducible refine' ev_local ?qvz ?_ ?qL ?qk ?qx ?qd); (case qL => with_unfolding_all rfl); (case qk => with_unfolding_all rfl); (case qx => with_unfolding_all rfl); (case qd => decide); (case qvz => walk_at "zlk"))
    with_reducible refine ev_spl0 ?_
    refine c_uses_of (by walk_at "zroom") hrv0 hg.shaped (Nat.le_trans hg.many (by decide)) fun D1 o1 us hD1 ho1 hus => ?_
    with_reducible refine ev_IfExp ?_
    ((with_reducible refine' ev_isCompare ?_ ?qs); (case qs => with_unfolding_all rfl))
    ((with_reducible refine' ev_local ?qvz ?_ ?qL ?qk ?qx ?qd); (case qL => with_unfolding_all rfl); (case qk => with_unfolding_all rfl); (case qx => with_unfolding_all rfl); (case qd => decide); (case qvz => walk_at "zlk"))
    with_reducible refine ev_none ?_
    with_reducible refine ev_isNone ?_
    with_reducible refine ev_truthyB ?_
    refine kIf_join (fun v m' ν' => ∃ D2 o2 ws, v = .ref D2 ∧ m' = upd (upd (upd (upd noLoc "code" (.ref x)) "at" (.int k u)) "row" (.ref b)) "sets" sv ∧ ν' = (D2, o2) :: (D1, o1) :: ν ∧ Above D2 ν ∧ LstO o2 ws ∧ AllV IntV r.sets.toList ws) ?_ ?_
    · cases hsr : r.sets with
      | none =>
        rw [hsr] at hsv
        obtain rfl : sv = .none := hsv
        with_reducible refine ite_isT vn_none ?_
        with_reducible refine ev_List ?_
        with_reducible refine ev_spl0 ?_
        exact ev_newList (fun D2 hD2 => ⟨D2, _, _, rfl, rfl, rfl, hD2.tail, lstO_mk, .nil⟩) (by decide)
      | some n =>
        rw [hsr] at hsv
        obtain ⟨tz, rfl⟩ := hsv
        with_reducible refine ite_isF vn_int ?_
        with_reducible refine ev_List ?_
        ((with_reducible refine' ev_spl ?_ ?qe); (case qe => with_unfolding_all rfl))
        ((with_reducible refine' ev_local ?qvz ?_ ?qL ?qk ?qx ?qd); (case qL => with_unfolding_all rfl); (case qk => with_unfolding_all rfl); (case qx => with_unfolding_all rfl); (case qd => decide); (case qvz => walk_at "zlk"))
        with_reducible refine ev_spl0 ?_
        exact ev_newList (fun D2 hD2 => ⟨D2, _, _, rfl, rfl, rfl, hD2.tail, lstO_mk, .cons ⟨_, rfl⟩ .nil⟩) (by simp [sizeLine])
    rintro _ _ _ ⟨D2, o2, ws, rfl, rfl, rfl, hD2, ho2, hws⟩
    have hl2 : ws.length ≤ 1 := by
      rw [hws.length]
      cases r.sets with
      | none => exact Nat.zero_le _
      | some _ => exact Nat.le_refl _
    refine ev_addL (by walk_at "zmem") ho1 (.head _) ho2 (by rw [hus.length]; exact Nat.le_trans (Nat.add_le_add hg.many hl2) (by decide)) fun D3 o3 hD3 ho3 => ?_
    refine ev_sub (ν' := (D3, o3) :: ν) ?_ (sub_cons (.head _) fun p hp => .tail _ (.tail _ (.tail _ hp)))
    have hL : AllV IntV (r.uses ++ r.sets.toList) (us ++ ws) := hus.app hws
    have hD3' : Above D3 ν := hD3.tail.tail
    generalize us ++ ws = xs at ho3 hL
    refine ev_iterL (.head _) ho3 fun it oi hit hoi => ?_
    refine ev_forI (yldL ho3) (fun j m₁ ν₁ => ν₁ = (D3, o3) :: ν ∧ m₁ "code" = some (.ref x) ∧ m₁ "at" = some (.int k u) ∧ m₁ "row" = some (.ref b)) ⟨oi, rfl, hoi⟩ (fun p hp => ltN' (hit p hp)) (.head _) ⟨rfl, by walk_at "zlk", by walk_at "zlk", by walk_at "zlk"⟩ (fun _ h => h) ?_ ?_
    · rintro j m₁ ν₁ v δ b' hj ⟨rfl, hm1, hm2, hm3⟩ hcl hsrc ⟨hv, rfl⟩ _ hB'
      obtain ⟨i, hi, ti, rfl⟩ := hL.at hv
      obtain ⟨hi0, hi1⟩ := hg.regs i (List.mem_of_getElem? hi)
      with_reducible refine ev_assignName ?_
      ((with_reducible refine' ev_store ?_ ?qL ?qk ?qx); (case qL => with_unfolding_all rfl); (case qk => with_unfolding_all rfl); (case qx => with_unfolding_all rfl))
      with_reducible refine ev_cons ?_
      with_reducible refine ev_If ?_
      with_reducible refine ev_isOr ?_
      with_reducible refine ev_isNot ?_
      ((with_reducible refine' ev_isPlain ?_ ?qe); (case qe => with_unfolding_all rfl))
      ((with_reducible refine' ev_Call ?_ ?qe); (case qe => with_unfolding_all rfl))
      ((with_reducible refine' ev_bltn ?qez ?qv ?_ ?qn ?qg ?qb ?qk ?qx ?qd); (case qg => with_unfolding_all rfl); (case qb => with_unfolding_all rfl); (case qk => with_unfolding_all rfl); (case qx => with_unfolding_all rfl); (case qd => decide); (case qn => decide); (case qez => k_is); (case qv => first | boot_fast | boot_by_name))
      ((with_reducible refine' ev_cwB_0 ?_ ?qe ?qp); (case qe => with_unfolding_all rfl); (case qp => with_unfolding_all rfl))
      ((with_reducible refine' ev_spl ?_ ?qe); (case qe => with_unfolding_all rfl))
      ((with_reducible refine' ev_local ?qvz ?_ ?qL ?qk ?qx ?qd); (case qL => with_unfolding_all rfl); (case qk => with_unfolding_all rfl); (case qx => with_unfolding_all rfl); (case qd => decide); (case qvz => walk_at "zlk"))
      ((with_reducible refine' ev_spl ?_ ?qe); (case qe => with_unfolding_all rfl))
      ((with_reducible refine' ev_bltn ?qez ?qv ?_ ?qn ?qg ?qb ?qk ?qx ?qd); (case qg => with_unfolding_all rfl); (case qb => with_unfolding_all rfl); (case qk => with_unfolding_all rfl); (case qx => with_unfolding_all rfl); (case qd => decide); (case qn => decide); (case qez => k_is); (case qv => first | boot_fast | boot_by_name))
      with_reducible refine ev_spl0 ?_
      with_reducible refine ev_isiInt ?_
      with_reducible refine ev_truthyB ?_
      with_reducible refine ite_isF (b := !true) rfl ?_
      with_reducible refine ev_isOr ?_
      with_reducible refine ev_isNot ?_
      ((with_reducible refine' ev_isChain ?_ ?qs); (case qs => with_unfolding_all rfl))
      ((with_reducible refine ev_int ?_); intro _)
      ((with_reducible refine' ev_local ?qvz ?_ ?qL ?qk ?qx ?qd); (case qL => with_unfolding_all rfl); (case qk => with_unfolding_all rfl); (case qx => with_unfolding_all rfl); (case qd => decide); (case qvz => walk_at "zlk"))
      with_reducible refine ev_le ?_
      with_reducible refine ev_truthyB ?_
      refine ite_isT (decide_eq_true hi0) ?_
      ((with_reducible refine' ev_Attr ?_ ?qe); (case qe => with_unfolding_all rfl))
      ((with_reducible refine' ev_local ?qvz ?_ ?qL ?qk ?qx ?qd); (case qL => with_unfolding_all rfl); (case qk => with_unfolding_all rfl); (case qx => with_unfolding_all rfl); (case qd => decide); (case qvz => walk_at "zlk"))
      ((with_reducible refine' ev_getAttr ?qx ?qdx ?qg ?qh ?qa ?qn ?ql ?qv ?_); (case qx => walk_at "zmem"); (case qdx => walk_at "zmem"); (case ql => assumption); (case qg => k_is); (case qh => k_is); (case qa => k_is); (case qn => k_is); (case qv => exact rfl))
      with_reducible refine ev_lt ?_
      with_reducible refine ev_truthyB ?_
      refine ite_isF (b := !decide (i < sl)) (by rw [decide_eq_true hi1]; rfl) ?_
      with_reducible refine ev_isOr0 ?_
      with_reducible refine ite_F ?_
      with_reducible refine ev_nil ?_
      with_reducible refine then_next ?_
      with_reducible refine ev_nil ?_
      exact ⟨(D3, o3) :: ν, by walk_at "zsub", hcl, hsrc, rfl, by walk_at "zlk", by walk_at "zlk", by walk_at "zlk"⟩
    rintro m₁ ν₁ ⟨rfl, hm1, hm2, hm3⟩ _ _
    refine then_next ?_
    refine ev_sub (ν' := ν) ?_ (fun p hp => .tail _ hp)
    refine ev_cons (ev_For ?_ outNoX (Rb := NoX) (hs := fun _ => rfl))
    ((with_reducible refine' ev_Call ?_ ?qe); (case qe => with_unfolding_all rfl))
    ((with_reducible refine' ev_glob ?qez ?_ ?qg ?qk ?qx ?qd); (case qg => with_unfolding_all rfl); (case qk => with_unfolding_all rfl); (case qx => with_unfolding_all rfl); (case qd => decide); (case qez => k_is))
    ((with_reducible refine' ev_cwF_0 ?qk ?_ ?qe ?qp); (case qe => with_unfolding_all rfl); (case qp => with_unfolding_all rfl); (case qk => k_is))
    ((with_reducible refine' ev_spl ?_ ?qe); (case qe => with_unfolding_all rfl))
    ((with_reducible refine' ev_Attr ?_ ?qe); (case qe => with_unfolding_all rfl))
    ((with_reducible refine' ev_local ?qvz ?_ ?qL ?qk ?qx ?qd); (case qL => with_unfolding_all rfl); (case qk => with_unfolding_all rfl); (case qx => with_unfolding_all rfl); (case qd => decide); (case qvz => walk_at "zlk"))
    ((with_reducible refine' ev_getAttr ?qx ?qdx ?qg ?qh ?qa ?qn ?ql ?qv ?_); (case qx => walk_at "zmem"); (case qdx => walk_at "zmem"); (case ql => assumption); (case qg => k_is); (case qh => k_is); (case qa => k_is); (case qn => k_is); (case qv => exact rfl))
    ((with_reducible refine' ev_spl ?_ ?qe); (case qe => with_unfolding_all rfl))
    ((with_reducible refine' ev_local ?qvz ?_ ?qL ?qk ?qx ?qd); (case qL => with_unfolding_all rfl); (case qk => with_unfolding_all rfl); (case qx => with_unfolding_all rfl); (case qd => decide); (case qvz => walk_at "zlk"))
    with_reducible refine ev_spl0 ?_
    refine c_followers (by walk_at "zroom") hrt hrt' hrs hk hk2 hg.shaped fun D4 o4 gs hD4 ho4 hgs => ?_
    refine ev_iterL (.head _) ho4 fun it2 oi2 hit2 hoi2 => ?_
    refine ev_forI (yldL ho4) (fun j m₁ ν₁ => ν₁ = (D4, o4) :: ν ∧ m₁ "code" = some (.ref x) ∧ m₁ "at" = some (.int k u) ∧ m₁ "row" = some (.ref b)) ⟨oi2, rfl, hoi2⟩ (fun p hp => ltN' (hit2 p hp)) (.head _) ⟨rfl, hm1, hm2, hm3⟩ (fun _ h => h) ?_ ?_
    · rintro j m₂ ν₁ v δ b' hj ⟨rfl, hm1, hm2, hm3⟩ hcl hsrc ⟨hv, rfl⟩ _ hB'
      obtain ⟨i, hi, ti, rfl⟩ := hgs.at hv
      obtain ⟨hi0, hi1⟩ := hg.fols i (List.mem_of_getElem? hi)
      with_reducible refine ev_assignName ?_
      ((with_reducible refine' ev_store ?_ ?qL ?qk ?qx); (case qL => with_unfolding_all rfl); (case qk => with_unfolding_all rfl); (case qx => with_unfolding_all rfl))
      with_reducible refine ev_cons ?_
      with_reducible refine ev_If ?_
      with_reducible refine ev_isOr ?_
      with_reducible refine ev_isNot ?_
      ((with_reducible refine' ev_isPlain ?_ ?qe); (case qe => with_unfolding_all rfl))
      ((with_reducible refine' ev_Call ?_ ?qe); (case qe => with_unfolding_all rfl))
      ((with_reducible refine' ev_bltn ?qez ?qv ?_ ?qn ?qg ?qb ?qk ?qx ?qd); (case qg => with_unfolding_all rfl); (case qb => with_unfolding_all rfl); (case qk => with_unfolding_all rfl); (case qx => with_unfolding_all rfl); (case qd => decide); (case qn => decide); (case qez => k_is); (case qv => first | boot_fast | boot_by_name))
      ((with_reducible refine' ev_cwB_0 ?_ ?qe ?qp); (case qe => with_unfolding_all rfl); (case qp => with_unfolding_all rfl))
      ((with_reducible refine' ev_spl ?_ ?qe); (case qe => with_unfolding_all rfl))
      ((with_reducible refine' ev_local ?qvz ?_ ?qL ?qk ?qx ?qd); (case qL => with_unfolding_all rfl); (case qk => with_unfolding_all rfl); (case qx => with_unfolding_all rfl); (case qd => decide); (case qvz => walk_at "zlk"))
      ((with_reducible refine' ev_spl ?_ ?qe); (case qe => with_unfolding_all rfl))
      ((with_reducible refine' ev_bltn ?qez ?qv ?_ ?qn ?qg ?qb ?qk ?qx ?qd); (case qg => with_unfolding_all rfl); (case qb => with_unfolding_all rfl); (case qk => with_unfolding_all rfl); (case qx => with_unfolding_all rfl); (case qd => decide); (case qn => decide); (case qez => k_is); (case qv => first | boot_fast | boot_by_name))
      with_reducible refine ev_spl0 ?_
      with_reducible refine ev_isiInt ?_
      with_reducible refine ev_truthyB ?_
      with_reducible refine ite_isF (b := !true) rfl ?_
      with_reducible refine ev_isOr ?_
      with_reducible refine ev_isNot ?_
      ((with_reducible refine' ev_isChain ?_ ?qs); (case qs => with_unfolding_all rfl))
      ((with_reducible refine ev_int ?_); intro _)
      ((with_reducible refine' ev_local ?qvz ?_ ?qL ?qk ?qx ?qd); (case qL => with_unfolding_all rfl); (case qk => with_unfolding_all rfl); (case qx => with_unfolding_all rfl); (case qd => decide); (case qvz => walk_at "zlk"))
      with_reducible refine ev_le ?_
      with_reducible refine ev_truthyB ?_
      refine ite_isT (decide_eq_true hi0) ?_
      ((with_reducible refine' ev_Call ?_ ?qe); (case qe => with_unfolding_all rfl))
      ((with_reducible refine' ev_bltn ?qez ?qv ?_ ?qn ?qg ?qb ?qk ?qx ?qd); (case qg => with_unfolding_all rfl); (case qb => with_unfolding_all rfl); (case qk => with_unfolding_all rfl); (case qx => with_unfolding_all rfl); (case qd => decide); (case qn => decide); (case qez => k_is); (case qv => first | boot_fast | boot_by_name))
      ((with_reducible refine' ev_cwB_0 ?_ ?qe ?qp); (case qe => with_unfolding_all rfl); (case qp => with_unfolding_all rfl))
      ((with_reducible refine' ev_spl ?_ ?qe); (case qe => with_unfolding_all rfl))
      ((with_reducible refine' ev_Attr ?_ ?qe); (case qe => with_unfolding_all rfl))
      ((with_reducible refine' ev_local ?qvz ?_ ?qL ?qk ?qx ?qd); (case qL => with_unfolding_all rfl); (case qk => with_unfolding_all rfl); (case qx => with_unfolding_all rfl); (case qd => decide); (case qvz => walk_at "zlk"))
      ((with_reducible refine' ev_getAttr ?qx ?qdx ?qg ?qh ?qa ?qn ?ql ?qv ?_); (case qx => walk_at "zmem"); (case qdx => walk_at "zmem"); (case ql => assumption); (case qg => k_is); (case qh => k_is); (case qa => k_is); (case qn => k_is); (case qv => exact rfl))
      with_reducible refine ev_spl0 ?_
      ((with_reducible refine' ev_lenT ?qm ?qo ?qf ?_); (case qm => walk_at "zmem"); (case qo => walk_at "zo"); (case qf => walk_at "zlen"); intro _)
      with_reducible refine ev_lt ?_
      with_reducible refine ev_truthyB ?_
      refine ite_isF (b := !decide (i < vs.length)) (by rw [decide_eq_true (by rw [hrs.length]; exact hi1)]; rfl) ?_
      with_reducible refine ev_isOr0 ?_
      with_reducible refine ite_F ?_
      with_reducible refine ev_nil ?_
      with_reducible refine then_next ?_
      with_reducible refine ev_nil ?_
      exact ⟨(D4, o4) :: ν, by walk_at "zsub", hcl, hsrc, rfl, by walk_at "zlk", by walk_at "zlk", by walk_at "zlk"⟩
    rintro m₂ ν₁ ⟨rfl, hm1, hm2, hm3⟩ _ _
    refine then_next ?_
    refine ev_sub (ν' := ν) ?_ (fun p hp => .tail _ hp)
    refine ev_consSame ?_ (ev_consSame ?_ (ev_consSame ?_ (ev_consSame ?_ ?_)))
    · with_reducible refine ev_If ?_
      with_reducible refine ev_isAnd ?_
      ((with_reducible refine' ev_isCompare ?_ ?qs); (case qs => with_unfolding_all rfl))
      with_reducible refine ev_Sub ?_
      ((with_reducible refine' ev_local ?qvz ?_ ?qL ?qk ?qx ?qd); (case qL => with_unfolding_all rfl); (case qk => with_unfolding_all rfl); (case qx => with_unfolding_all rfl); (case qd => decide); (case qvz => walk_at "zlk"))
      ((with_reducible refine ev_int ?_); intro _)
      ((with_reducible refine' ev_itemTN ?qm ?qo ?q0 ?q1 ?qx ?_ ?qs); (case qs => with_unfolding_all rfl); (case qm => walk_at "zmem"); (case qo => walk_at "zo"); (case q0 => decide); (case q1 => decide); (case qx => exact rfl))
      ((with_reducible refine ev_str ?_); intro _)
      with_reducible refine ev_eqS ?_
      with_reducible refine ev_truthyB ?_
      refine ite_B (fun hb => ?_) (fun hb => ?_)
      · obtain ⟨d, hp⟩ := hg.stat (by simpa using hb)
        rw [hp] at ha
        obtain ⟨⟩ | ⟨x1, ⟨⟩ | ⟨x2, ⟨⟩⟩⟩ := ha
        obtain ⟨tt, rfl⟩ := x2
        with_reducible refine ev_isAnd ?_
        ((with_reducible refine' ev_isCompare ?_ ?qs); (case qs => with_unfolding_all rfl))
        with_reducible refine ev_Sub ?_
        ((with_reducible refine' ev_local ?qvz ?_ ?qL ?qk ?qx ?qd); (case qL => with_unfolding_all rfl); (case qk => with_unfolding_all rfl); (case qx => with_unfolding_all rfl); (case qd => decide); (case qvz => walk_at "zlk"))
        ((with_reducible refine ev_int ?_); intro _)
        ((with_reducible refine' ev_itemTN ?qm ?qo ?q0 ?q1 ?qx ?_ ?qs); (case qs => with_unfolding_all rfl); (case qm => walk_at "zmem"); (case qo => walk_at "zo"); (case q0 => decide); (case q1 => decide); (case qx => exact rfl))
        ((with_reducible refine' ev_Attr ?_ ?qe); (case qe => with_unfolding_all rfl))
        ((with_reducible refine' ev_local ?qvz ?_ ?qL ?qk ?qx ?qd); (case qL => with_unfolding_all rfl); (case qk => with_unfolding_all rfl); (case qx => with_unfolding_all rfl); (case qd => decide); (case qvz => walk_at "zlk"))
        ((with_reducible refine' ev_getAttr ?qx ?qdx ?qg ?qh ?qa ?qn ?ql ?qv ?_); (case qx => walk_at "zmem"); (case qdx => walk_at "zmem"); (case ql => assumption); (case qg => k_is); (case qh => k_is); (case qa => k_is); (case qn => k_is); (case qv => exact rfl))
        refine ev_notInTupL (by walk_at "zmem") hst' (StrsAre.cons _ _ StrsAre.nil) ?_
        with_reducible refine ev_truthyB ?_
        refine ite_isF (by decide) ?_
        with_reducible refine ite_F ?_
        with_reducible refine ev_nil ?_
        exact ⟨rfl, rfl, rfl⟩
      · with_reducible refine ite_F ?_
        with_reducible refine ev_nil ?_
        exact ⟨rfl, rfl, rfl⟩
    · with_reducible refine ev_If ?_
      with_reducible refine ev_isAnd ?_
      ((with_reducible refine' ev_isCompare ?_ ?qs); (case qs => with_unfolding_all rfl))
      with_reducible refine ev_Sub ?_
      ((with_reducible refine' ev_local ?qvz ?_ ?qL ?qk ?qx ?qd); (case qL => with_unfolding_all rfl); (case qk => with_unfolding_all rfl); (case qx => with_unfolding_all rfl); (case qd => decide); (case qvz => walk_at "zlk"))
      ((with_reducible refine ev_int ?_); intro _)
      ((with_reducible refine' ev_itemTN ?qm ?qo ?q0 ?q1 ?qx ?_ ?qs); (case qs => with_unfolding_all rfl); (case qm => walk_at "zmem"); (case qo => walk_at "zo"); (case q0 => decide); (case q1 => decide); (case qx => exact rfl))
      ((with_reducible refine ev_str ?_); intro _)
      with_reducible refine ev_eqS ?_
      with_reducible refine ev_truthyB ?_
      refine ite_B (fun hb => ?_) (fun hb => ?_)
      · obtain ⟨d, hp⟩ := hg.capt (by simpa using hb)
        rw [hp] at ha
        obtain ⟨⟩ | ⟨x1, ⟨⟩ | ⟨x2, ⟨⟩⟩⟩ := ha
        obtain ⟨tt, rfl⟩ := x2
        have h1c : [Value.str "x" t2].length < 2 ^ 40 := show 1 < 2 ^ 40 by decide
        with_reducible refine ev_isAnd ?_
        with_reducible refine ev_isNot ?_
        ((with_reducible refine' ev_isChain ?_ ?qs); (case qs => with_unfolding_all rfl))
        ((with_reducible refine ev_int ?_); intro _)
        with_reducible refine ev_Sub ?_
        ((with_reducible refine' ev_local ?qvz ?_ ?qL ?qk ?qx ?qd); (case qL => with_unfolding_all rfl); (case qk => with_unfolding_all rfl); (case qx => with_unfolding_all rfl); (case qd => decide); (case qvz => walk_at "zlk"))
        ((with_reducible refine ev_int ?_); intro _)
        ((with_reducible refine' ev_itemTN ?qm ?qo ?q0 ?q1 ?qx ?_ ?qs); (case qs => with_unfolding_all rfl); (case qm => walk_at "zmem"); (case qo => walk_at "zo"); (case q0 => decide); (case q1 => decide); (case qx => exact rfl))
        with_reducible refine ev_le ?_
        with_reducible refine ev_truthyB ?_
        refine ite_isT (by decide) ?_
        ((with_reducible refine' ev_Call ?_ ?qe); (case qe => with_unfolding_all rfl))
        ((with_reducible refine' ev_bltn ?qez ?qv ?_ ?qn ?qg ?qb ?qk ?qx ?qd); (case qg => with_unfolding_all rfl); (case qb => with_unfolding_all rfl); (case qk => with_unfolding_all rfl); (case qx => with_unfolding_all rfl); (case qd => decide); (case qn => decide); (case qez => k_is); (case qv => first | boot_fast | boot_by_name))
        ((with_reducible refine' ev_cwB_0 ?_ ?qe ?qp); (case qe => with_unfolding_all rfl); (case qp => with_unfolding_all rfl))
        ((with_reducible refine' ev_spl ?_ ?qe); (case qe => with_unfolding_all rfl))
        ((with_reducible refine' ev_Attr ?_ ?qe); (case qe => with_unfolding_all rfl))
        ((with_reducible refine' ev_local ?qvz ?_ ?qL ?qk ?qx ?qd); (case qL => with_unfolding_all rfl); (case qk => with_unfolding_all rfl); (case qx => with_unfolding_all rfl); (case qd => decide); (case qvz => walk_at "zlk"))
        ((with_reducible refine' ev_getAttr ?qx ?qdx ?qg ?qh ?qa ?qn ?ql ?qv ?_); (case qx => walk_at "zmem"); (case qdx => walk_at "zmem"); (case ql => assumption); (case qg => k_is); (case qh => k_is); (case qa => k_is); (case qn => k_is); (case qv => exact rfl))
        with_reducible refine ev_spl0 ?_
        ((with_reducible refine' ev_lenT ?qm ?qo ?qf ?_); (case qm => walk_at "zmem"); (case qo => walk_at "zo"); (case qf => walk_at "zlen"); intro _)
        with_reducible refine ev_lt ?_
        with_reducible refine ev_truthyB ?_
        refine ite_isF rfl ?_
        with_reducible refine ite_F ?_
        with_reducible refine ev_nil ?_
        exact ⟨rfl, rfl, rfl⟩
      · with_reducible refine ite_F ?_
        with_reducible refine ev_nil ?_
        exact ⟨rfl, rfl, rfl⟩
    · with_reducible refine ev_If ?_
      with_reducible refine ev_isAnd ?_
      ((with_reducible refine' ev_isCompare ?_ ?qs); (case qs => with_unfolding_all rfl))
      with_reducible refine ev_Sub ?_
      ((with_reducible refine' ev_local ?qvz ?_ ?qL ?qk ?qx ?qd); (case qL => with_unfolding_all rfl); (case qk => with_unfolding_all rfl); (case qx => with_unfolding_all rfl); (case qd => decide); (case qvz => walk_at "zlk"))
      ((with_reducible refine ev_int ?_); intro _)
      ((with_reducible refine' ev_itemTN ?qm ?qo ?q0 ?q1 ?qx ?_ ?qs); (case qs => with_unfolding_all rfl); (case qm => walk_at "zmem"); (case qo => walk_at "zo"); (case q0 => decide); (case q1 => decide); (case qx => exact rfl))
      ((with_reducible refine ev_str ?_); intro _)
      with_reducible refine ev_eqS ?_
      with_reducible refine ev_truthyB ?_
      refine ite_B (fun hb => ?_) (fun hb => ?_)
      · obtain ⟨d, sx, a1, b1, hp⟩ := hg.splat (by simpa using hb)
        rw [hp] at ha
        obtain ⟨⟩ | ⟨x1, ⟨⟩ | ⟨x2, ⟨⟩ | ⟨x3, ⟨⟩ | ⟨x4, ⟨⟩⟩⟩⟩⟩ := ha
        obtain ⟨b3, o3', vs3, rfl, hm3', ho3', ha3⟩ := x3
        obtain ⟨b4, o4', vs4, rfl, hm4', ho4', ha4⟩ := x4
        have l3 : vs3.length = 1 := ha3.length
        have l4 : vs4.length = 1 := ha4.length
        have h3c : vs3.length < 2 ^ 40 := by rw [l3]; decide
        have h4c : vs4.length < 2 ^ 40 := by rw [l4]; decide
        with_reducible refine ev_isAnd ?_
        ((with_reducible refine' ev_isCompare ?_ ?qs); (case qs => with_unfolding_all rfl))
        ((with_reducible refine' ev_Call ?_ ?qe); (case qe => with_unfolding_all rfl))
        ((with_reducible refine' ev_bltn ?qez ?qv ?_ ?qn ?qg ?qb ?qk ?qx ?qd); (case qg => with_unfolding_all rfl); (case qb => with_unfolding_all rfl); (case qk => with_unfolding_all rfl); (case qx => with_unfolding_all rfl); (case qd => decide); (case qn => decide); (case qez => k_is); (case qv => first | boot_fast | boot_by_name))
        ((with_reducible refine' ev_cwB_0 ?_ ?qe ?qp); (case qe => with_unfolding_all rfl); (case qp => with_unfolding_all rfl))
        ((with_reducible refine' ev_spl ?_ ?qe); (case qe => with_unfolding_all rfl))
        with_reducible refine ev_Sub ?_
        ((with_reducible refine' ev_local ?qvz ?_ ?qL ?qk ?qx ?qd); (case qL => with_unfolding_all rfl); (case qk => with_unfolding_all rfl); (case qx => with_unfolding_all rfl); (case qd => decide); (case qvz => walk_at "zlk"))
        ((with_reducible refine ev_int ?_); intro _)
        ((with_reducible refine' ev_itemTN ?qm ?qo ?q0 ?q1 ?qx ?_ ?qs); (case qs => with_unfolding_all rfl); (case qm => walk_at "zmem"); (case qo => walk_at "zo"); (case q0 => decide); (case q1 => decide); (case qx => exact rfl))
        with_reducible refine ev_spl0 ?_
        ((with_reducible refine' ev_lenT ?qm ?qo ?qf ?_); (case qm => walk_at "zmem"); (case qo => walk_at "zo"); (case qf => walk_at "zlen"); intro _)
        ((with_reducible refine' ev_Call ?_ ?qe); (case qe => with_unfolding_all rfl))
        ((with_reducible refine' ev_bltn ?qez ?qv ?_ ?qn ?qg ?qb ?qk ?qx ?qd); (case qg => with_unfolding_all rfl); (case qb => with_unfolding_all rfl); (case qk => with_unfolding_all rfl); (case qx => with_unfolding_all rfl); (case qd => decide); (case qn => decide); (case qez => k_is); (case qv => first | boot_fast | boot_by_name))
        ((with_reducible refine' ev_cwB_0 ?_ ?qe ?qp); (case qe => with_unfolding_all rfl); (case qp => with_unfolding_all rfl))
        ((with_reducible refine' ev_spl ?_ ?qe); (case qe => with_unfolding_all rfl))
        with_reducible refine ev_Sub ?_
        ((with_reducible refine' ev_local ?qvz ?_ ?qL ?qk ?qx ?qd); (case qL => with_unfolding_all rfl); (case qk => with_unfolding_all rfl); (case qx => with_unfolding_all rfl); (case qd => decide); (case qvz => walk_at "zlk"))
        ((with_reducible refine ev_int ?_); intro _)
        ((with_reducible refine' ev_itemTN ?qm ?qo ?q0 ?q1 ?qx ?_ ?qs); (case qs => with_unfolding_all rfl); (case qm => walk_at "zmem"); (case qo => walk_at "zo"); (case q0 => decide); (case q1 => decide); (case qx => exact rfl))
        with_reducible refine ev_spl0 ?_
        ((with_reducible refine' ev_lenT ?qm ?qo ?qf ?_); (case qm => walk_at "zmem"); (case qo => walk_at "zo"); (case qf => walk_at "zlen"); intro _)
        with_reducible refine ev_ne ?_
        with_reducible refine ev_truthyB ?_
        refine ite_isF (by rw [l3, l4]; rfl) ?_
        with_reducible refine ite_F ?_
        with_reducible refine ev_nil ?_
        exact ⟨rfl, rfl, rfl⟩
      · with_reducible refine ite_F ?_
        with_reducible refine ev_nil ?_
        exact ⟨rfl, rfl, rfl⟩
    · with_reducible refine ev_If ?_
      with_reducible refine ev_isAnd ?_
      ((with_reducible refine' ev_isCompare ?_ ?qs); (case qs => with_unfolding_all rfl))
      with_reducible refine ev_Sub ?_
      ((with_reducible refine' ev_local ?qvz ?_ ?qL ?qk ?qx ?qd); (case qL => with_unfolding_all rfl); (case qk => with_unfolding_all rfl); (case qx => with_unfolding_all rfl); (case qd => decide); (case qvz => walk_at "zlk"))
      ((with_reducible refine ev_int ?_); intro _)
      ((with_reducible refine' ev_itemTN ?qm ?qo ?q0 ?q1 ?qx ?_ ?qs); (case qs => with_unfolding_all rfl); (case qm => walk_at "zmem"); (case qo => walk_at "zo"); (case q0 => decide); (case q1 => decide); (case qx => exact rfl))
      ((with_reducible refine ev_str ?_); intro _)
      with_reducible refine ev_eqS ?_
      with_reducible refine ev_truthyB ?_
      refine ite_B (fun hb => ?_) (fun hb => ?_)
      · obtain ⟨d, sx, a1, b1, e1, hp⟩ := hg.kw (by simpa using hb)
        rw [hp] at ha
        obtain ⟨⟩ | ⟨x1, ⟨⟩ | ⟨x2, ⟨⟩ | ⟨x3, ⟨⟩ | ⟨x4, ⟨⟩ | ⟨x5, ⟨⟩⟩⟩⟩⟩⟩ := ha
        obtain ⟨b3, o3', vs3, rfl, hm3', ho3', ha3⟩ := x3
        obtain ⟨b4, o4', vs4, rfl, hm4', ho4', ha4⟩ := x4
        have l3 : vs3.length = 1 := ha3.length
        have l4 : vs4.length = 1 := ha4.length
        have h3c : vs3.length < 2 ^ 40 := by rw [l3]; decide
        have h4c : vs4.length < 2 ^ 40 := by rw [l4]; decide
        with_reducible refine ev_isAnd ?_
        ((with_reducible refine' ev_isCompare ?_ ?qs); (case qs => with_unfolding_all rfl))
        ((with_reducible refine' ev_Call ?_ ?qe); (case qe => with_unfolding_all rfl))
        ((with_reducible refine' ev_bltn ?qez ?qv ?_ ?qn ?qg ?qb ?qk ?qx ?qd); (case qg => with_unfolding_all rfl); (case qb => with_unfolding_all rfl); (case qk => with_unfolding_all rfl); (case qx => with_unfolding_all rfl); (case qd => decide); (case qn => decide); (case qez => k_is); (case qv => first | boot_fast | boot_by_name))
        ((with_reducible refine' ev_cwB_0 ?_ ?qe ?qp); (case qe => with_unfolding_all rfl); (case qp => with_unfolding_all rfl))
        ((with_reducible refine' ev_spl ?_ ?qe); (case qe => with_unfolding_all rfl))
        with_reducible refine ev_Sub ?_
        ((with_reducible refine' ev_local ?qvz ?_ ?qL ?qk ?qx ?qd); (case qL => with_unfolding_all rfl); (case qk => with_unfolding_all rfl); (case qx => with_unfolding_all rfl); (case qd => decide); (case qvz => walk_at "zlk"))
        ((with_reducible refine ev_int ?_); intro _)
        ((with_reducible refine' ev_itemTN ?qm ?qo ?q0 ?q1 ?qx ?_ ?qs); (case qs => with_unfolding_all rfl); (case qm => walk_at "zmem"); (case qo => walk_at "zo"); (case q0 => decide); (case q1 => decide); (case qx => exact rfl))
        with_reducible refine ev_spl0 ?_
        ((with_reducible refine' ev_lenT ?qm ?qo ?qf ?_); (case qm => walk_at "zmem"); (case qo => walk_at "zo"); (case qf => walk_at "zlen"); intro _)
        ((with_reducible refine' ev_Call ?_ ?qe); (case qe => with_unfolding_all rfl))
        ((with_reducible refine' ev_bltn ?qez ?qv ?_ ?qn ?qg ?qb ?qk ?qx ?qd); (case qg => with_unfolding_all rfl); (case qb => with_unfolding_all rfl); (case qk => with_unfolding_all rfl); (case qx => with_unfolding_all rfl); (case qd => decide); (case qn => decide); (case qez => k_is); (case qv => first | boot_fast | boot_by_name))
        ((with_reducible refine' ev_cwB_0 ?_ ?qe ?qp); (case qe => with_unfolding_all rfl); (case qp => with_unfolding_all rfl))
        ((with_reducible refine' ev_spl ?_ ?qe); (case qe => with_unfolding_all rfl))
        with_reducible refine ev_Sub ?_
        ((with_reducible refine' ev_local ?qvz ?_ ?qL ?qk ?qx ?qd); (case qL => with_unfolding_all rfl); (case qk => with_unfolding_all rfl); (case qx => with_unfolding_all rfl); (case qd => decide); (case qvz => walk_at "zlk"))
        ((with_reducible refine ev_int ?_); intro _)
        ((with_reducible refine' ev_itemTN ?qm ?qo ?q0 ?q1 ?qx ?_ ?qs); (case qs => with_unfolding_all rfl); (case qm => walk_at "zmem"); (case qo => walk_at "zo"); (case q0 => decide); (case q1 => decide); (case qx => exact rfl))
        with_reducible refine ev_spl0 ?_
        ((with_reducible refine' ev_lenT ?qm ?qo ?qf ?_); (case qm => walk_at "zmem"); (case qo => walk_at "zo"); (case qf => walk_at "zlen"); intro _)
        with_reducible refine ev_ne ?_
        with_reducible refine ev_truthyB ?_
        refine ite_isF (by rw [l3, l4]; rfl) ?_
        with_reducible refine ite_F ?_
        with_reducible refine ev_nil ?_
        exact ⟨rfl, rfl, rfl⟩
      · with_reducible refine ite_F ?_
        with_reducible refine ev_nil ?_
        exact ⟨rfl, rfl, rfl⟩
    · with_reducible refine ev_nil ?_
      exact ⟨_, fun p hp => hp, h⟩

theorem filter_lt {α : Type} (p q : α → Bool) (a : α) (hq : ∀ x, q x = true → p x = true) (h1 : p a = true) (h2 : q a = false) : ∀ l : List α, a ∈ l → (l.filter q).length < (l.filter p).length := by
  have le : ∀ l : List α, (l.filter q).length ≤ (l.filter p).length := by
    intro l
    induction l with
    | nil => exact Nat.le_refl _
    | cons x l ih =>
      cases hx : q x with
      | true => simp [List.filter_cons, hx, hq x hx, ih]
      | false =>
        cases hp : p x with
        | true => simp [List.filter_cons, hx, hp]; omega
        | false => simp [List.filter_cons, hx, hp, ih]
  intro l
  induction l with
  | nil => intro h; cases h
  | cons x l ih =>
    intro h
    rcases List.mem_cons.mp h with rfl | h
    · simp [List.filter_cons, h1, h2]; exact Nat.lt_succ_of_le (le l)
    · have := ih h
      cases hx : q x with
      | true => simp [List.filter_cons, hx, hq x hx, this]
      | false =>
        cases hp : p x with
        | true => simp [List.filter_cons, hx, hp]; omega
        | false => simp [List.filter_cons, hx, hp, this]
theorem valueAt_new {kvs : List (Int × Value)} {k : Int} {v : Value} (h : valueAt kvs k = none) : stored kvs k v = kvs ++ [(k, v)] ∧ ∀ x, valueAt (kvs ++ [(k, v)]) x = if x = k then some v else valueAt kvs x := by
  have hn : ∀ p ∈ kvs, p.1 ≠ k := by
    intro p hp e
    unfold valueAt at h
    rw [Option.map_eq_none_iff, List.find?_eq_none] at h
    exact h p hp (by simpa using e)
  refine ⟨?_, fun x => ?_⟩
  · unfold stored
    rw [if_neg]
    simp only [List.any_eq_true, decide_eq_true_eq, not_exists, not_and]
    exact fun p hp => hn p hp
  · unfold valueAt
    rw [List.find?_append]
    by_cases hx : x = k
    · subst hx
      have : kvs.find? (fun kv => decide (kv.1 = x)) = none := by
        rw [List.find?_eq_none]; intro p hp; simpa using hn p hp
      rw [this]; simp
    · have : ¬ k = x := fun e => hx e.symm
      cases hf : kvs.find? (fun kv => decide (kv.1 = x)) with
      | none => simp [hx, this]
      | some p => simp [hx]
def unv (N : Nat) (kvs : List (Int × Value)) : Nat := ((List.range N).filter fun n : Nat => (valueAt kvs (n : Int)).isNone).length
theorem unv_lt {N a : Nat} {kvs : List (Int × Value)} {v : Value} (ha : a < N) (h : valueAt kvs a = none) : unv N (kvs ++ [((a : Int), v)]) < unv N kvs := by
  refine filter_lt _ _ a (fun x hx => ?_) (by rw [h]; rfl) (by rw [(valueAt_new h).2]; simp) _ (List.mem_range.mpr ha)
  rw [(valueAt_new h).2] at hx
  by_cases e : (x : Int) = a
  · rw [if_pos e] at hx; cases hx
  · rw [if_neg e] at hx; exact hx
/-- behind a row at depth d: e -/
def Behind (r : Row) (d e : Int) : Prop := (r.name = "enter" ∧ e = d + 1) ∨ (r.name ≠ "enter" ∧ r.name ≠ "leave" ∧ e = d) ∨ (r.name = "leave" ∧ ∃ n, r.parts = [.x (.one (.int n))] ∧ 1 ≤ n ∧ n ≤ d ∧ e = d - n)
def toldAt (r : Row) (k : Nat) (d e : Int) (g : Int) : Int := if r.name = "enter" ∧ r.goals = [g] ∧ g ≠ (k : Int) + 1 then d else e
/-- the depths told by dep fit the row -/
def DepRow (dep : Int → Int) (k : Nat) (r : Row) : Prop := (r.name = "enter" → ∃ n, r.parts = [.g n]) ∧ ∃ e, Behind r (dep k) e ∧ ∀ g ∈ fol r k, dep g = toldAt r k (dep k) e g
inductive Rch (rs : List Row) : Nat → Prop
  | zero : Rch rs 0
  | step {k g : Nat} {r : Row} : Rch rs k → rs[k]? = some r → (g : Int) ∈ fol r k → Rch rs g
/-- what depths_of tells -/
def DepD (rs : List Row) (dep : Int → Int) (kvs : List (Int × Value)) : Prop :=
  (∀ k v, valueAt kvs k = some v → ∃ n : Nat, k = n ∧ Rch rs n ∧ ∃ t, v = .int (dep n) t) ∧ ∀ n, Rch rs n → (valueAt kvs n).isSome = true
theorem fol_len {r : Row} {k : Nat} (hs : Shaped r) : (fol r k).length ≤ 6 := by
  have := goals_len hs
  unfold fol
  rw [List.length_append]
  cases isEnd r.name with
  | true => exact Nat.le_trans (Nat.add_le_add (Nat.le_refl 0) this) (by decide)
  | false => exact Nat.le_trans (Nat.add_le_add (Nat.le_refl 1) this) (by decide)

theorem AllV.unsnoc {α : Type} {S : α → Value → Prop} : ∀ {as : List α} {vs : List Value}, AllV S as vs → as ≠ [] → ∃ as' a vs' v, as = as' ++ [a] ∧ vs = vs' ++ [v] ∧ AllV S as' vs' ∧ S a v
  | _, _, .nil, h => absurd rfl h
  | _, _, .cons (a := a) (v := v) (as := as) (vs := vs) x r, _ => by
    cases r with
    | nil => exact ⟨[], a, [], v, rfl, rfl, .nil, x⟩
    | cons y r' =>
      obtain ⟨as', a', vs', v', e1, e2, h1, h2⟩ := (AllV.cons y r').unsnoc (by simp)
      exact ⟨a :: as', a', v :: vs', v', by rw [e1]; rfl, by rw [e2]; rfl, .cons x h1, h2⟩
/-- what stands at the head of depths_of's loop -/
structure DepI (rs : List Row) (dep : Int → Int) (kvs : List (Int × Value)) (W : List (Int × Int)) : Prop where
  sound : ∀ k v, valueAt kvs k = some v → ∃ n : Nat, k = n ∧ Rch rs n ∧ ∃ t, v = .int (dep n) t
  wait : ∀ p ∈ W, ∃ n : Nat, p.1 = n ∧ n < rs.length ∧ Rch rs n ∧ p.2 = dep n
  closed : ∀ (n : Nat) r, (valueAt kvs n).isSome = true → rs[n]? = some r → ∀ g ∈ fol r n, (valueAt kvs g).isSome = true ∨ ∃ p ∈ W, p.1 = g
  zero : (valueAt kvs 0).isSome = true ∨ ∃ p ∈ W, p.1 = 0
  size : kvs.length + unv rs.length kvs ≤ rs.length
theorem DepI.done {rs : List Row} {dep : Int → Int} {kvs : List (Int × Value)} (h : DepI rs dep kvs []) : DepD rs dep kvs := by
  refine ⟨h.sound, fun n hn => ?_⟩
  induction hn with
  | zero => rcases h.zero with x | ⟨p, hp, _⟩; exact x; cases hp
  | step hk hr hg ih => rcases h.closed _ _ ih hr _ hg with x | ⟨p, hp, _⟩; exact x; cases hp
theorem DepI.drop {rs : List Row} {dep : Int → Int} {kvs : List (Int × Value)} {W : List (Int × Int)} {p : Int × Int} (h : DepI rs dep kvs (W ++ [p])) (hp : (valueAt kvs p.1).isSome = true) : DepI rs dep kvs W := by
  have back : ∀ g, (valueAt kvs g).isSome = true ∨ (∃ q ∈ W ++ [p], q.1 = g) → (valueAt kvs g).isSome = true ∨ ∃ q ∈ W, q.1 = g := by
    rintro g (x | ⟨q, hq, rfl⟩)
    · exact .inl x
    · rcases List.mem_append.mp hq with hq | hq
      · exact .inr ⟨q, hq, rfl⟩
      · rw [List.mem_singleton] at hq; subst hq; exact .inl hp
  exact ⟨h.sound, fun q hq => h.wait q (List.mem_append_left _ hq), fun n r a b g hg => back g (h.closed n r a b g hg), back 0 h.zero, h.size⟩
theorem DepI.visit {rs : List Row} {dep : Int → Int} {kvs : List (Int × Value)} {W : List (Int × Int)} {a : Nat} {r : Row} {t : Tok} (h : DepI rs dep kvs (W ++ [((a : Int), dep a)])) (hn : valueAt kvs a = none) (ha : rs[a]? = some r) (hra : Rch rs a) (hgs : ∀ g ∈ fol r a, 0 ≤ g ∧ g < rs.length) :
    DepI rs dep (kvs ++ [((a : Int), Value.int (dep a) t)]) (W ++ (fol r a).map fun g => (g, dep g)) ∧ unv rs.length (kvs ++ [((a : Int), Value.int (dep a) t)]) < unv rs.length kvs := by
  have va := (valueAt_new (v := Value.int (dep a) t) hn).2
  have lt := unv_lt (v := Value.int (dep a) t) (List.getElem?_eq_some_iff.mp ha).1 hn
  have some1 : ∀ g, (valueAt kvs g).isSome = true → (valueAt (kvs ++ [((a : Int), Value.int (dep a) t)]) g).isSome = true := by
    intro g hg
    rw [va]
    split
    · rfl
    · exact hg
  have here : (valueAt (kvs ++ [((a : Int), Value.int (dep a) t)]) a).isSome = true := by rw [va, if_pos rfl]; rfl
  have back : ∀ g, (valueAt kvs g).isSome = true ∨ (∃ q ∈ W ++ [((a : Int), dep a)], q.1 = g) → (valueAt (kvs ++ [((a : Int), Value.int (dep a) t)]) g).isSome = true ∨ ∃ q ∈ W ++ (fol r a).map fun g => (g, dep g), q.1 = g := by
    rintro g (x | ⟨q, hq, rfl⟩)
    · exact .inl (some1 g x)
    · rcases List.mem_append.mp hq with hq | hq
      · exact .inr ⟨q, List.mem_append_left _ hq, rfl⟩
      · rw [List.mem_singleton] at hq; subst hq; exact .inl here
  refine ⟨⟨fun k v e => ?_, fun q hq => ?_, fun n r' e hr' g hg => ?_, back 0 h.zero, ?_⟩, lt⟩
  · rw [va] at e
    split at e
    · rename_i hk
      cases e
      exact ⟨a, hk, hra, _, rfl⟩
    · exact h.sound k v e
  · rcases List.mem_append.mp hq with hq | hq
    · exact h.wait q (List.mem_append_left _ hq)
    · obtain ⟨g, hg, rfl⟩ := List.mem_map.mp hq
      obtain ⟨h0, h1⟩ := hgs g hg
      obtain ⟨n, rfl⟩ := Int.eq_ofNat_of_zero_le h0
      exact ⟨n, rfl, by omega, .step hra ha hg, rfl⟩
  · by_cases hna : n = a
    · subst hna
      rw [ha] at hr'
      cases hr'
      exact .inr ⟨(g, dep g), List.mem_append_right _ (List.mem_map_of_mem hg), rfl⟩
    · rw [va, if_neg (by omega)] at e
      exact back g (h.closed n r' e hr' g hg)
  · have := h.size
    simp only [List.length_append, List.length_singleton]
    omega

theorem c_depths_of {c : Cx} {m : Loc} {ν : Led} {P : Value → Loc → Led → Prop} {R : RX} {x rt st cp mk : Addr} {nm : Str} {ar sl : Int} {rs : List Row} {vs : List Value} {ort : Obj} {dep : Int → Int} (hr : Room c 10) (hx : CodeAt ν x nm ar sl rt st cp mk) (hrt : (rt, ort) ∈ ν) (hrt' : TupO ort vs) (hrs : RowsV ν rs vs)
    (hk1 : rs.length < 1000) (hk0 : 0 < rs.length) (hg : ∀ k r, rs[k]? = some r → Shaped r ∧ (∀ g ∈ fol r k, 0 ≤ g ∧ g < rs.length) ∧ DepRow dep k r) (hd0 : dep 0 = 0)
    (h : ∀ d o kvs, Above d ν → (d == sysModules) = false → DicO c o kvs → DepD rs dep kvs → P (.ref d) m ((d, o) :: ν)) : EV c m ν (call (.ref 151) [.ref x]) P R := by
  obtain ⟨dx, es, n, hx1, hx2, hD⟩ := hx
  have h40 : vs.length < 2 ^ 40 := by rw [hrs.length]; omega
  have hro := hD.rows
  refine ev_post ?_
  refine' ev_call (n := 9) (Rb := NoX) (binds := [("code", .ref x)]) ?ho ?hcd hr ?hb ?hl ?hk ?hc ?h (fun _ _ _ _ _ _ x => x.elim)
  case ho => k_is
  case hcd => k_is
  case hb => exact fun s => BindsTo.of_eq rfl
  case hl => exact locs rfl
  case hk => exact rfl
  case hc => decide
  case h =>
    intro c' hr' hcw
    dsimp only [bnd]
    with_reducible refine ev_cons ?_
    ((with_reducible refine' ev_AssignSwap2 ?_ ?qs ?qw); (case qs => with_unfolding_all rfl); (case qw => with_unfolding_all rfl))
    with_reducible refine ev_Tuple ?_
    ((with_reducible refine' ev_spl ?_ ?qe); (case qe => with_unfolding_all rfl))
    refine ev_newDict fun d od hd hlo hod => ?_
    ((with_reducible refine' ev_spl ?_ ?qe); (case qe => with_unfolding_all rfl))
    with_reducible refine ev_List ?_
    ((with_reducible refine' ev_spl ?_ ?qe); (case qe => with_unfolding_all rfl))
    with_reducible refine ev_Tuple ?_
    ((with_reducible refine' ev_spl ?_ ?qe); (case qe => with_unfolding_all rfl))
    ((with_reducible refine ev_int ?_); intro _)
    ((with_reducible refine' ev_spl ?_ ?qe); (case qe => with_unfolding_all rfl))
    ((with_reducible refine ev_int ?_); intro _)
    with_reducible refine ev_spl0 ?_
    refine ev_newTuple (fun t0 ht0 => ?_) (by simp [sizeLine])
    with_reducible refine ev_spl0 ?_
    refine ev_newList (fun wl hwl => ?_) (by simp [sizeLine])
    with_reducible refine ev_spl0 ?_
    refine ev_newTuple (fun T hT => ?_) (by simp [sizeLine])
    refine ⟨T, _, _, _, rfl, .head _, tupO_mk, ?_⟩
    ((with_reducible refine' ev_store ?_ ?qL ?qk ?qx); (case qL => with_unfolding_all rfl); (case qk => with_unfolding_all rfl); (case qx => with_unfolding_all rfl))
    ((with_reducible refine' ev_store ?_ ?qL ?qk ?qx); (case qL => with_unfolding_all rfl); (case qk => with_unfolding_all rfl); (case qx => with_unfolding_all rfl))
    with_reducible refine then_next ?_
    with_reducible refine ev_cons ?_
    have hdn : ∀ p ∈ ν, p.1 ≠ d := hd.ne
    have hwd : wl ≠ d := gtN (hwl _ (.tail _ (.head _)))
    have hwn : ∀ p ∈ ν, p.1 ≠ wl := hwl.tail.tail.ne
    have hunv : unv rs.length [] ≤ rs.length := Nat.le_trans (List.length_filter_le _ _) (by rw [List.length_range]; exact Nat.le_refl _)
    refine ev_While (fun j m₁ ν₁ => ∃ kvs od wo δ ws W, (∀ p ∈ (d, od) :: (wl, wo) :: (δ ++ ν), p ∈ ν₁) ∧ DicO c' od kvs ∧ LstO wo ws ∧ AllV (PairV δ) W ws ∧ (∀ p ∈ δ, p.1 ≠ d) ∧ (∀ p ∈ δ, p.1 ≠ wl) ∧ DepI rs dep kvs W ∧ j = W.length + 7 * unv rs.length kvs ∧ j ≤ 7 * rs.length + 1 ∧ m₁ "code" = some (.ref x) ∧ m₁ "found" = some (.ref d) ∧ m₁ "waiting" = some (.ref wl)) (1 + 7 * unv rs.length []) ?_ ?_ outNoX
    · refine ⟨[], od, _, [(t0, _)], [.ref t0], [(0, 0)], by walk_at "zsub", hod, lstO_mk, .cons ⟨t0, _, _, _, rfl, .head _, tupO_mk⟩ .nil, ne_cons (gtN ht0.head) ne_nil, ne_cons (ltN' hwl.head) ne_nil, ⟨fun k v e => (by cases e), fun p hp => ?_, fun n r e => (by cases e), .inr ⟨_, .head _, rfl⟩, by simpa using hunv⟩, rfl, by omega, by walk_at "zlk", by walk_at "zlk", by walk_at "zlk"⟩
      rw [List.mem_singleton] at hp
      subst hp
      exact ⟨0, rfl, hk0, .zero, by rw [← hd0]; rfl⟩
    · rintro j m₁ ν₁ ⟨kvs, od, wo, δ, ws, W, hsub, hod, hwo, hW, hδd, hδw, hI, hj, hj1, hm1, hm2, hm3⟩
      refine ev_sub ?_ hsub
      have hWl : W.length ≤ 7001 := by omega
      ((with_reducible refine' ev_isCompare ?_ ?qs); (case qs => with_unfolding_all rfl))
      ((with_reducible refine' ev_local ?qvz ?_ ?qL ?qk ?qx ?qd); (case qL => with_unfolding_all rfl); (case qk => with_unfolding_all rfl); (case qx => with_unfolding_all rfl); (case qd => decide); (case qvz => walk_at "zlk"))
      with_reducible refine ev_List ?_
      with_reducible refine ev_spl0 ?_
      refine ev_newList (fun e0 he0 => ?_) (by decide)
      refine ev_neW (l := W) (by walk_at "zmem") hwo (hW.mono fun p v y => y.mono (KeepT.of (by walk_at "zsub"))) (.head _) lstO_mk (by walk_at "zroom") ?_
      with_reducible refine ev_truthyB ?_
      refine ite_B (fun hb => ?_) (fun hb => ?_)
      · obtain ⟨W', ⟨a0, dd⟩, ws', v, rfl, rfl, hW', hv⟩ := hW.unsnoc (by rintro rfl; cases hb)
        obtain ⟨b, ob, ta, td, rfl, hmb, hob⟩ := hv
        obtain ⟨a, rfl, ha, hra, rfl⟩ := hI.wait _ (List.mem_append_right _ (.head _))
        obtain ⟨r, har⟩ : ∃ r, rs[a]? = some r := ⟨_, List.getElem?_eq_getElem ha⟩
        obtain ⟨hsh, hgs, ⟨hent, e, hbe, htold⟩⟩ := hg a r har
        rw [List.length_append, List.length_singleton] at hj hWl
        refine ev_sub (ν' := (wl, wo) :: (d, od) :: (δ ++ ν)) ?_ (sub_cons (.tail _ (.tail _ (.head _))) (sub_cons (.tail _ (.head _)) fun p hp => .tail _ (.tail _ (.tail _ hp))))
        with_reducible refine ev_cons ?_
        ((with_reducible refine' ev_AssignTup ?_ ?qs ?qw); (case qs => with_unfolding_all rfl); (case qw => with_unfolding_all rfl))
        ((with_reducible refine' ev_CallM ?_ ?qe); (case qe => with_unfolding_all rfl))
        ((with_reducible refine' ev_local ?qvz ?_ ?qL ?qk ?qx ?qd); (case qL => with_unfolding_all rfl); (case qk => with_unfolding_all rfl); (case qx => with_unfolding_all rfl); (case qd => decide); (case qvz => walk_at "zlk"))
        ((with_reducible refine' ev_getPop ?qm ?qo ?_); (case qm => walk_at "zmem"); (case qo => walk_at "zo"))
        with_reducible refine ev_cwB0_1 ?_
        refine ev_pop hwo (fun _ y => y) (ne_cons (Ne.symm hwd) (ne_app hδw hwn)) (by rw [hW'.length]; exact Nat.lt_of_le_of_lt (Nat.le_trans (Nat.le_add_right _ 1) hWl) (by decide)) fun wo' hwo' => ?_
        ((with_reducible refine' ev_assignT2 ?qm ?qo ?_); (case qm => walk_at "zmem"); (case qo => walk_at "zo"))
        ((with_reducible refine' ev_store ?_ ?qL ?qk ?qx); (case qL => with_unfolding_all rfl); (case qk => with_unfolding_all rfl); (case qx => with_unfolding_all rfl))
        ((with_reducible refine' ev_store ?_ ?qL ?qk ?qx); (case qL => with_unfolding_all rfl); (case qk => with_unfolding_all rfl); (case qx => with_unfolding_all rfl))
        with_reducible refine then_next ?_
        with_reducible refine ev_cons ?_
        with_reducible refine ev_If ?_
        ((with_reducible refine' ev_isCompare ?_ ?qs); (case qs => with_unfolding_all rfl))
        ((with_reducible refine' ev_local ?qvz ?_ ?qL ?qk ?qx ?qd); (case qL => with_unfolding_all rfl); (case qk => with_unfolding_all rfl); (case qx => with_unfolding_all rfl); (case qd => decide); (case qvz => walk_at "zlk"))
        ((with_reducible refine' ev_local ?qvz ?_ ?qL ?qk ?qx ?qd); (case qL => with_unfolding_all rfl); (case qk => with_unfolding_all rfl); (case qx => with_unfolding_all rfl); (case qd => decide); (case qvz => walk_at "zlk"))
        refine ev_inD (by walk_at "zmem") hod hlo ?_
        with_reducible refine ev_truthyB ?_
        cases hva : valueAt kvs (a : Int) with
        | some v =>
          obtain ⟨n', hn', -, tv, rfl⟩ := hI.sound _ _ hva
          obtain rfl : a = n' := by omega
          refine ite_isT rfl ?_
          with_reducible refine ev_cons ?_
          with_reducible refine ev_If ?_
          ((with_reducible refine' ev_isCompare ?_ ?qs); (case qs => with_unfolding_all rfl))
          with_reducible refine ev_Sub ?_
          ((with_reducible refine' ev_local ?qvz ?_ ?qL ?qk ?qx ?qd); (case qL => with_unfolding_all rfl); (case qk => with_unfolding_all rfl); (case qx => with_unfolding_all rfl); (case qd => decide); (case qvz => walk_at "zlk"))
          ((with_reducible refine' ev_local ?qvz ?_ ?qL ?qk ?qx ?qd); (case qL => with_unfolding_all rfl); (case qk => with_unfolding_all rfl); (case qx => with_unfolding_all rfl); (case qd => decide); (case qvz => walk_at "zlk"))
          refine ev_itemD (by walk_at "zmem") hod hva ?_ (by with_unfolding_all rfl)
          ((with_reducible refine' ev_local ?qvz ?_ ?qL ?qk ?qx ?qd); (case qL => with_unfolding_all rfl); (case qk => with_unfolding_all rfl); (case qx => with_unfolding_all rfl); (case qd => decide); (case qvz => walk_at "zlk"))
          with_reducible refine ev_ne ?_
          with_reducible refine ev_truthyB ?_
          refine ite_isF (by simp) ?_
          with_reducible refine ev_nil ?_
          with_reducible refine then_next ?_
          with_reducible refine ev_cons ?_
          with_reducible refine ev_Continue ?_
          with_reducible refine then_cont ?_
          with_reducible refine then_cont ?_
          refine ⟨_, ?_, kvs, od, wo', δ, ws', W', by walk_at "zsub", hod, hwo', hW', hδd, hδw, hI.drop (by rw [hva]; rfl), rfl, by omega, by walk_at "zlk", by walk_at "zlk", by walk_at "zlk"⟩
          omega
        | none =>
          refine ite_isF rfl ?_
          with_reducible refine ev_nil ?_
          with_reducible refine then_next ?_
          with_reducible refine ev_cons ?_
          ((with_reducible refine' ev_AssignSub ?_ ?qs); (case qs => with_unfolding_all rfl))
          ((with_reducible refine' ev_local ?qvz ?_ ?qL ?qk ?qx ?qd); (case qL => with_unfolding_all rfl); (case qk => with_unfolding_all rfl); (case qx => with_unfolding_all rfl); (case qd => decide); (case qvz => walk_at "zlk"))
          ((with_reducible refine' ev_local ?qvz ?_ ?qL ?qk ?qx ?qd); (case qL => with_unfolding_all rfl); (case qk => with_unfolding_all rfl); (case qx => with_unfolding_all rfl); (case qd => decide); (case qvz => walk_at "zlk"))
          ((with_reducible refine' ev_local ?qvz ?_ ?qL ?qk ?qx ?qd); (case qL => with_unfolding_all rfl); (case qk => with_unfolding_all rfl); (case qx => with_unfolding_all rfl); (case qd => decide); (case qvz => walk_at "zlk"))
          have hkl : kvs.length ≤ 1000 := by have := hI.size; omega
          refine ev_setD (ν₁ := (wl, wo') :: (δ ++ ν)) hod (sub_cons (.tail _ (.head _)) (sub_cons (.head _) fun p hp => .tail _ (.tail _ hp))) (ne_cons hwd (ne_app hδd hdn)) hkl fun od' hod' => ?_
          rw [(valueAt_new hva).1] at hod'
          obtain ⟨hI', hlt⟩ := hI.visit (t := td) hva har hra hgs
          obtain ⟨v, hkv, hrv⟩ := hrs.get har
          have ha1 : a < 1000 := Nat.lt_trans ha hk1
          with_reducible refine then_next ?_
          with_reducible refine ev_cons ?_
          ((with_reducible refine' ev_Assign ?_ ?qs); (case qs => with_unfolding_all rfl))
          with_reducible refine ev_Sub ?_
          ((with_reducible refine' ev_Attr ?_ ?qe); (case qe => with_unfolding_all rfl))
          ((with_reducible refine' ev_local ?qvz ?_ ?qL ?qk ?qx ?qd); (case qL => with_unfolding_all rfl); (case qk => with_unfolding_all rfl); (case qx => with_unfolding_all rfl); (case qd => decide); (case qvz => walk_at "zlk"))
          ((with_reducible refine' ev_getAttr ?qx ?qdx ?qg ?qh ?qa ?qn ?ql ?qv ?_); (case qx => walk_at "zmem"); (case qdx => walk_at "zmem"); (case ql => assumption); (case qg => k_is); (case qh => k_is); (case qa => k_is); (case qn => k_is); (case qv => exact rfl))
          ((with_reducible refine' ev_local ?qvz ?_ ?qL ?qk ?qx ?qd); (case qL => with_unfolding_all rfl); (case qk => with_unfolding_all rfl); (case qx => with_unfolding_all rfl); (case qd => decide); (case qvz => walk_at "zlk"))
          ((with_reducible refine' ev_itemTK ?qm ?qo ?q1 ?qx ?_ ?qs); (case qs => with_unfolding_all rfl); (case qm => walk_at "zmem"); (case qo => walk_at "zo"); (case q1 => omega); (case qx => assumption))
          ((with_reducible refine' ev_store ?_ ?qL ?qk ?qx); (case qL => with_unfolding_all rfl); (case qk => with_unfolding_all rfl); (case qx => with_unfolding_all rfl))
          with_reducible refine then_next ?_
          with_reducible refine ev_cons ?_
          ((with_reducible refine' ev_Assign ?_ ?qs); (case qs => with_unfolding_all rfl))
          ((with_reducible refine' ev_Call ?_ ?qe); (case qe => with_unfolding_all rfl))
          ((with_reducible refine' ev_glob ?qez ?_ ?qg ?qk ?qx ?qd); (case qg => with_unfolding_all rfl); (case qk => with_unfolding_all rfl); (case qx => with_unfolding_all rfl); (case qd => decide); (case qez => k_is))
          ((with_reducible refine' ev_cwF_0 ?qk ?_ ?qe ?qp); (case qe => with_unfolding_all rfl); (case qp => with_unfolding_all rfl); (case qk => k_is))
          ((with_reducible refine' ev_spl ?_ ?qe); (case qe => with_unfolding_all rfl))
          ((with_reducible refine' ev_local ?qvz ?_ ?qL ?qk ?qx ?qd); (case qL => with_unfolding_all rfl); (case qk => with_unfolding_all rfl); (case qx => with_unfolding_all rfl); (case qd => decide); (case qvz => walk_at "zlk"))
          ((with_reducible refine' ev_spl ?_ ?qe); (case qe => with_unfolding_all rfl))
          ((with_reducible refine' ev_local ?qvz ?_ ?qL ?qk ?qx ?qd); (case qL => with_unfolding_all rfl); (case qk => with_unfolding_all rfl); (case qx => with_unfolding_all rfl); (case qd => decide); (case qvz => walk_at "zlk"))
          with_reducible refine ev_spl0 ?_
          have hrv2 : RowV ((d, od') :: (wl, wo') :: (δ ++ ν)) r v := hrv.mono (KeepT.of (by walk_at "zbase"))
          have hrv3 := hrv
          obtain ⟨b3, ob3, tn3, ps3, rfl, hmb3, hob3, ha3⟩ := hrv3
          refine c_depth_behind (by walk_at "zroom") hrv2 hbe fun tb => ?_
          ((with_reducible refine' ev_store ?_ ?qL ?qk ?qx); (case qL => with_unfolding_all rfl); (case qk => with_unfolding_all rfl); (case qx => with_unfolding_all rfl))
          with_reducible refine then_next ?_
          with_reducible refine ev_cons ?_
          refine ev_For ?_ outNoX (Rb := NoX) (hs := fun _ => rfl)
          ((with_reducible refine' ev_Call ?_ ?qe); (case qe => with_unfolding_all rfl))
          ((with_reducible refine' ev_glob ?qez ?_ ?qg ?qk ?qx ?qd); (case qg => with_unfolding_all rfl); (case qk => with_unfolding_all rfl); (case qx => with_unfolding_all rfl); (case qd => decide); (case qez => k_is))
          ((with_reducible refine' ev_cwF_0 ?qk ?_ ?qe ?qp); (case qe => with_unfolding_all rfl); (case qp => with_unfolding_all rfl); (case qk => k_is))
          ((with_reducible refine' ev_spl ?_ ?qe); (case qe => with_unfolding_all rfl))
          ((with_reducible refine' ev_Attr ?_ ?qe); (case qe => with_unfolding_all rfl))
          ((with_reducible refine' ev_local ?qvz ?_ ?qL ?qk ?qx ?qd); (case qL => with_unfolding_all rfl); (case qk => with_unfolding_all rfl); (case qx => with_unfolding_all rfl); (case qd => decide); (case qvz => walk_at "zlk"))
          ((with_reducible refine' ev_getAttr ?qx ?qdx ?qg ?qh ?qa ?qn ?ql ?qv ?_); (case qx => walk_at "zmem"); (case qdx => walk_at "zmem"); (case ql => assumption); (case qg => k_is); (case qh => k_is); (case qa => k_is); (case qn => k_is); (case qv => exact rfl))
          ((with_reducible refine' ev_spl ?_ ?qe); (case qe => with_unfolding_all rfl))
          ((with_reducible refine' ev_local ?qvz ?_ ?qL ?qk ?qx ?qd); (case qL => with_unfolding_all rfl); (case qk => with_unfolding_all rfl); (case qx => with_unfolding_all rfl); (case qd => decide); (case qvz => walk_at "zlk"))
          with_reducible refine ev_spl0 ?_
          refine c_followers (by walk_at "zroom") (by walk_at "zmem") hrt' (hrs.mono fun r v y => y.mono (KeepT.of (by walk_at "zbase"))) har ha1 hsh fun D4 o4 gs hD4 ho4 hgs4 => ?_
          have hfl := fol_len (k := a) hsh
          refine ev_iterL (.head _) ho4 fun it2 oi2 hit2 hoi2 => ?_
          have hD4d : D4 ≠ d := gtN hD4.head
          have hD4w : D4 ≠ wl := gtN hD4.tail.head
          refine ev_forI (yldL ho4) (fun i m₂ ν₂ => ∃ wo2 δ2 ws2, ν₂ = (D4, o4) :: (d, od') :: (wl, wo2) :: (δ2 ++ ν) ∧ LstO wo2 ws2 ∧ AllV (PairV δ2) (W' ++ ((fol r a).take i).map fun g => (g, dep g)) ws2 ∧ (∀ p ∈ δ2, p.1 ≠ d) ∧ (∀ p ∈ δ2, p.1 ≠ wl) ∧ (∀ p ∈ δ2, p.1 ≠ it2) ∧ m₂ "code" = some (.ref x) ∧ m₂ "found" = some (.ref d) ∧ m₂ "waiting" = some (.ref wl) ∧ m₂ "at" = some (.int a ta) ∧ m₂ "depth" = some (.int (dep a) td) ∧ m₂ "row" = some (.ref b3) ∧ m₂ "behind" = some (.int e tb)) ⟨oi2, rfl, hoi2⟩ (fun p hp => ltN' (hit2 p hp)) (.head _)
            ⟨wo', δ, ws', rfl, hwo', by simpa using hW', hδd, hδw, fun p hp => ltN' (hit2 p (by walk_at "zmem")), by walk_at "zlk", by walk_at "zlk", by walk_at "zlk", by walk_at "zlk", by walk_at "zlk", by walk_at "zlk", by walk_at "zlk"⟩ (fun _ h => h) ?_ ?_
          · rintro i m₂ ν₂ v δ3 b' hi ⟨wo2, δ2, ws2, rfl, hwo2, hW2, hδd2, hδw2, hδi2, q1, q2, q3, q4, q5, q6, q7⟩ hcl hsrc ⟨hv, rfl⟩ _ hB'
            obtain ⟨g, hgi, tg, rfl⟩ := hgs4.at hv
            have htg : dep g = if decide (r.name = "enter" ∧ r.goals = [g] ∧ g ≠ (a : Int) + 1) = true then dep a else e := by
              rw [htold g (List.mem_of_getElem? hgi)]
              unfold toldAt
              simp only [decide_eq_true_eq]
            generalize hbh : decide (r.name = "enter" ∧ r.goals = [g] ∧ g ≠ (a : Int) + 1) = bh at htg
            rw [List.nil_append]
            refine ev_assignName ?_
            ((with_reducible refine' ev_store ?_ ?qL ?qk ?qx); (case qL => with_unfolding_all rfl); (case qk => with_unfolding_all rfl); (case qx => with_unfolding_all rfl))
            refine ev_cons (ev_imp (P := fun f m' ν' => f = .next ∧ m' = upd (upd m₂ "goal" (.int g tg)) "is_handler" (.bool bh) ∧ ν' = b' ++ ((D4, o4) :: (d, od') :: (wl, wo2) :: (δ2 ++ ν))) ?_ ?_)
            · ((with_reducible refine' ev_Assign ?_ ?qs); (case qs => with_unfolding_all rfl))
              with_reducible refine ev_BoolAnd3 ?_
              ((with_reducible refine' ev_Compare ?_ ?qs); (case qs => with_unfolding_all rfl))
              with_reducible refine ev_Sub ?_
              ((with_reducible refine' ev_local ?qvz ?_ ?qL ?qk ?qx ?qd); (case qL => with_unfolding_all rfl); (case qk => with_unfolding_all rfl); (case qx => with_unfolding_all rfl); (case qd => decide); (case qvz => walk_at "zlk"))
              ((with_reducible refine ev_int ?_); intro _)
              ((with_reducible refine' ev_itemTN ?qm ?qo ?q0 ?q1 ?qx ?_ ?qs); (case qs => with_unfolding_all rfl); (case qm => walk_at "zmem"); (case qo => walk_at "zo"); (case q0 => decide); (case q1 => decide); (case qx => exact rfl))
              ((with_reducible refine ev_str ?_); intro _)
              with_reducible refine ev_eqS ?_
              with_reducible refine ev_truthyB ?_
              refine ite_B (fun hb1 => ?_) (fun hb1 => ?_)
              · have hne : r.name = "enter" := by simpa using hb1
                obtain ⟨n1, hp1⟩ := hent hne
                have hgo : r.goals = [n1] := by unfold Row.goals; rw [hp1]; rfl
                rw [hp1] at ha3
                obtain ⟨⟩ | ⟨x1, ⟨⟩⟩ := ha3
                obtain ⟨tn1, rfl⟩ := x1
                ((with_reducible refine' ev_Compare ?_ ?qs); (case qs => with_unfolding_all rfl))
                ((with_reducible refine' ev_local ?qvz ?_ ?qL ?qk ?qx ?qd); (case qL => with_unfolding_all rfl); (case qk => with_unfolding_all rfl); (case qx => with_unfolding_all rfl); (case qd => decide); (case qvz => walk_at "zlk"))
                with_reducible refine ev_Sub ?_
                ((with_reducible refine' ev_local ?qvz ?_ ?qL ?qk ?qx ?qd); (case qL => with_unfolding_all rfl); (case qk => with_unfolding_all rfl); (case qx => with_unfolding_all rfl); (case qd => decide); (case qvz => walk_at "zlk"))
                ((with_reducible refine ev_int ?_); intro _)
                ((with_reducible refine' ev_itemTN ?qm ?qo ?q0 ?q1 ?qx ?_ ?qs); (case qs => with_unfolding_all rfl); (case qm => walk_at "zmem"); (case qo => walk_at "zo"); (case q0 => decide); (case q1 => decide); (case qx => exact rfl))
                with_reducible refine ev_eq ?_
                with_reducible refine ev_truthyB ?_
                refine ite_B (fun hb2 => ?_) (fun hb2 => ?_)
                · have h2 : g = n1 := by simpa using hb2
                  ((with_reducible refine' ev_Compare ?_ ?qs); (case qs => with_unfolding_all rfl))
                  ((with_reducible refine' ev_local ?qvz ?_ ?qL ?qk ?qx ?qd); (case qL => with_unfolding_all rfl); (case qk => with_unfolding_all rfl); (case qx => with_unfolding_all rfl); (case qd => decide); (case qvz => walk_at "zlk"))
                  with_reducible refine ev_BinOp ?_
                  ((with_reducible refine' ev_local ?qvz ?_ ?qL ?qk ?qx ?qd); (case qL => with_unfolding_all rfl); (case qk => with_unfolding_all rfl); (case qx => with_unfolding_all rfl); (case qd => decide); (case qvz => walk_at "zlk"))
                  ((with_reducible refine ev_int ?_); intro _)
                  ((with_reducible refine ev_add ?_); intro _)
                  with_reducible refine ev_ne ?_
                  ((with_reducible refine' ev_store ?_ ?qL ?qk ?qx); (case qL => with_unfolding_all rfl); (case qk => with_unfolding_all rfl); (case qx => with_unfolding_all rfl))
                  exact ⟨rfl, by rw [show (g != (a : Int) + 1) = bh by rw [← hbh, Bool.eq_iff_iff]; simp [hgo, hne, h2]], rfl⟩
                · have h2 : ¬ g = n1 := by simpa using hb2
                  ((with_reducible refine' ev_store ?_ ?qL ?qk ?qx); (case qL => with_unfolding_all rfl); (case qk => with_unfolding_all rfl); (case qx => with_unfolding_all rfl))
                  exact ⟨rfl, by rw [show (g == n1) = bh by rw [← hbh, Bool.eq_iff_iff]; simp [hgo, h2, Ne.symm h2]], rfl⟩
              · have hne : ¬ r.name = "enter" := by simpa using hb1
                ((with_reducible refine' ev_store ?_ ?qL ?qk ?qx); (case qL => with_unfolding_all rfl); (case qk => with_unfolding_all rfl); (case qx => with_unfolding_all rfl))
                exact ⟨rfl, by rw [show (r.name == "enter") = bh by rw [← hbh, Bool.eq_iff_iff]; simp [hne]], rfl⟩
            · rintro _ _ _ ⟨rfl, rfl, rfl⟩
              with_reducible refine then_next ?_
              with_reducible refine ev_cons ?_
              ((with_reducible refine' ev_ExprAny ?_ ?qi ?qs); (case qi => with_unfolding_all rfl); (case qs => with_unfolding_all rfl))
              ((with_reducible refine' ev_CallM ?_ ?qe); (case qe => with_unfolding_all rfl))
              ((with_reducible refine' ev_local ?qvz ?_ ?qL ?qk ?qx ?qd); (case qL => with_unfolding_all rfl); (case qk => with_unfolding_all rfl); (case qx => with_unfolding_all rfl); (case qd => decide); (case qvz => walk_at "zlk"))
              ((with_reducible refine' ev_getAppend ?qm ?qo ?_); (case qm => walk_at "zmem"); (case qo => walk_at "zo"))
              ((with_reducible refine' ev_cwB_1 ?_ ?qe ?qp); (case qe => with_unfolding_all rfl); (case qp => with_unfolding_all rfl))
              ((with_reducible refine' ev_spl ?_ ?qe); (case qe => with_unfolding_all rfl))
              with_reducible refine ev_Tuple ?_
              ((with_reducible refine' ev_spl ?_ ?qe); (case qe => with_unfolding_all rfl))
              ((with_reducible refine' ev_local ?qvz ?_ ?qL ?qk ?qx ?qd); (case qL => with_unfolding_all rfl); (case qk => with_unfolding_all rfl); (case qx => with_unfolding_all rfl); (case qd => decide); (case qvz => walk_at "zlk"))
              ((with_reducible refine' ev_spl ?_ ?qe); (case qe => with_unfolding_all rfl))
              with_reducible refine ev_IfExp ?_
              ((with_reducible refine' ev_isPlain ?_ ?qe); (case qe => with_unfolding_all rfl))
              ((with_reducible refine' ev_local ?qvz ?_ ?qL ?qk ?qx ?qd); (case qL => with_unfolding_all rfl); (case qk => with_unfolding_all rfl); (case qx => with_unfolding_all rfl); (case qd => decide); (case qvz => walk_at "zlk"))
              with_reducible refine ev_truthyB ?_
              refine kIf_join (fun v m' ν' => (∃ t, v = .int (dep g) t) ∧ m' = upd (upd m₂ "goal" (.int g tg)) "is_handler" (.bool bh) ∧ ν' = b' ++ ((D4, o4) :: (d, od') :: (wl, wo2) :: (δ2 ++ ν))) ?_ ?_
              · cases bh with
                | true =>
                  with_reducible refine ite_T ?_
                  ((with_reducible refine' ev_local ?qvz ?_ ?qL ?qk ?qx ?qd); (case qL => with_unfolding_all rfl); (case qk => with_unfolding_all rfl); (case qx => with_unfolding_all rfl); (case qd => decide); (case qvz => walk_at "zlk"))
                  exact ⟨⟨_, by rw [htg]; rfl⟩, rfl, rfl⟩
                | false =>
                  with_reducible refine ite_F ?_
                  ((with_reducible refine' ev_local ?qvz ?_ ?qL ?qk ?qx ?qd); (case qL => with_unfolding_all rfl); (case qk => with_unfolding_all rfl); (case qx => with_unfolding_all rfl); (case qd => decide); (case qvz => walk_at "zlk"))
                  exact ⟨⟨_, by rw [htg]; rfl⟩, rfl, rfl⟩
              rintro _ _ _ ⟨⟨t5, rfl⟩, rfl, rfl⟩
              with_reducible refine ev_spl0 ?_
              refine ev_newTuple (fun T5 hT5 => ?_) (by simp [sizeLine])
              have hab5 : ∀ q ∈ b' ++ ((D4, o4) :: (d, od') :: (wl, wo2) :: (δ2 ++ ν)), @LT.lt Nat _ q.1 T5 := hT5
              have n5d : T5 ≠ d := gtN (hab5 (d, od') (by walk_at "zmem"))
              have n5w : T5 ≠ wl := gtN (hab5 (wl, wo2) (by walk_at "zmem"))
              obtain ⟨oi3, rfl, hoi3⟩ := hB'
              have n5i : T5 ≠ it2 := gtN (hab5 (it2, oi3) (.head _))
              have hiw : it2 ≠ wl := gtN (hit2 (wl, wo') (by walk_at "zmem"))
              with_reducible refine ev_spl0 ?_
              refine ev_append (ν₁ := [(it2, oi3)] ++ ((D4, o4) :: (d, od') :: ((T5, _) :: δ2 ++ ν))) hwo2 (by walk_at "zsub") (ne_app (ne_cons hiw ne_nil) (ne_cons hD4w (ne_cons (Ne.symm hwd) (ne_app (ne_cons n5w hδw2) hwn)))) ?_ fun wo3 hwo3 => ?_
              · rw [hW2.length, List.length_append, List.length_map, List.length_take]
                exact Nat.le_trans (Nat.add_le_add (Nat.le_trans (Nat.le_add_right _ 1) hWl) (Nat.le_trans (Nat.min_le_right _ _) hfl)) (by decide)
              with_reducible refine then_next ?_
              with_reducible refine ev_nil ?_
              refine ⟨(D4, o4) :: (d, od') :: (wl, wo3) :: ((T5, _) :: δ2 ++ ν), by walk_at "zsub", ?_, .head _, wo3, (T5, _) :: δ2, _, rfl, hwo3, ?_, ne_cons n5d hδd2, ne_cons n5w hδw2, ne_cons n5i hδi2, by walk_at "zlk", by walk_at "zlk", by walk_at "zlk", by walk_at "zlk", by walk_at "zlk", by walk_at "zlk", by walk_at "zlk"⟩
              · exact ne_cons (ltN' (hit2 (D4, o4) (.head _))) (ne_cons (ltN' (hit2 (d, od') (by walk_at "zmem"))) (ne_cons (Ne.symm hiw) (ne_app (ne_cons n5i hδi2) fun p hp => ltN' (hit2 p (by walk_at "zmem")))))
              · rw [List.take_add_one, hgi, List.map_append, ← List.append_assoc]
                exact (hW2.mono fun p v y => y.mono (KeepT.refl.cons _)).snoc ⟨T5, _, _, _, rfl, .head _, tupO_mk⟩
          · rintro m₂ ν₂ ⟨wo2, δ2, ws2, rfl, hwo2, hW2, hδd2, hδw2, hδi2, q1, q2, q3, q4, q5, q6, q7⟩ _ _
            with_reducible refine then_next ?_
            with_reducible refine ev_nil ?_
            rw [hgs4.length, List.take_length] at hW2
            refine ⟨_, ?_, kvs ++ [((a : Int), Value.int (dep a) td)], od', wo2, δ2, ws2, _, by walk_at "zbase", hod', hwo2, hW2, hδd2, hδw2, hI', rfl, ?_, q1, q2, q3⟩
            · rw [hj, List.length_append, List.length_map]
              omega
            · rw [List.length_append, List.length_map]
              omega
      · obtain rfl : W = [] := by cases W with | nil => rfl | cons _ _ => cases hb
        with_reducible refine then_next ?_
        with_reducible refine ev_cons ?_
        with_reducible refine ev_Return ?_
        ((with_reducible refine' ev_local ?qvz ?_ ?qL ?qk ?qx ?qd); (case qL => with_unfolding_all rfl); (case qk => with_unfolding_all rfl); (case qx => with_unfolding_all rfl); (case qd => decide); (case qvz => walk_at "zlk"))
        with_reducible refine then_ret ?_
        refine ⟨_, ?_, h d od kvs hd hlo (by have := hcw.2; unfold DicO at hod ⊢; rwa [this] at hod) hI.done⟩
        walk_at "zsub"

/-- a code that can be run, of law 02's kind -/
structure GoodCode (ar sl : Int) (dep : Int → Int) (rs : List Row) : Prop where
  one : 1 ≤ ar
  fits : ar ≤ sl
  any : 0 < rs.length
  few : rs.length < 1000
  row : ∀ k r, rs[k]? = some r → GoodRow sl rs.length k r
  depths : ∀ k r, rs[k]? = some r → DepRow dep k r
  start : dep 0 = 0
/-- a Code of the heap and the rows it has -/
structure CodeIs (ν : Led) (x : Addr) (nm : Str) (ar sl : Int) (rt st cp mk : Addr) (rs : List Row) (vs : List Value) : Prop where
  code : CodeAt ν x nm ar sl rt st cp mk
  rows : ∃ o, (rt, o) ∈ ν ∧ TupO o vs
  each : RowsV ν rs vs
  static : ∃ o t, (st, o) ∈ ν ∧ TupO o [.str "T.1" t]
  captures : ∃ o t, (cp, o) ∈ ν ∧ TupO o [.str "x" t]
  marks : ∃ o t, (mk, o) ∈ ν ∧ TupO o [.str "m" t]
theorem CodeIs.mono {ν ν' : Led} {x rt st cp mk : Addr} {nm : Str} {ar sl : Int} {rs : List Row} {vs : List Value} (h : CodeIs ν x nm ar sl rt st cp mk rs vs) (hs : ∀ p ∈ ν, p ∈ ν') : CodeIs ν' x nm ar sl rt st cp mk rs vs := by
  obtain ⟨a, ⟨o1, b1, b2⟩, c, ⟨o2, t2, d1, d2⟩, ⟨o3, t3, e1, e2⟩, ⟨o4, t4, f1, f2⟩⟩ := h
  exact ⟨a.mono hs, ⟨o1, hs _ b1, b2⟩, c.mono fun _ _ y => y.mono (KeepT.of hs), ⟨o2, t2, hs _ d1, d2⟩, ⟨o3, t3, hs _ e1, e2⟩, ⟨o4, t4, hs _ f1, f2⟩⟩
theorem c_checked_code {c : Cx} {m : Loc} {ν : Led} {P : Value → Loc → Led → Prop} {R : RX} {x rt st cp mk : Addr} {nm : Str} {ar sl : Int} {rs : List Row} {vs : List Value} {dep : Int → Int} (hr : Room c 12) (hx : CodeIs ν x nm ar sl rt st cp mk rs vs) (hg : GoodCode ar sl dep rs) (h : P (.ref x) m ν) : EV c m ν (call (.ref 158) [.ref x]) P R := by
  have hcode := hx.code
  obtain ⟨dx, es, n, hx1, hx2, hD⟩ := hx.code
  obtain ⟨ort, hrt, hrt'⟩ := hx.rows
  obtain ⟨ost, tst, hst, hst'⟩ := hx.static
  obtain ⟨ocp, tcp, hcp, hcp'⟩ := hx.captures
  have hrs := hx.each
  have few := hg.few
  have hlen := hrs.length
  have h40 : vs.length < 2 ^ 40 := by omega
  have hro := hD.rows
  obtain ⟨ta, har⟩ := hD.arity
  obtain ⟨ts, hsl⟩ := hD.slots
  refine ev_post ?_
  refine' ev_call (n := 11) (Rb := NoX) (binds := [("code", .ref x)]) ?ho ?hcd hr ?hb ?hl ?hk ?hc ?h (fun _ _ _ _ _ _ x => x.elim)
  case ho => k_is
  case hcd => k_is
  case hb => exact fun s => BindsTo.of_eq rfl
  case hl => exact locs rfl
  case hk => exact rfl
  case hc => decide
  case h =>
    intro c' hr' _
    dsimp only [bnd]
    with_reducible refine ev_cons ?_
    with_reducible refine ev_If ?_
    with_reducible refine ev_isOr ?_
    with_reducible refine ev_isNot ?_
    ((with_reducible refine' ev_isChain ?_ ?qs); (case qs => with_unfolding_all rfl))
    ((with_reducible refine ev_int ?_); intro _)
    ((with_reducible refine' ev_Attr ?_ ?qe); (case qe => with_unfolding_all rfl))
    ((with_reducible refine' ev_local ?qvz ?_ ?qL ?qk ?qx ?qd); (case qL => with_unfolding_all rfl); (case qk => with_unfolding_all rfl); (case qx => with_unfolding_all rfl); (case qd => decide); (case qvz => walk_at "zlk"))
    ((with_reducible refine' ev_getAttr ?qx ?qdx ?qg ?qh ?qa ?qn ?ql ?qv ?_); (case qx => walk_at "zmem"); (case qdx => walk_at "zmem"); (case ql => assumption); (case qg => k_is); (case qh => k_is); (case qa => k_is); (case qn => k_is); (case qv => exact rfl))
    with_reducible refine ev_le ?_
    with_reducible refine ev_truthyB ?_
    refine ite_isT (decide_eq_true hg.one) ?_
    ((with_reducible refine' ev_Attr ?_ ?qe); (case qe => with_unfolding_all rfl))
    ((with_reducible refine' ev_local ?qvz ?_ ?qL ?qk ?qx ?qd); (case qL => with_unfolding_all rfl); (case qk => with_unfolding_all rfl); (case qx => with_unfolding_all rfl); (case qd => decide); (case qvz => walk_at "zlk"))
    ((with_reducible refine' ev_getAttr ?qx ?qdx ?qg ?qh ?qa ?qn ?ql ?qv ?_); (case qx => walk_at "zmem"); (case qdx => walk_at "zmem"); (case ql => assumption); (case qg => k_is); (case qh => k_is); (case qa => k_is); (case qn => k_is); (case qv => exact rfl))
    with_reducible refine ev_le ?_
    with_reducible refine ev_truthyB ?_
    refine ite_isF (b := !decide (ar ≤ sl)) (by rw [decide_eq_true hg.fits]; rfl) ?_
    with_reducible refine ev_isOr ?_
    ((with_reducible refine' ev_isCompare ?_ ?qs); (case qs => with_unfolding_all rfl))
    ((with_reducible refine' ev_Attr ?_ ?qe); (case qe => with_unfolding_all rfl))
    ((with_reducible refine' ev_local ?qvz ?_ ?qL ?qk ?qx ?qd); (case qL => with_unfolding_all rfl); (case qk => with_unfolding_all rfl); (case qx => with_unfolding_all rfl); (case qd => decide); (case qvz => walk_at "zlk"))
    ((with_reducible refine' ev_getAttr ?qx ?qdx ?qg ?qh ?qa ?qn ?ql ?qv ?_); (case qx => walk_at "zmem"); (case qdx => walk_at "zmem"); (case ql => assumption); (case qg => k_is); (case qh => k_is); (case qa => k_is); (case qn => k_is); (case qv => exact rfl))
    with_reducible refine ev_Tuple ?_
    with_reducible refine ev_spl0 ?_
    refine ev_newTuple (fun e0 he0 => ?_) (by decide)
    refine ev_eqT0 (by walk_at "zmem") hrt' (.head _) tupO_mk (by walk_at "zroom") ?_
    with_reducible refine ev_truthyB ?_
    refine ite_isF (beq_eq_false_iff_ne.mpr (by have := hg.any; omega)) ?_
    with_reducible refine ev_isOr0 ?_
    with_reducible refine ite_F ?_
    with_reducible refine ev_nil ?_
    with_reducible refine then_next ?_
    with_reducible refine ev_cons ?_
    refine ev_sub (ν' := ν) ?_ (fun p hp => .tail _ hp)
    refine ev_For ?_ outNoX (Rb := NoX) (hs := fun _ => rfl)
    ((with_reducible refine' ev_Call ?_ ?qe); (case qe => with_unfolding_all rfl))
    ((with_reducible refine' ev_bltn ?qez ?qv ?_ ?qn ?qg ?qb ?qk ?qx ?qd); (case qg => with_unfolding_all rfl); (case qb => with_unfolding_all rfl); (case qk => with_unfolding_all rfl); (case qx => with_unfolding_all rfl); (case qd => decide); (case qn => decide); (case qez => k_is); (case qv => first | boot_fast | boot_by_name))
    ((with_reducible refine' ev_cwT_0 ?_ ?qe ?qp); (case qe => with_unfolding_all rfl); (case qp => with_unfolding_all rfl))
    ((with_reducible refine' ev_spl ?_ ?qe); (case qe => with_unfolding_all rfl))
    ((with_reducible refine' ev_Call ?_ ?qe); (case qe => with_unfolding_all rfl))
    ((with_reducible refine' ev_bltn ?qez ?qv ?_ ?qn ?qg ?qb ?qk ?qx ?qd); (case qg => with_unfolding_all rfl); (case qb => with_unfolding_all rfl); (case qk => with_unfolding_all rfl); (case qx => with_unfolding_all rfl); (case qd => decide); (case qn => decide); (case qez => k_is); (case qv => first | boot_fast | boot_by_name))
    ((with_reducible refine' ev_cwB_0 ?_ ?qe ?qp); (case qe => with_unfolding_all rfl); (case qp => with_unfolding_all rfl))
    ((with_reducible refine' ev_spl ?_ ?qe); (case qe => with_unfolding_all rfl))
    ((with_reducible refine' ev_Attr ?_ ?qe); (case qe => with_unfolding_all rfl))
    ((with_reducible refine' ev_local ?qvz ?_ ?qL ?qk ?qx ?qd); (case qL => with_unfolding_all rfl); (case qk => with_unfolding_all rfl); (case qx => with_unfolding_all rfl); (case qd => decide); (case qvz => walk_at "zlk"))
    ((with_reducible refine' ev_getAttr ?qx ?qdx ?qg ?qh ?qa ?qn ?ql ?qv ?_); (case qx => walk_at "zmem"); (case qdx => walk_at "zmem"); (case ql => assumption); (case qg => k_is); (case qh => k_is); (case qa => k_is); (case qn => k_is); (case qv => exact rfl))
    with_reducible refine ev_spl0 ?_
    ((with_reducible refine' ev_lenT ?qm ?qo ?qf ?_); (case qm => walk_at "zmem"); (case qo => walk_at "zo"); (case qf => walk_at "zlen"); intro _)
    with_reducible refine ev_spl0 ?_
    refine ev_range1 fun r0 t1 t2 hr0 => ?_
    refine ev_iterR (.head _) (Int.natCast_nonneg _) (by omega) fun it oi hit hoi => ?_
    refine ev_forI (yldR (n := vs.length)) (fun j m₁ ν₁ => ν₁ = ν ∧ m₁ "code" = some (.ref x)) (ν₀ := ν) ⟨oi, rfl, by simpa using hoi⟩ (fun p hp => ltN' (hit p (.tail _ hp))) trivial ⟨rfl, by walk_at "zlk"⟩ (by walk_at "zsub") ?_ ?_
    · rintro j m₁ ν₁ v δ b' hj ⟨rfl, hm1⟩ hcl _ ⟨⟨tj, rfl⟩, rfl⟩ _ hB'
      obtain ⟨r, hjr⟩ : ∃ r, rs[j]? = some r := ⟨_, List.getElem?_eq_getElem (by omega)⟩
      with_reducible refine ev_assignName ?_
      ((with_reducible refine' ev_store ?_ ?qL ?qk ?qx); (case qL => with_unfolding_all rfl); (case qk => with_unfolding_all rfl); (case qx => with_unfolding_all rfl))
      with_reducible refine ev_cons ?_
      ((with_reducible refine' ev_ExprAny ?_ ?qi ?qs); (case qi => with_unfolding_all rfl); (case qs => with_unfolding_all rfl))
      ((with_reducible refine' ev_Call ?_ ?qe); (case qe => with_unfolding_all rfl))
      ((with_reducible refine' ev_glob ?qez ?_ ?qg ?qk ?qx ?qd); (case qg => with_unfolding_all rfl); (case qk => with_unfolding_all rfl); (case qx => with_unfolding_all rfl); (case qd => decide); (case qez => k_is))
      ((with_reducible refine' ev_cwF_0 ?qk ?_ ?qe ?qp); (case qe => with_unfolding_all rfl); (case qp => with_unfolding_all rfl); (case qk => k_is))
      ((with_reducible refine' ev_spl ?_ ?qe); (case qe => with_unfolding_all rfl))
      ((with_reducible refine' ev_local ?qvz ?_ ?qL ?qk ?qx ?qd); (case qL => with_unfolding_all rfl); (case qk => with_unfolding_all rfl); (case qx => with_unfolding_all rfl); (case qd => decide); (case qvz => walk_at "zlk"))
      ((with_reducible refine' ev_spl ?_ ?qe); (case qe => with_unfolding_all rfl))
      ((with_reducible refine' ev_local ?qvz ?_ ?qL ?qk ?qx ?qd); (case qL => with_unfolding_all rfl); (case qk => with_unfolding_all rfl); (case qx => with_unfolding_all rfl); (case qd => decide); (case qvz => walk_at "zlk"))
      with_reducible refine ev_spl0 ?_
      refine c_check_row (by walk_at "zroom") (hcode.mono (by walk_at "zbase")) (by walk_at "zmem") hrt' (hrs.mono fun r v y => y.mono (KeepT.of (by walk_at "zbase"))) (by walk_at "zmem") hst' (by walk_at "zmem") hcp' hjr few (hg.row j r hjr) ?_
      with_reducible refine then_next ?_
      with_reducible refine ev_nil ?_
      exact ⟨ν₁, by walk_at "zsub", hcl, trivial, rfl, by walk_at "zlk"⟩
    rintro m₁ ν₁ ⟨rfl, hm1⟩ _ _
    with_reducible refine then_next ?_
    with_reducible refine ev_cons ?_
    ((with_reducible refine' ev_ExprAny ?_ ?qi ?qs); (case qi => with_unfolding_all rfl); (case qs => with_unfolding_all rfl))
    ((with_reducible refine' ev_Call ?_ ?qe); (case qe => with_unfolding_all rfl))
    ((with_reducible refine' ev_glob ?qez ?_ ?qg ?qk ?qx ?qd); (case qg => with_unfolding_all rfl); (case qk => with_unfolding_all rfl); (case qx => with_unfolding_all rfl); (case qd => decide); (case qez => k_is))
    ((with_reducible refine' ev_cwF_0 ?qk ?_ ?qe ?qp); (case qe => with_unfolding_all rfl); (case qp => with_unfolding_all rfl); (case qk => k_is))
    ((with_reducible refine' ev_spl ?_ ?qe); (case qe => with_unfolding_all rfl))
    ((with_reducible refine' ev_local ?qvz ?_ ?qL ?qk ?qx ?qd); (case qL => with_unfolding_all rfl); (case qk => with_unfolding_all rfl); (case qx => with_unfolding_all rfl); (case qd => decide); (case qvz => walk_at "zlk"))
    with_reducible refine ev_spl0 ?_
    refine c_depths_of (by walk_at "zroom") hcode hrt hrt' hrs few hg.any (fun k r hkr => ⟨(hg.row k r hkr).shaped, (hg.row k r hkr).fols, hg.depths k r hkr⟩) hg.start fun d o kvs _ _ _ _ => ?_
    with_reducible refine then_next ?_
    with_reducible refine ev_cons ?_
    with_reducible refine ev_Return ?_
    ((with_reducible refine' ev_local ?qvz ?_ ?qL ?qk ?qx ?qd); (case qL => with_unfolding_all rfl); (case qk => with_unfolding_all rfl); (case qx => with_unfolding_all rfl); (case qd => decide); (case qvz => walk_at "zlk"))
    with_reducible refine then_ret ?_
    exact ⟨_, fun p hp => .tail _ hp, h⟩
theorem c_with_rows {c : Cx} {m : Loc} {ν : Led} {P : Value → Loc → Led → Prop} {R : RX} {x rt st cp mk l : Addr} {nm : Str} {ar sl sl2 : Int} {rs rs2 : List Row} {vs vs2 : List Value} {o : Obj} {u : Tok} {σ : Led} (hr : Room c 4) (hσ : ∀ p ∈ σ, p ∈ ν) (hx : CodeIs σ x nm ar sl rt st cp mk rs vs) (hl : (l, o) ∈ ν) (ho : LstO o vs2) (hrs : RowsV σ rs2 vs2) (hz : vs2.length ≤ 1000)
    (h : ∀ x2 rt2 δ, (∀ p ∈ δ, Above p.1 ν) → CodeIs (δ ++ σ) x2 nm ar sl2 rt2 st cp mk rs2 vs2 → P (.ref x2) m (δ ++ ν)) : EV c m ν (call (.ref 75) [.ref x, .ref l, .int sl2 u]) P R := by
  obtain ⟨dx, es, n, hx1, hx2, hD⟩ := (hx.mono hσ).code
  obtain ⟨ost, tst, hst, hst'⟩ := hx.static
  obtain ⟨ocp, tcp, hcp, hcp'⟩ := hx.captures
  obtain ⟨omk, tmk, hmk, hmk'⟩ := hx.marks
  obtain ⟨tn, hnm⟩ := hD.name
  obtain ⟨ta, har⟩ := hD.arity
  have q1 := hD.static
  have q2 := hD.captures
  have q3 := hD.marks
  refine' ev_call (n := 3) (Rb := NoX) (binds := [("self", .ref x), ("rows", .ref l), ("slots", .int sl2 u)]) ?ho ?hcd hr ?hb ?hl ?hk ?hc ?h (fun _ _ _ _ _ _ x => x.elim)
  case ho => k_is
  case hcd => k_is
  case hb => exact fun s => BindsTo.of_eq rfl
  case hl => exact locs rfl
  case hk => exact rfl
  case hc => decide
  case h =>
    intro c' hr' _
    dsimp only [bnd]
    with_reducible refine ev_cons ?_
    with_reducible refine ev_Return ?_
    ((with_reducible refine' ev_Call ?_ ?qe); (case qe => with_unfolding_all rfl))
    ((with_reducible refine' ev_glob ?qez ?_ ?qg ?qk ?qx ?qd); (case qg => with_unfolding_all rfl); (case qk => with_unfolding_all rfl); (case qx => with_unfolding_all rfl); (case qd => decide); (case qez => k_is))
    ((with_reducible refine' ev_cwF_0 ?qk ?_ ?qe ?qp); (case qe => with_unfolding_all rfl); (case qp => with_unfolding_all rfl); (case qk => k_is))
    ((with_reducible refine' ev_spl ?_ ?qe); (case qe => with_unfolding_all rfl))
    ((with_reducible refine' ev_Attr ?_ ?qe); (case qe => with_unfolding_all rfl))
    ((with_reducible refine' ev_local ?qvz ?_ ?qL ?qk ?qx ?qd); (case qL => with_unfolding_all rfl); (case qk => with_unfolding_all rfl); (case qx => with_unfolding_all rfl); (case qd => decide); (case qvz => walk_at "zlk"))
    ((with_reducible refine' ev_getAttr ?qx ?qdx ?qg ?qh ?qa ?qn ?ql ?qv ?_); (case qx => walk_at "zmem"); (case qdx => walk_at "zmem"); (case ql => assumption); (case qg => k_is); (case qh => k_is); (case qa => k_is); (case qn => k_is); (case qv => exact rfl))
    ((with_reducible refine' ev_spl ?_ ?qe); (case qe => with_unfolding_all rfl))
    ((with_reducible refine' ev_Attr ?_ ?qe); (case qe => with_unfolding_all rfl))
    ((with_reducible refine' ev_local ?qvz ?_ ?qL ?qk ?qx ?qd); (case qL => with_unfolding_all rfl); (case qk => with_unfolding_all rfl); (case qx => with_unfolding_all rfl); (case qd => decide); (case qvz => walk_at "zlk"))
    ((with_reducible refine' ev_getAttr ?qx ?qdx ?qg ?qh ?qa ?qn ?ql ?qv ?_); (case qx => walk_at "zmem"); (case qdx => walk_at "zmem"); (case ql => assumption); (case qg => k_is); (case qh => k_is); (case qa => k_is); (case qn => k_is); (case qv => exact rfl))
    ((with_reducible refine' ev_spl ?_ ?qe); (case qe => with_unfolding_all rfl))
    ((with_reducible refine' ev_local ?qvz ?_ ?qL ?qk ?qx ?qd); (case qL => with_unfolding_all rfl); (case qk => with_unfolding_all rfl); (case qx => with_unfolding_all rfl); (case qd => decide); (case qvz => walk_at "zlk"))
    ((with_reducible refine' ev_spl ?_ ?qe); (case qe => with_unfolding_all rfl))
    ((with_reducible refine' ev_local ?qvz ?_ ?qL ?qk ?qx ?qd); (case qL => with_unfolding_all rfl); (case qk => with_unfolding_all rfl); (case qx => with_unfolding_all rfl); (case qd => decide); (case qvz => walk_at "zlk"))
    ((with_reducible refine' ev_spl ?_ ?qe); (case qe => with_unfolding_all rfl))
    ((with_reducible refine' ev_Attr ?_ ?qe); (case qe => with_unfolding_all rfl))
    ((with_reducible refine' ev_local ?qvz ?_ ?qL ?qk ?qx ?qd); (case qL => with_unfolding_all rfl); (case qk => with_unfolding_all rfl); (case qx => with_unfolding_all rfl); (case qd => decide); (case qvz => walk_at "zlk"))
    ((with_reducible refine' ev_getAttr ?qx ?qdx ?qg ?qh ?qa ?qn ?ql ?qv ?_); (case qx => walk_at "zmem"); (case qdx => walk_at "zmem"); (case ql => assumption); (case qg => k_is); (case qh => k_is); (case qa => k_is); (case qn => k_is); (case qv => exact rfl))
    ((with_reducible refine' ev_spl ?_ ?qe); (case qe => with_unfolding_all rfl))
    ((with_reducible refine' ev_Attr ?_ ?qe); (case qe => with_unfolding_all rfl))
    ((with_reducible refine' ev_local ?qvz ?_ ?qL ?qk ?qx ?qd); (case qL => with_unfolding_all rfl); (case qk => with_unfolding_all rfl); (case qx => with_unfolding_all rfl); (case qd => decide); (case qvz => walk_at "zlk"))
    ((with_reducible refine' ev_getAttr ?qx ?qdx ?qg ?qh ?qa ?qn ?ql ?qv ?_); (case qx => walk_at "zmem"); (case qdx => walk_at "zmem"); (case ql => assumption); (case qg => k_is); (case qh => k_is); (case qa => k_is); (case qn => k_is); (case qv => exact rfl))
    ((with_reducible refine' ev_spl ?_ ?qe); (case qe => with_unfolding_all rfl))
    ((with_reducible refine' ev_Attr ?_ ?qe); (case qe => with_unfolding_all rfl))
    ((with_reducible refine' ev_local ?qvz ?_ ?qL ?qk ?qx ?qd); (case qL => with_unfolding_all rfl); (case qk => with_unfolding_all rfl); (case qx => with_unfolding_all rfl); (case qd => decide); (case qvz => walk_at "zlk"))
    ((with_reducible refine' ev_getAttr ?qx ?qdx ?qg ?qh ?qa ?qn ?ql ?qv ?_); (case qx => walk_at "zmem"); (case qdx => walk_at "zmem"); (case ql => assumption); (case qg => k_is); (case qh => k_is); (case qa => k_is); (case qn => k_is); (case qv => exact rfl))
    with_reducible refine ev_spl0 ?_
    refine c_Code (by walk_at "zroom") hl ho hz (hσ _ hst) hst' (hσ _ hcp) hcp' (hσ _ hmk) hmk' fun x2 rt2 δ hδ hrt2 hin hat => ?_
    with_reducible refine then_ret ?_
    have sub : ∀ p ∈ σ, p ∈ δ ++ σ := fun p hp => List.mem_append_right _ hp
    exact h x2 rt2 δ hδ ⟨hat.mono (fun p hp => List.mem_append_left _ hp), ⟨_, List.mem_append_left _ hin, tupO_mk⟩, hrs.mono fun _ _ y => y.mono (KeepT.of sub), ⟨_, _, sub _ hst, hst'⟩, ⟨_, _, sub _ hcp, hcp'⟩, ⟨_, _, sub _ hmk, hmk'⟩⟩

/-- no sign 10 -/
def NoNL (x : Str) : Prop := 10 ∉ x.cps.toList
theorem NoNL.app {x y : Str} (h : NoNL x) (h' : NoNL y) : NoNL (x ++ y) := by
  unfold NoNL at *
  show 10 ∉ (x.cps ++ y.cps).toList
  simp only [Array.toList_append, List.mem_append, not_or]
  exact ⟨h, h'⟩
theorem app_len (x y : Str) : (x ++ y).length = x.length + y.length := by
  show (x.cps ++ y.cps).size = x.cps.size + y.cps.size
  simp
theorem join_nl {sep : Str} (hs : NoNL sep) : ∀ ys : List Str, (∀ y ∈ ys, NoNL y) → NoNL (Str.join sep ys)
  | [], _ => by unfold NoNL Str.join Str.empty; simp
  | [x], h => h x (.head _)
  | x :: y :: r, h => ((h x (.head _)).app hs).app (join_nl hs (y :: r) fun z hz => h z (.tail _ hz))
theorem ofString_cps (x : String) : (Str.ofString x).cps.toList = x.toList.map Char.toNat := by
  rw [Str.ofString_eq_byList]
  rfl
theorem nat_repr_nl (n : Nat) : ∀ ch ∈ (Nat.repr n).toList, ch.toNat ≠ 10 := by
  intro ch h
  have : ch.isDigit = true := Nat.isDigit_of_mem_toDigits (b := 10) (n := n) (by decide) (by decide) (by simpa [Nat.repr] using h)
  intro e
  unfold Char.isDigit at this
  simp only [Bool.and_eq_true, decide_eq_true_eq] at this
  have h1 : (48 : Nat) ≤ ch.toNat := this.1
  omega
theorem str_int_nl (a : Int) : NoNL (Str.ofString (toString a)) := by
  unfold NoNL
  rw [ofString_cps]
  intro h
  obtain ⟨ch, hc, e⟩ := List.mem_map.mp h
  cases a with
  | ofNat n => exact nat_repr_nl n ch hc e
  | negSucc n =>
    have : (toString (Int.negSucc n)).toList = '-' :: (Nat.repr (n + 1)).toList := by
      show (Int.repr (Int.negSucc n)).toList = _
      simp [Int.repr]
    rw [this] at hc
    rcases List.mem_cons.mp hc with rfl | hc
    · cases e
    · exact nat_repr_nl _ ch hc e
def AtTxt : At → Prop
  | .int n => n.natAbs ≤ 1900
  | .str x => x = "bool" ∨ x = "nothing" ∨ x = "k"
  | .bool _ => True
theorem at_shown {a : At} (h : AtTxt a) : NoNL a.data.shown ∧ a.data.shown.length ≤ 2002 ∧ a.data.showable = true ∧ a.data.hasDict = false := by
  cases a with
  | int n =>
    refine ⟨str_int_nl n, ?_, ?_, rfl⟩
    · have := len_str_of_int n
      have h' : n.natAbs ≤ 1900 := h
      have e : (At.data (.int n)).shown.length = (Str.ofString (toString n)).length := rfl
      rw [e]
      omega
    · show decide (n.natAbs.log2 < 1920) = true
      exact decide_eq_true (Nat.lt_of_le_of_lt (Nat.log2_le_self _) (Nat.lt_of_le_of_lt h (by decide)))
  | str x =>
    rcases h with rfl | rfl | rfl
    · exact ⟨by unfold NoNL; decide +kernel, by decide +kernel, rfl, rfl⟩
    · exact ⟨by unfold NoNL; decide +kernel, by decide +kernel, rfl, rfl⟩
    · exact ⟨by unfold NoNL; decide +kernel, by decide +kernel, rfl, rfl⟩
  | bool b => cases b <;> exact ⟨by unfold NoNL; decide +kernel, by decide +kernel, rfl, rfl⟩
theorem parts_shown {l : List At} (h : ∀ a ∈ l, AtTxt a) : (∀ y ∈ PyData.shownAll (l.map At.data), NoNL y ∧ y.length ≤ 2002) ∧ PyData.showableAll (l.map At.data) = true ∧ PyData.hasDictAll (l.map At.data) = false ∧ PyData.depthAll (l.map At.data) = 0 ∧ (PyData.shownAll (l.map At.data)).length = l.length := by
  induction l with
  | nil => exact ⟨(fun _ h => nomatch h), rfl, rfl, rfl, rfl⟩
  | cons a l ih =>
    obtain ⟨i1, i2, i3, i4, i5⟩ := ih fun b hb => h b (.tail _ hb)
    obtain ⟨a1, a2, a3, a4⟩ := at_shown (h a (.head _))
    refine ⟨fun y hy => ?_, ?_, ?_, ?_, ?_⟩
    · rcases List.mem_cons.mp hy with rfl | hy
      · exact ⟨a1, a2⟩
      · exact i1 y hy
    · show (a.data.showable && _) = true
      rw [a3, Bool.true_and]; exact i2
    · show (a.data.hasDict || _) = false
      rw [a4, Bool.false_or]; exact i3
    · show max a.data.depth _ = 0
      rw [i4]
      cases a <;> rfl
    · exact congrArg Nat.succ i5
def PartTxt (p : Part) : Prop := match p.pay with
  | .one (.int n) => n.natAbs ≤ 1900
  | .one (.str x) => NoNL x ∧ x.length ≤ 100
  | .one (.bool _) => False
  | .tup l => l.length ≤ 4 ∧ ∀ a ∈ l, AtTxt a
abbrev StrV (x : Str) (v : Value) : Prop := ∃ t, v = .str x t
theorem strsAre {l : List Str} {vs : List Value} (h : AllV StrV l vs) : StrsAre vs l := by
  induction h with
  | nil => exact .nil
  | cons x _ ih => obtain ⟨t, rfl⟩ := x; exact .cons _ _ ih
theorem join_len (sep : Str) (b : Nat) : ∀ ys : List Str, (∀ y ∈ ys, y.length ≤ b) → (Str.join sep ys).length ≤ ys.length * (b + sep.length)
  | [], _ => Nat.zero_le _
  | [x], h => by have := h x (.head _); simp only [Str.join, List.length_singleton, Nat.one_mul]; omega
  | x :: y :: r, h => by
    have h1 := h x (.head _)
    have h2 := join_len sep b (y :: r) fun z hz => h z (.tail _ hz)
    show (x ++ sep ++ Str.join sep (y :: r)).length ≤ _
    rw [app_len, app_len, List.length_cons, Nat.add_mul, Nat.one_mul]
    omega
theorem tuple_shown {l : List At} (hl : l.length ≤ 4) (h : ∀ a ∈ l, AtTxt a) : NoNL (PyData.shown (.tuple (l.map At.data))) ∧ (PyData.shown (.tuple (l.map At.data))).length ≤ 20000 ∧ PyData.showable (.tuple (l.map At.data)) = true ∧ PyData.hasDict (.tuple (l.map At.data)) = false ∧ PyData.depth (.tuple (l.map At.data)) = 1 := by
  obtain ⟨i1, i2, i3, i4, i5⟩ := parts_shown h
  have e : PyData.shown (.tuple (l.map At.data)) = ("(" : Str) ++ Str.join ", " (PyData.shownAll (l.map At.data)) ++ (if (PyData.shownAll (l.map At.data)).length == 1 then ",)" else ")" : String) := rfl
  refine ⟨?_, ?_, i2, i3, by show PyData.depthAll _ + 1 = 1; rw [i4]⟩
  · rw [e]
    refine (NoNL.app (by unfold NoNL; decide) (join_nl (by unfold NoNL; decide) _ fun y hy => (i1 y hy).1)).app ?_
    split <;> (unfold NoNL; decide)
  · rw [e, app_len, app_len]
    have j := join_len ", " 2002 _ fun y hy => (i1 y hy).2
    rw [i5] at j
    have k : (Str.join ", " (PyData.shownAll (l.map At.data))).length ≤ 4 * (2002 + 2) := Nat.le_trans j (Nat.mul_le_mul hl (Nat.le_refl _))
    have e1 : ("(" : Str).length = 1 := rfl
    have e2 : ((if (PyData.shownAll (l.map At.data)).length == 1 then ",)" else ")" : String) : Str).length ≤ 2 := by split <;> decide
    omega
theorem sum_len (b : Nat) : ∀ ys : List Str, (∀ y ∈ ys, y.length ≤ b) → (ys.map (·.length)).sum ≤ ys.length * b
  | [], _ => Nat.zero_le _
  | x :: r, h => by
    have h1 := h x (.head _)
    have h2 := sum_len b r fun z hz => h z (.tail _ hz)
    rw [List.map_cons, List.sum_cons, List.length_cons, Nat.add_mul, Nat.one_mul]
    omega
theorem app_empty (x : Str) : x ++ Str.empty = x := by
  show (⟨x.cps ++ Str.empty.cps⟩ : Str) = x
  simp [Str.empty]
theorem app_assoc (x y z : Str) : x ++ y ++ z = x ++ (y ++ z) := by
  show (⟨x.cps ++ y.cps ++ z.cps⟩ : Str) = ⟨x.cps ++ (y.cps ++ z.cps)⟩
  simp
theorem join_pre (sep x : Str) : ∀ ys : List Str, ∃ tail, Str.join sep (x :: ys) = x ++ tail
  | [] => ⟨Str.empty, (app_empty x).symm⟩
  | y :: r => ⟨sep ++ Str.join sep (y :: r), app_assoc _ _ _⟩

theorem c_row_text {c : Cx} {m : Loc} {ν : Led} {P : Value → Loc → Led → Prop} {R : RX} {r : Row} {v : Value} (hr : Room c 12) (hv : RowV ν r v) (h5 : r.parts.length ≤ 5) (ht : ∀ p ∈ r.parts, PartTxt p) (hn : NoNL r.name ∧ r.name.length ≤ 100)
    (h : ∀ X tail t, X = r.name ++ tail → NoNL X → X.length ≤ 200000 → P (.str X t) m ν) : EV c m ν (call (.ref 125) [v]) P R := by
  obtain ⟨b, o, tn, vs, rfl, hm, ho, ha⟩ := hv
  have hln := ha.length
  refine ev_post ?_
  refine' ev_call (n := 11) (Rb := NoX) (binds := [("row", .ref b)]) ?ho ?hcd hr ?hb ?hl ?hk ?hc ?h (fun _ _ _ _ _ _ x => x.elim)
  case ho => k_is
  case hcd => k_is
  case hb => exact fun s => BindsTo.of_eq rfl
  case hl => exact locs rfl
  case hk => exact rfl
  case hc => decide
  case h =>
    intro c' hr' _
    dsimp only [bnd]
    with_reducible refine ev_cons ?_
    with_reducible refine ev_Return ?_
    ((with_reducible refine' ev_CallM ?_ ?qe); (case qe => with_unfolding_all rfl))
    ((with_reducible refine ev_str ?_); intro _)
    with_reducible refine ev_getJoin ?_
    ((with_reducible refine' ev_cwB_1 ?_ ?qe ?qp); (case qe => with_unfolding_all rfl); (case qp => with_unfolding_all rfl))
    ((with_reducible refine' ev_spl ?_ ?qe); (case qe => with_unfolding_all rfl))
    with_reducible refine ev_BinOp ?_
    with_reducible refine ev_List ?_
    ((with_reducible refine' ev_spl ?_ ?qe); (case qe => with_unfolding_all rfl))
    with_reducible refine ev_Sub ?_
    ((with_reducible refine' ev_local ?qvz ?_ ?qL ?qk ?qx ?qd); (case qL => with_unfolding_all rfl); (case qk => with_unfolding_all rfl); (case qx => with_unfolding_all rfl); (case qd => decide); (case qvz => walk_at "zlk"))
    ((with_reducible refine ev_int ?_); intro _)
    ((with_reducible refine' ev_itemTN ?qm ?qo ?q0 ?q1 ?qx ?_ ?qs); (case qs => with_unfolding_all rfl); (case qm => walk_at "zmem"); (case qo => walk_at "zo"); (case q0 => decide); (case q1 => decide); (case qx => exact rfl))
    with_reducible refine ev_spl0 ?_
    refine ev_newList (fun l0 hl0 => ?_) (by simp [sizeLine])
    refine' ev_ListComp (cl := []) (Rb := NoX) ?_ outCompNoX ?h1 ?h2 ?h3 ?h4 ?h5
    case h1 => with_unfolding_all rfl
    case h2 => decide
    case h3 => rfl
    case h4 => decide
    case h5 => exact fun _ => rfl
    ((with_reducible refine' ev_FromA ?_ ?qs); (case qs => intro _ _; with_unfolding_all rfl))
    ((with_reducible refine' ev_local ?qvz ?_ ?qL ?qk ?qx ?qd); (case qL => with_unfolding_all rfl); (case qk => with_unfolding_all rfl); (case qx => with_unfolding_all rfl); (case qd => decide); (case qvz => walk_at "zlk"))
    ((with_reducible refine ev_int ?_); intro _)
    refine ⟨b, o, _, 1, _, rfl, rfl, by walk_at "zmem", ho, by decide, by simp only [List.length_cons]; omega, by simp only [List.length_cons]; omega, fun D hD => ?_⟩
    have hT : TupO (tupO (List.drop 1 (Value.str r.name tn :: vs))) vs := ⟨0, rfl⟩
    refine ev_iterT (l := D) (.head _) hT fun it oi hit hoi => ?_
    refine ev_compI (yldT hT) (by rw [hln]; exact Nat.le_trans h5 (by decide)) (fun k acc ν₂ => ν₂ = (D, tupO (List.drop 1 (Value.str r.name tn :: vs))) :: (l0, lstO [.str r.name tn]) :: ν ∧ ∃ Xs, AllV StrV Xs acc ∧ ∀ X ∈ Xs, NoNL X ∧ X.length ≤ 20000) ⟨oi, rfl, hoi⟩ (fun p hp => ltN' (hit p hp)) (.head _) ⟨rfl, [], .nil, fun _ h => nomatch h⟩ (fun _ h => h) (fun a ha => ⟨_, .head _, ha.symm⟩) (fun k b hb p hp => by obtain ⟨oi', rfl, _⟩ := hb; cases hp with | head => rfl | tail _ h => cases h) (fun L q h => .tail _ h) ?_ ?_
    · rintro k acc ν₂ v δ2 b3 C oC mC D2 oD2 hk hal ⟨rfl, Xs, hXs, hXn⟩ hne2 hsr2 ⟨hx2, rfl⟩ hδ2 hB2 hNs hoD2 hab2 hDC hbCD hneC
      obtain ⟨p, hp, hpv⟩ := ha.at hx2
      have htp := ht p (List.mem_of_getElem? hp)
      unfold PartTxt at htp
      unfold PartV at hpv
      with_reducible refine ev_assignName ?_
      ((with_reducible refine' ev_storeC ?qC (fun _ h => h) ?qn ?_ ?qL ?qk ?qx); (case qL => with_unfolding_all rfl); (case qk => with_unfolding_all rfl); (case qx => with_unfolding_all rfl); (case qC => assumption); (case qn => walk_at "zne"); intro _ _)
      with_reducible refine ev_tests0 ?_
      with_reducible refine ite_T ?_
      ((with_reducible refine' ev_Call ?_ ?qe); (case qe => with_unfolding_all rfl))
      ((with_reducible refine' ev_bltn ?qez ?qv ?_ ?qn ?qg ?qb ?qk ?qx ?qd); (case qg => with_unfolding_all rfl); (case qb => with_unfolding_all rfl); (case qk => with_unfolding_all rfl); (case qx => with_unfolding_all rfl); (case qd => decide); (case qn => decide); (case qez => k_is); (case qv => first | boot_fast | boot_by_name))
      ((with_reducible refine' ev_cwT_0 ?_ ?qe ?qp); (case qe => with_unfolding_all rfl); (case qp => with_unfolding_all rfl))
      ((with_reducible refine' ev_spl ?_ ?qe); (case qe => with_unfolding_all rfl))
      ((with_reducible refine' ev_localC ?qm ?qC ?qv ?_ ?qL ?qk ?qx ?qd); (case qL => with_unfolding_all rfl); (case qk => with_unfolding_all rfl); (case qx => with_unfolding_all rfl); (case qd => decide); (case qm => walk_at "zmem"); (case qC => assumption); (case qv => walk_at "zlk"))
      with_reducible refine ev_spl0 ?_
      cases hpay : p.pay with
      | one a =>
        rw [hpay] at htp hpv
        cases a with
        | int n =>
          obtain ⟨t1, rfl⟩ := hpv
          refine ev_strI (Nat.lt_of_le_of_lt (Nat.log2_le_self _) (Nat.lt_of_le_of_lt htp (by decide))) fun t2 => ?_
          refine' comp_done ?sub ?ns hne2 hsr2 ⟨rfl, _, hXs.snoc ⟨_, rfl⟩, ?_⟩
          case sub => walk_at "zsub"
          case ns => assumption
          intro X hX
          rcases List.mem_append.mp hX with hX | hX
          · exact hXn X hX
          · rw [List.mem_singleton] at hX
            subst hX
            exact ⟨str_int_nl n, by have := len_str_of_int n; have h' : n.natAbs ≤ 1900 := htp; omega⟩
        | str x =>
          obtain ⟨t1, rfl⟩ := hpv
          refine ev_strS ?_
          refine' comp_done ?sub ?ns hne2 hsr2 ⟨rfl, _, hXs.snoc ⟨_, rfl⟩, ?_⟩
          case sub => walk_at "zsub"
          case ns => assumption
          intro X hX
          rcases List.mem_append.mp hX with hX | hX
          · exact hXn X hX
          · rw [List.mem_singleton] at hX
            subst hX
            exact ⟨htp.1, Nat.le_trans htp.2 (by decide)⟩
        | bool x => exact htp.elim
      | tup l =>
        rw [hpay] at htp hpv
        obtain ⟨s1, s2, s3, s4, s5⟩ := tuple_shown htp.1 htp.2
        refine ev_strD (d := PyData.tuple (l.map At.data)) (via_pay (.tup l) v (PayV.mono (KeepT.of (by walk_at "zbase")) hpv)) s3 s4 rfl (by walk_at "zroom") (Nat.le_trans (Nat.le_of_eq s5) (by decide)) (Nat.le_trans s2 (by decide)) fun t2 => ?_
        refine' comp_done ?sub ?ns hne2 hsr2 ⟨rfl, _, hXs.snoc ⟨_, rfl⟩, ?_⟩
        case sub => walk_at "zsub"
        case ns => assumption
        intro X hX
        rcases List.mem_append.mp hX with hX | hX
        · exact hXn X hX
        · rw [List.mem_singleton] at hX
          subst hX
          exact ⟨s1, s2⟩
    · rintro D2 oD2 acc ν₂ hal ⟨rfl, Xs, hXs, hXn⟩ hoD2 hab2 hne2 hsr2
      have hXl : Xs.length ≤ 5 := by rw [← hXs.length]; omega
      refine ev_addL (a := l0) (b := D2) (by walk_at "zmem") lstO_mk (.head _) hoD2 (by rw [hXs.length]; exact Nat.le_trans (Nat.add_le_add_left hXl _) (by simp [sizeLine])) fun D3 o3 hD3 ho3 => ?_
      with_reducible refine ev_spl0 ?_
      have hall : ∀ X ∈ r.name :: Xs, NoNL X ∧ X.length ≤ 20000 := by
        intro X hX
        rcases List.mem_cons.mp hX with rfl | hX
        · exact ⟨hn.1, Nat.le_trans hn.2 (by decide)⟩
        · exact hXn X hX
      refine ev_join (ys := r.name :: Xs) (.head _) ho3 (strsAre (.cons ⟨_, rfl⟩ hXs)) ?_ fun t3 => ?_
      · have q := sum_len 20000 _ fun X hX => (hall X hX).2
        have q2 : (r.name :: Xs).length ≤ 6 := Nat.succ_le_succ hXl
        have e1 : (" " : Str).length = 1 := rfl
        rw [e1]
        omega
      with_reducible refine then_ret ?_
      have ej : Txt.join " " (r.name :: Xs) = Str.join " " (r.name :: Xs) := PySem.StrLaws.glued_eq_join _ _
      rw [ej]
      obtain ⟨tail, htail⟩ := join_pre " " r.name Xs
      refine ⟨_, ?_, h _ tail _ htail (join_nl (by unfold NoNL; decide) _ fun X hX => (hall X hX).1) ?_⟩
      · walk_at "zsub"
      · have q := join_len " " 20000 _ fun X hX => (hall X hX).2
        have q2 : (r.name :: Xs).length ≤ 6 := Nat.succ_le_succ hXl
        exact Nat.le_trans q (Nat.le_trans (Nat.mul_le_mul q2 (Nat.le_refl _)) (by decide))

/-- the text of a row's line -/
def LineOf (rs : List Row) (Xs : List Str) (k : Nat) : Prop := ∀ j r, j < k → rs[j]? = some r → ∃ tail, Xs[j]? = some (Str.ofString (toString (j : Int)) ++ ": " ++ (r.name ++ tail))
theorem c_code_text {c : Cx} {m : Loc} {ν : Led} {P : Value → Loc → Led → Prop} {R : RX} {x rt st cp mk : Addr} {nm : Str} {ar sl : Int} {rs : List Row} {vs : List Value} (hr : Room c 14) (hx : CodeIs ν x nm ar sl rt st cp mk rs vs) (hl : rs.length ≤ 30) (hnm : NoNL nm ∧ nm.length ≤ 100) (har : ar.natAbs ≤ 1900) (hsl : sl.natAbs ≤ 1900)
    (hrow : ∀ r ∈ rs, r.parts.length ≤ 5 ∧ (∀ p ∈ r.parts, PartTxt p) ∧ NoNL r.name ∧ r.name.length ≤ 100)
    (h : ∀ X head Xs t, X = Str.join "\n" (head :: Xs) → (∀ y ∈ head :: Xs, NoNL y) → Xs.length = rs.length → LineOf rs Xs rs.length → X.length ≤ 2 ^ 23 → P (.str X t) m ν) : EV c m ν (call (.ref 130) [.ref x]) P R := by
  obtain ⟨dx, es, n, hx1, hx2, hD⟩ := hx.code
  obtain ⟨ort, hrt, hrt'⟩ := hx.rows
  have hrs := hx.each
  have hlen := hrs.length
  have h40 : vs.length < 2 ^ 40 := by omega
  have hro := hD.rows
  obtain ⟨tn, hna⟩ := hD.name
  obtain ⟨ta, haa⟩ := hD.arity
  obtain ⟨ts, hsa⟩ := hD.slots
  refine ev_post ?_
  refine' ev_callC (n := 13) (Rb := NoX) (binds := [("code", .ref x)]) (m₀ := noLoc) (cs := fun L => [("code", L + 1)]) (cm := bnd noLoc [("code", .ref x)]) ?ho ?hcd hr ?hb ?hkd ?hnd ?hm ?hcm ?hcs ?hck ?h (fun _ _ _ _ _ _ x => x.elim)
  case ho => k_is
  case hcd => k_is
  case hb => exact fun s => BindsTo.of_eq rfl
  case hkd => exact rfl
  case hnd => decide
  case hm => exact fun _ => rfl
  case hcm => exact fun _ => rfl
  case hcs => exact fun _ => rfl
  case hck => exact rfl
  case h =>
    intro c' cells hr' _ hY lt
    obtain ⟨oc, rfl, hoc⟩ := hY.one
    replace hoc : oc.data = .cell (some (.ref x)) := by rw [hoc]; rfl
    have hcc : Above (c'.L + 1) ν := fun p hp => Nat.lt_succ_of_lt (lt p hp)
    rw [List.singleton_append]
    with_reducible refine ev_cons ?_
    ((with_reducible refine' ev_Assign ?_ ?qs); (case qs => with_unfolding_all rfl))
    with_reducible refine ev_BinOp ?_
    with_reducible refine ev_BinOp ?_
    with_reducible refine ev_BinOp ?_
    with_reducible refine ev_BinOp ?_
    ((with_reducible refine' ev_Attr ?_ ?qe); (case qe => with_unfolding_all rfl))
    ((with_reducible refine' ev_cell ?qc ?qm ?qo ?_ ?qk ?qx ?qd); (case qk => with_unfolding_all rfl); (case qx => with_unfolding_all rfl); (case qd => decide); (case qc => with_unfolding_all rfl); (case qm => walk_at "zmem"); (case qo => assumption))
    ((with_reducible refine' ev_getAttr ?qx ?qdx ?qg ?qh ?qa ?qn ?ql ?qv ?_); (case qx => walk_at "zmem"); (case qdx => walk_at "zmem"); (case ql => assumption); (case qg => k_is); (case qh => k_is); (case qa => k_is); (case qn => k_is); (case qv => exact rfl))
    ((with_reducible refine ev_str ?_); intro _)
    have l2 : (" " : Str).length = 1 := rfl
    have l3 : (" of " : Str).length = 4 := rfl
    have l4 : (": " : Str).length = 2 := rfl
    have la := len_str_of_int ar
    have ls := len_str_of_int sl
    refine ev_addS (by rw [l2]; have := hnm.2; omega) fun _ => ?_
    ((with_reducible refine' ev_Call ?_ ?qe); (case qe => with_unfolding_all rfl))
    ((with_reducible refine' ev_bltn ?qez ?qv ?_ ?qn ?qg ?qb ?qk ?qx ?qd); (case qg => with_unfolding_all rfl); (case qb => with_unfolding_all rfl); (case qk => with_unfolding_all rfl); (case qx => with_unfolding_all rfl); (case qd => decide); (case qn => decide); (case qez => k_is); (case qv => first | boot_fast | boot_by_name))
    ((with_reducible refine' ev_cwT_0 ?_ ?qe ?qp); (case qe => with_unfolding_all rfl); (case qp => with_unfolding_all rfl))
    ((with_reducible refine' ev_spl ?_ ?qe); (case qe => with_unfolding_all rfl))
    ((with_reducible refine' ev_Attr ?_ ?qe); (case qe => with_unfolding_all rfl))
    ((with_reducible refine' ev_cell ?qc ?qm ?qo ?_ ?qk ?qx ?qd); (case qk => with_unfolding_all rfl); (case qx => with_unfolding_all rfl); (case qd => decide); (case qc => with_unfolding_all rfl); (case qm => walk_at "zmem"); (case qo => assumption))
    ((with_reducible refine' ev_getAttr ?qx ?qdx ?qg ?qh ?qa ?qn ?ql ?qv ?_); (case qx => walk_at "zmem"); (case qdx => walk_at "zmem"); (case ql => assumption); (case qg => k_is); (case qh => k_is); (case qa => k_is); (case qn => k_is); (case qv => exact rfl))
    with_reducible refine ev_spl0 ?_
    refine ev_strI (Nat.lt_of_le_of_lt (Nat.log2_le_self _) (Nat.lt_of_le_of_lt har (by decide))) fun _ => ?_
    refine ev_addS (by rw [app_len, l2]; have := hnm.2; omega) fun _ => ?_
    ((with_reducible refine ev_str ?_); intro _)
    refine ev_addS (by rw [app_len, app_len, l2, l3]; have := hnm.2; omega) fun _ => ?_
    ((with_reducible refine' ev_Call ?_ ?qe); (case qe => with_unfolding_all rfl))
    ((with_reducible refine' ev_bltn ?qez ?qv ?_ ?qn ?qg ?qb ?qk ?qx ?qd); (case qg => with_unfolding_all rfl); (case qb => with_unfolding_all rfl); (case qk => with_unfolding_all rfl); (case qx => with_unfolding_all rfl); (case qd => decide); (case qn => decide); (case qez => k_is); (case qv => first | boot_fast | boot_by_name))
    ((with_reducible refine' ev_cwT_0 ?_ ?qe ?qp); (case qe => with_unfolding_all rfl); (case qp => with_unfolding_all rfl))
    ((with_reducible refine' ev_spl ?_ ?qe); (case qe => with_unfolding_all rfl))
    ((with_reducible refine' ev_Attr ?_ ?qe); (case qe => with_unfolding_all rfl))
    ((with_reducible refine' ev_cell ?qc ?qm ?qo ?_ ?qk ?qx ?qd); (case qk => with_unfolding_all rfl); (case qx => with_unfolding_all rfl); (case qd => decide); (case qc => with_unfolding_all rfl); (case qm => walk_at "zmem"); (case qo => assumption))
    ((with_reducible refine' ev_getAttr ?qx ?qdx ?qg ?qh ?qa ?qn ?ql ?qv ?_); (case qx => walk_at "zmem"); (case qdx => walk_at "zmem"); (case ql => assumption); (case qg => k_is); (case qh => k_is); (case qa => k_is); (case qn => k_is); (case qv => exact rfl))
    with_reducible refine ev_spl0 ?_
    refine ev_strI (Nat.lt_of_le_of_lt (Nat.log2_le_self _) (Nat.lt_of_le_of_lt hsl (by decide))) fun _ => ?_
    refine ev_addS (by rw [app_len, app_len, app_len, l2, l3]; have := hnm.2; omega) fun _ => ?_
    have hh : NoNL (nm ++ " " ++ Str.ofString (toString ar) ++ " of " ++ Str.ofString (toString sl)) := (((hnm.1.app (by unfold NoNL; decide)).app (str_int_nl ar)).app (by unfold NoNL; decide)).app (str_int_nl sl)
    have hhl : (nm ++ " " ++ Str.ofString (toString ar) ++ " of " ++ Str.ofString (toString sl)).length ≤ 202200 := by
      rw [app_len, app_len, app_len, app_len, l2, l3]
      have := hnm.2
      omega
    generalize (nm ++ " " ++ Str.ofString (toString ar) ++ " of " ++ Str.ofString (toString sl)) = head at hh hhl
    ((with_reducible refine' ev_store ?_ ?qL ?qk ?qx); (case qL => with_unfolding_all rfl); (case qk => with_unfolding_all rfl); (case qx => with_unfolding_all rfl))
    with_reducible refine then_next ?_
    with_reducible refine ev_cons ?_
    with_reducible refine ev_Return ?_
    ((with_reducible refine' ev_CallM ?_ ?qe); (case qe => with_unfolding_all rfl))
    ((with_reducible refine ev_str ?_); intro _)
    with_reducible refine ev_getJoin ?_
    ((with_reducible refine' ev_cwB_1 ?_ ?qe ?qp); (case qe => with_unfolding_all rfl); (case qp => with_unfolding_all rfl))
    ((with_reducible refine' ev_spl ?_ ?qe); (case qe => with_unfolding_all rfl))
    with_reducible refine ev_BinOp ?_
    with_reducible refine ev_List ?_
    ((with_reducible refine' ev_spl ?_ ?qe); (case qe => with_unfolding_all rfl))
    ((with_reducible refine' ev_local ?qvz ?_ ?qL ?qk ?qx ?qd); (case qL => with_unfolding_all rfl); (case qk => with_unfolding_all rfl); (case qx => with_unfolding_all rfl); (case qd => decide); (case qvz => walk_at "zlk"))
    with_reducible refine ev_spl0 ?_
    refine ev_newList (fun l0 hl0 => ?_) (by simp [sizeLine])
    refine' ev_ListComp (cl := [("code", c'.L + 1)]) (Rb := NoX) ?_ outCompNoX ?h1 ?h2 ?h3 ?h4 ?h5
    case h1 => with_unfolding_all rfl
    case h2 => decide
    case h3 => rfl
    case h4 => decide
    case h5 => exact fun _ => rfl
    ((with_reducible refine' ev_Call ?_ ?qe); (case qe => with_unfolding_all rfl))
    ((with_reducible refine' ev_bltn ?qez ?qv ?_ ?qn ?qg ?qb ?qk ?qx ?qd); (case qg => with_unfolding_all rfl); (case qb => with_unfolding_all rfl); (case qk => with_unfolding_all rfl); (case qx => with_unfolding_all rfl); (case qd => decide); (case qn => decide); (case qez => k_is); (case qv => first | boot_fast | boot_by_name))
    ((with_reducible refine' ev_cwT_0 ?_ ?qe ?qp); (case qe => with_unfolding_all rfl); (case qp => with_unfolding_all rfl))
    ((with_reducible refine' ev_spl ?_ ?qe); (case qe => with_unfolding_all rfl))
    ((with_reducible refine' ev_Call ?_ ?qe); (case qe => with_unfolding_all rfl))
    ((with_reducible refine' ev_bltn ?qez ?qv ?_ ?qn ?qg ?qb ?qk ?qx ?qd); (case qg => with_unfolding_all rfl); (case qb => with_unfolding_all rfl); (case qk => with_unfolding_all rfl); (case qx => with_unfolding_all rfl); (case qd => decide); (case qn => decide); (case qez => k_is); (case qv => first | boot_fast | boot_by_name))
    ((with_reducible refine' ev_cwB_0 ?_ ?qe ?qp); (case qe => with_unfolding_all rfl); (case qp => with_unfolding_all rfl))
    ((with_reducible refine' ev_spl ?_ ?qe); (case qe => with_unfolding_all rfl))
    ((with_reducible refine' ev_Attr ?_ ?qe); (case qe => with_unfolding_all rfl))
    ((with_reducible refine' ev_cell ?qc ?qm ?qo ?_ ?qk ?qx ?qd); (case qk => with_unfolding_all rfl); (case qx => with_unfolding_all rfl); (case qd => decide); (case qc => with_unfolding_all rfl); (case qm => walk_at "zmem"); (case qo => assumption))
    ((with_reducible refine' ev_getAttr ?qx ?qdx ?qg ?qh ?qa ?qn ?ql ?qv ?_); (case qx => walk_at "zmem"); (case qdx => walk_at "zmem"); (case ql => assumption); (case qg => k_is); (case qh => k_is); (case qa => k_is); (case qn => k_is); (case qv => exact rfl))
    with_reducible refine ev_spl0 ?_
    ((with_reducible refine' ev_lenT ?qm ?qo ?qf ?_); (case qm => walk_at "zmem"); (case qo => walk_at "zo"); (case qf => walk_at "zlen"); intro _)
    with_reducible refine ev_spl0 ?_
    refine ev_range1 fun r0 t1 t2 hr0 => ?_
    refine ev_iterR (.head _) (Int.natCast_nonneg _) (by omega) fun it oi hit hoi => ?_
    refine ev_compI (yldR (n := vs.length)) (by rw [hlen]; exact Nat.le_trans hl (by decide)) (fun k acc ν₂ => ν₂ = (l0, lstO [Value.str head _]) :: (c'.L + 1, oc) :: ν ∧ ∃ Xs, AllV StrV Xs acc ∧ (∀ X ∈ Xs, NoNL X ∧ X.length ≤ 202200) ∧ Xs.length = k ∧ LineOf rs Xs k) ⟨oi, rfl, by simpa using hoi⟩ (fun p hp => ltN' (hit p (.tail _ hp))) trivial ⟨rfl, [], .nil, (fun _ h => nomatch h), rfl, fun j r hj => absurd hj (Nat.not_lt_zero _)⟩ (by walk_at "zsub") (fun a ha => ⟨_, .head _, ha.symm⟩) (fun k b hb p hp => by obtain ⟨oi', rfl, _⟩ := hb; cases hp with | head => rfl | tail _ h => cases h) (fun L q h => trivial) ?_ ?_
    · rintro k acc ν₂ v δ2 b3 C oC mC D2 oD2 hk hal ⟨rfl, Xs, hXs, hXn, hXl, hline⟩ hne2 hsr2 ⟨⟨tk, rfl⟩, rfl⟩ hδ2 hB2 hNs hoD2 hab2 hDC hbCD hneC
      obtain ⟨r, hkr⟩ : ∃ r, rs[k]? = some r := ⟨_, List.getElem?_eq_getElem (by omega)⟩
      obtain ⟨v, hkv, hrv⟩ := hrs.get hkr
      obtain ⟨g1, g2, g3⟩ := hrow r (List.mem_of_getElem? hkr)
      have lk := len_str_of_int (k : Int)
      with_reducible refine ev_assignName ?_
      ((with_reducible refine' ev_storeC ?qC (fun _ h => h) ?qn ?_ ?qL ?qk ?qx); (case qL => with_unfolding_all rfl); (case qk => with_unfolding_all rfl); (case qx => with_unfolding_all rfl); (case qC => assumption); (case qn => walk_at "zne"); intro _ _)
      with_reducible refine ev_tests0 ?_
      with_reducible refine ite_T ?_
      with_reducible refine ev_BinOp ?_
      with_reducible refine ev_BinOp ?_
      ((with_reducible refine' ev_Call ?_ ?qe); (case qe => with_unfolding_all rfl))
      ((with_reducible refine' ev_bltn ?qez ?qv ?_ ?qn ?qg ?qb ?qk ?qx ?qd); (case qg => with_unfolding_all rfl); (case qb => with_unfolding_all rfl); (case qk => with_unfolding_all rfl); (case qx => with_unfolding_all rfl); (case qd => decide); (case qn => decide); (case qez => k_is); (case qv => first | boot_fast | boot_by_name))
      ((with_reducible refine' ev_cwT_0 ?_ ?qe ?qp); (case qe => with_unfolding_all rfl); (case qp => with_unfolding_all rfl))
      ((with_reducible refine' ev_spl ?_ ?qe); (case qe => with_unfolding_all rfl))
      ((with_reducible refine' ev_localC ?qm ?qC ?qv ?_ ?qL ?qk ?qx ?qd); (case qL => with_unfolding_all rfl); (case qk => with_unfolding_all rfl); (case qx => with_unfolding_all rfl); (case qd => decide); (case qm => walk_at "zmem"); (case qC => assumption); (case qv => walk_at "zlk"))
      with_reducible refine ev_spl0 ?_
      refine ev_strI (Nat.lt_of_le_of_lt (Nat.log2_le_self _) (by omega)) fun _ => ?_
      ((with_reducible refine ev_str ?_); intro _)
      refine ev_addS (by rw [l4]; omega) fun _ => ?_
      ((with_reducible refine' ev_Call ?_ ?qe); (case qe => with_unfolding_all rfl))
      ((with_reducible refine' ev_glob ?qez ?_ ?qg ?qk ?qx ?qd); (case qg => with_unfolding_all rfl); (case qk => with_unfolding_all rfl); (case qx => with_unfolding_all rfl); (case qd => decide); (case qez => k_is))
      ((with_reducible refine' ev_cwF_0 ?qk ?_ ?qe ?qp); (case qe => with_unfolding_all rfl); (case qp => with_unfolding_all rfl); (case qk => k_is))
      ((with_reducible refine' ev_spl ?_ ?qe); (case qe => with_unfolding_all rfl))
      with_reducible refine ev_Sub ?_
      ((with_reducible refine' ev_Attr ?_ ?qe); (case qe => with_unfolding_all rfl))
      ((with_reducible refine' ev_cell ?qc ?qm ?qo ?_ ?qk ?qx ?qd); (case qk => with_unfolding_all rfl); (case qx => with_unfolding_all rfl); (case qd => decide); (case qc => with_unfolding_all rfl); (case qm => walk_at "zmem"); (case qo => assumption))
      ((with_reducible refine' ev_getAttr ?qx ?qdx ?qg ?qh ?qa ?qn ?ql ?qv ?_); (case qx => walk_at "zmem"); (case qdx => walk_at "zmem"); (case ql => assumption); (case qg => k_is); (case qh => k_is); (case qa => k_is); (case qn => k_is); (case qv => exact rfl))
      ((with_reducible refine' ev_localC ?qm ?qC ?qv ?_ ?qL ?qk ?qx ?qd); (case qL => with_unfolding_all rfl); (case qk => with_unfolding_all rfl); (case qx => with_unfolding_all rfl); (case qd => decide); (case qm => walk_at "zmem"); (case qC => assumption); (case qv => walk_at "zlk"))
      ((with_reducible refine' ev_itemTK ?qm ?qo ?q1 ?qx ?_ ?qs); (case qs => with_unfolding_all rfl); (case qm => walk_at "zmem"); (case qo => walk_at "zo"); (case q1 => omega); (case qx => assumption))
      with_reducible refine ev_spl0 ?_
      refine c_row_text (by walk_at "zroom") (hrv.mono (KeepT.of (by walk_at "zbase"))) g1 g2 g3 fun X tail tX hX hXnl hXlen => ?_
      refine ev_addS (by rw [app_len, l4]; omega) fun _ => ?_
      refine' comp_done ?sub ?ns hne2 hsr2 ⟨rfl, _, hXs.snoc ⟨_, rfl⟩, ?_, by rw [List.length_append, hXl]; rfl, ?_⟩
      case sub => walk_at "zsub"
      case ns => assumption
      · intro Y hY
        rcases List.mem_append.mp hY with hY | hY
        · exact hXn Y hY
        · rw [List.mem_singleton] at hY
          subst hY
          refine ⟨((str_int_nl k).app (by unfold NoNL; decide)).app hXnl, ?_⟩
          rw [app_len, app_len, l4]
          omega
      · intro j r' hj hr'
        by_cases hjk : j = k
        · subst hjk
          rw [hkr] at hr'
          cases hr'
          exact ⟨tail, by rw [List.getElem?_append_right (by omega), hXl, Nat.sub_self, hX]; rfl⟩
        · obtain ⟨tail', ht'⟩ := hline j r' (by omega) hr'
          exact ⟨tail', by rw [List.getElem?_append_left (by omega)]; exact ht'⟩
    · rintro D2 oD2 acc ν₂ hal ⟨rfl, Xs, hXs, hXn, hXl, hline⟩ hoD2 hab2 hne2 hsr2
      rw [hlen] at hXl hline
      refine ev_addL (a := l0) (b := D2) (by walk_at "zmem") lstO_mk (.head _) hoD2 (by rw [hXs.length, hXl]; exact Nat.le_trans (Nat.add_le_add_left hl _) (by simp [sizeLine])) fun D3 o3 hD3 ho3 => ?_
      with_reducible refine ev_spl0 ?_
      have hall : ∀ X ∈ head :: Xs, NoNL X ∧ X.length ≤ 202200 := by
        intro X hX
        rcases List.mem_cons.mp hX with rfl | hX
        · exact ⟨hh, hhl⟩
        · exact hXn X hX
      have q2 : (head :: Xs).length ≤ 31 := by rw [List.length_cons]; omega
      refine ev_join (ys := head :: Xs) (.head _) ho3 (strsAre (.cons ⟨_, rfl⟩ hXs)) ?_ fun t3 => ?_
      · have q := sum_len 202200 _ fun X hX => (hall X hX).2
        have e1 : ("\n" : Str).length = 1 := rfl
        rw [e1]
        omega
      with_reducible refine then_ret ?_
      have ej : Txt.join "\n" (head :: Xs) = Str.join "\n" (head :: Xs) := PySem.StrLaws.glued_eq_join _ _
      refine ⟨_, ?_, h _ head Xs _ ej (fun X hX => (hall X hX).1) hXl hline ?_⟩
      · walk_at "zsub"
      · rw [ej]
        have q := join_len "\n" 202200 _ fun X hX => (hall X hX).2
        exact Nat.le_trans q (Nat.le_trans (Nat.mul_le_mul q2 (Nat.le_refl _)) (by decide))

/-- the code of a lambda stands -/
def LamC (q : Str) (a : Addr) (rest : Led) : Prop := ∃ o vs t, (a, o) ∈ rest ∧ o.data = .fields vs ∧ vs[1]? = some (.str q t)
theorem codeAmong_other {pos pos' : Pos} {c : Value} (l : List Value) (h : TriplesOk l) (hp : (pos.line == pos'.line && pos.col == pos'.col) = false) : codeAmong pos' (l ++ [rawInt pos.line, rawInt pos.col, c]) = codeAmong pos' l := by
  fun_induction TriplesOk l with
  | case1 =>
    have hp' : ¬ ((pos.line : Int) = pos'.line ∧ (pos.col : Int) = pos'.col) := by
      intro ⟨a, b⟩
      have a' : pos.line = pos'.line := by omega
      have b' : pos.col = pos'.col := by omega
      rw [a', b'] at hp
      simp at hp
    simp only [List.nil_append, rawInt, codeAmong, Bool.and_eq_true, beq_iff_eq]
    rw [if_neg hp']
  | case2 a t b u x rest ih =>
    simp only [List.cons_append, codeAmong]
    split
    · rfl
    · exact ih h
  | case3 l h1 h2 => exact h.elim
/-- the table of the codes of _law_moved's lambdas -/
def TabOk (q : Str) (ps : Array Value) (rest : Led) : Prop := TriplesOk ps.toList ∧ ∀ pos, codeAmong pos ps.toList = none ∨ ∃ a, codeAmong pos ps.toList = some (.ref a) ∧ LamC q a rest
theorem LamC.mono {q : Str} {a : Addr} {rest rest' : Led} (h : LamC q a rest) (hs : ∀ p ∈ rest, p ∈ rest') : LamC q a rest' := let ⟨o, vs, t, x, y⟩ := h; ⟨o, vs, t, hs _ x, y⟩
theorem TabOk.mono {q : Str} {ps : Array Value} {rest rest' : Led} (h : TabOk q ps rest) (hs : ∀ p ∈ rest, p ∈ rest') : TabOk q ps rest' :=
  ⟨h.1, fun pos => (h.2 pos).imp id fun ⟨a, x, y⟩ => ⟨a, x, y.mono hs⟩⟩
theorem ev_lam {c : Cx} {m : Loc} {R : RX} {env : Env} {P : Value → Loc → Led → Prop} {cc T : Addr} {ps : Array Value} {params : Arguments} {body : Expr} {scope : Scope} {pos : Pos} {clos : List (Str × Addr)} {rest core : Led} {q : Str} (C : CodeHd c.base cc T) (hcode : env.code = .ref cc) (hgl : env.globals = mainGlobals) (hq : env.qual ++ "<lambda>" = q) (hne : ∀ p ∈ rest, p.1 ≠ T) (ht : TabOk q ps core) (hs : ∀ p ∈ core, p ∈ rest)
    (hdef : defaultsOf params env = ([], [])) (hcl : closureFor scope env = pure clos)
    (h : ∀ f a ctv pm ps' δ, TabOk q ps' (δ ++ core) → (∀ p ∈ δ, Above p.1 ((T, tabObj ps) :: rest)) → LamC q a (δ ++ core) → (f, kla_obj "<lambda>" q params body scope clos pm a ctv) ∈ δ → P (.ref f) m ((T, tabObj ps') :: (δ ++ rest))) :
    EV c m ((T, tabObj ps) :: rest) (eval (.Lambda params body scope pos) env) P R := by
  subst hq
  rcases ht.2 pos with hn | ⟨a, ha, hL⟩
  · refine ev_post (ev_LambdaNew C hcode hgl (fun _ h => h) hne ht.1 hn hdef hcl fun f c' oc vs t ctv pm hd hv hab hlt => ?_)
    have hab' : Above f ((T, tabObj ps) :: rest) := fun p hp => Nat.lt_trans (hab p hp) hlt
    have e : (ps ++ #[rawInt pos.line, rawInt pos.col, Value.ref c']).toList = ps.toList ++ [rawInt pos.line, rawInt pos.col, Value.ref c'] := by simp
    refine ⟨_, ?_, h f c' ctv pm _ [(f, _), (c', oc)] ⟨by rw [e]; exact TriplesOk_snoc _ _ _ _ ht.1, fun pos' => ?_⟩ ?_ ⟨oc, vs, t, .tail _ (.head _), hd, hv⟩ (.head _)⟩
    · intro p hp
      rcases hp with _ | ⟨_, _ | ⟨_, _ | ⟨_, hp⟩⟩⟩
      · exact .tail _ (.tail _ (.head _))
      · exact .head _
      · exact .tail _ (.head _)
      · exact .tail _ (.tail _ (.tail _ hp))
    · rw [e]
      cases hpp : (pos.line == pos'.line && pos.col == pos'.col) with
      | false =>
        rw [codeAmong_other _ ht.1 hpp]
        exact (ht.2 pos').imp id fun ⟨a, x, y⟩ => ⟨a, x, y.mono fun p hp => .tail _ (.tail _ hp)⟩
      | true =>
        refine .inr ⟨c', ?_, ⟨oc, vs, t, .tail _ (.head _), hd, hv⟩⟩
        have : ∀ l, codeAmong pos' l = codeAmong pos l := by
          have h1 : pos.line = pos'.line := by simp at hpp; exact hpp.1
          have h2 : pos.col = pos'.col := by simp at hpp; exact hpp.2
          intro l
          fun_induction codeAmong pos' l with
          | case1 => rename_i hc; simp only [codeAmong]; rw [if_pos (by rw [h1, h2]; exact hc)]
          | case2 => rename_i hc ih; simp only [codeAmong]; rw [if_neg (by rw [h1, h2]; exact hc)]; exact ih
          | case3 => rename_i hx; unfold codeAmong; split; exact absurd rfl (hx _ _ _ _ _ _); rfl
        rw [this]
        exact codeAmong_snoc _ ht.1 hn
    · intro p hp
      rcases hp with _ | ⟨_, _ | ⟨_, hp⟩⟩
      · exact hab'
      · exact hab
      · cases hp
  · refine ev_post (ev_LambdaHit C hcode hgl (.head _) ht.1 ha hdef hcl fun f ctv pm hab => ⟨_, ?_, h f a ctv pm ps [(f, _)] (ht.mono fun p hp => .tail _ hp) (fun p hp => by cases hp with | head => exact hab | tail _ h => cases h) (hL.mono fun p hp => .tail _ hp) (.head _)⟩)
    intro p hp
    rcases hp with _ | ⟨_, _ | ⟨_, hp⟩⟩
    · exact .tail _ (.head _)
    · exact .head _
    · exact .tail _ (.tail _ hp)

def SeqO (o : Obj) (vs : List Value) : Prop := LstO o vs ∨ TupO o vs
theorem yldS {c : Cx} {x : Str} {pos : Pos} {it l : Addr} {o : Obj} {vs : List Value} :
    Yld c it (.Name x pos) (fun a => a = it) vs.length (fun k b => ∃ oi, b = [(it, oi)] ∧ ((LstO o vs ∧ LIt oi l k) ∨ (TupO o vs ∧ TIt oi l k))) (fun k v δ => vs[k]? = some v ∧ δ = []) (fun L => (l, o) ∈ L) := by
  refine ⟨?_, ?_⟩
  · rintro k b ν₁ m PO R ⟨oi, rfl, ⟨ho, hi⟩ | ⟨ho, hi⟩⟩ hc hs h1 h2
    · refine (yldL (x := x) (pos := pos) ho).turn k _ ν₁ m PO R ⟨oi, rfl, hi⟩ hc hs h1 (fun hk v δ b₁ hi' hd go => h2 hk v δ b₁ hi' hd fun m' PU R' ν₂ q1 q2 => go m' PU R' ν₂ q1 fun b' ⟨oi', e, z⟩ => q2 b' ⟨oi', e, .inl ⟨ho, z⟩⟩)
    · refine (yldT (x := x) (pos := pos) ho).turn k _ ν₁ m PO R ⟨oi, rfl, hi⟩ hc hs h1 (fun hk v δ b₁ hi' hd go => h2 hk v δ b₁ hi' hd fun m' PU R' ν₂ q1 q2 => go m' PU R' ν₂ q1 fun b' ⟨oi', e, z⟩ => q2 b' ⟨oi', e, .inr ⟨ho, z⟩⟩)
  · rintro k b ν m P R ⟨oi, rfl, ⟨ho, hi⟩ | ⟨ho, hi⟩⟩ hs h
    · exact ev_selfL (hs _ (.head _)) hi h
    · exact ev_selfT (hs _ (.head _)) hi h
theorem ev_iterS {c : Cx} {m : Loc} {ν : Led} {R : RX} {P : Value → Loc → Led → Prop} {l : Addr} {o : Obj} {vs : List Value} (hm : (l, o) ∈ ν) (ho : SeqO o vs) (h : ∀ it oi, Above it ν → ((LstO o vs ∧ LIt oi l 0) ∨ (TupO o vs ∧ TIt oi l 0)) → P (.ref it) m ((it, oi) :: ν)) : EV c m ν (pyIter (.ref l)) P R := by
  rcases ho with ho | ho
  · exact ev_iterL hm ho fun it oi a b => h it oi a (.inl ⟨ho, b⟩)
  · exact ev_iterT hm ho fun it oi a b => h it oi a (.inr ⟨ho, b⟩)
theorem notT_cell {o : Obj} {v : Option Value} (h : o.data = .cell v) : ¬ IsT o := by
  rintro ⟨vs, n, rfl⟩
  cases h
theorem notT_lst {o : Obj} {ws : List Value} (h : LstO o ws) : ¬ IsT o := by
  rintro ⟨vs, n, rfl⟩
  obtain ⟨n', e⟩ := h
  have q : Value.type "tuple" = Value.type "list" := congrArg Obj.cls e
  injection q with q
  exact absurd q (by decide)
theorem notT_ns {o : Obj} {m : Loc} (h : NsObj o m) : ¬ IsT o := by
  rintro ⟨vs, n, rfl⟩
  obtain ⟨es, ep, hd, _⟩ := h
  cases hd
theorem notT_it {o : Obj} {l : Addr} {k : Nat} {vs : List Value} {o' : Obj} (h : (LstO o' vs ∧ LIt o l k) ∨ (TupO o' vs ∧ TIt o l k)) : ¬ IsT o := by
  rintro ⟨vs, n, rfl⟩
  rcases h with ⟨_, h⟩ | ⟨_, h⟩
  · have q : Value.type "tuple" = Value.type "list_iterator" := h.1
    injection q with q
    exact absurd q (by decide)
  · have q : Value.type "tuple" = Value.type "tuple_iterator" := h.1
    injection q with q
    exact absurd q (by decide)
def movedQ : Str := Str.ofString "_law_moved" ++ ".<locals>." ++ "<lambda>"
theorem lam_reg {L1 : Led} {f a cb : Addr} {ctv pm : Value} {n : Int} {t : Tok} {ob : Obj} {L2 : Led} (hf : (f, kla_obj "<lambda>" movedQ { posonlyargs := [], args := [{ arg := "register", annotation := none, pos := ⟨138, 35, 138, 43⟩ }], vararg := none, kwonlyargs := [], kw_defaults := [], kwarg := none, defaults := [] } (.BinOp (.Name "register" ⟨138, 45, 138, 53⟩) .Add (.Name "below" ⟨138, 56, 138, 61⟩) ⟨138, 45, 138, 61⟩) { kind := .function, names := [("register", .local), ("below", .free)], isGenerator := false, isCoroutine := false } [("below", cb)] pm a ctv) ∈ L1)
    (hL : LamC movedQ a L2) (hob : ob.data = .cell (some (.int n t))) {L : Led} (h1 : ∀ p ∈ L1, p ∈ L) (h2 : ∀ p ∈ L2, p ∈ L) (hm : (cb, ob) ∈ L) : Callee L f (· + n) := by
  obtain ⟨o, vs, t3, ho, hd, hv⟩ := hL
  refine ⟨⟨_, h1 _ hf, _, rfl⟩, fun c m ν' P R k u hr hs h => ?_⟩
  have hm' := hs _ hm
  refine ev_callLam (n := 0) (binds := [("register", .int k u)]) (hs _ (h1 _ hf)) (hs _ (h2 _ ho)) hd hv hr rfl (locs rfl) rfl (by decide) fun c₂ hr₂ _ => ?_
  dsimp only [bnd]
  with_reducible refine ev_BinOp ?_
  ((with_reducible refine' ev_local ?qvz ?_ ?qL ?qk ?qx ?qd); (case qL => with_unfolding_all rfl); (case qk => with_unfolding_all rfl); (case qx => with_unfolding_all rfl); (case qd => decide); (case qvz => walk_at "zlk"))
  ((with_reducible refine' ev_free ?qc ?qm ?qo ?_ ?qk ?qx ?qd ?qn); (case qk => with_unfolding_all rfl); (case qx => with_unfolding_all rfl); (case qd => decide); (case qn => decide); (case qc => with_unfolding_all rfl); (case qm => walk_at "zmem"); (case qo => assumption))
  ((with_reducible refine ev_add ?_); intro _)
  exact h _
theorem lam_goal {L1 : Led} {f a cb : Addr} {ctv pm : Value} {n : Int} {t : Tok} {ob : Obj} {L2 : Led} (hf : (f, kla_obj "<lambda>" movedQ { posonlyargs := [], args := [{ arg := "goal", annotation := none, pos := ⟨138, 70, 138, 74⟩ }], vararg := none, kwonlyargs := [], kw_defaults := [], kwarg := none, defaults := [] } (.BinOp (.Name "goal" ⟨138, 76, 138, 80⟩) .Add (.Name "more" ⟨138, 83, 138, 87⟩) ⟨138, 76, 138, 87⟩) { kind := .function, names := [("goal", .local), ("more", .free)], isGenerator := false, isCoroutine := false } [("more", cb)] pm a ctv) ∈ L1)
    (hL : LamC movedQ a L2) (hob : ob.data = .cell (some (.int n t))) {L : Led} (h1 : ∀ p ∈ L1, p ∈ L) (h2 : ∀ p ∈ L2, p ∈ L) (hm : (cb, ob) ∈ L) : Callee L f (· + n) := by
  obtain ⟨o, vs, t3, ho, hd, hv⟩ := hL
  refine ⟨⟨_, h1 _ hf, _, rfl⟩, fun c m ν' P R k u hr hs h => ?_⟩
  have hm' := hs _ hm
  refine ev_callLam (n := 0) (binds := [("goal", .int k u)]) (hs _ (h1 _ hf)) (hs _ (h2 _ ho)) hd hv hr rfl (locs rfl) rfl (by decide) fun c₂ hr₂ _ => ?_
  dsimp only [bnd]
  with_reducible refine ev_BinOp ?_
  ((with_reducible refine' ev_local ?qvz ?_ ?qL ?qk ?qx ?qd); (case qL => with_unfolding_all rfl); (case qk => with_unfolding_all rfl); (case qx => with_unfolding_all rfl); (case qd => decide); (case qvz => walk_at "zlk"))
  ((with_reducible refine' ev_free ?qc ?qm ?qo ?_ ?qk ?qx ?qd ?qn); (case qk => with_unfolding_all rfl); (case qx => with_unfolding_all rfl); (case qd => decide); (case qn => decide); (case qc => with_unfolding_all rfl); (case qm => walk_at "zmem"); (case qo => assumption))
  ((with_reducible refine ev_add ?_); intro _)
  exact h _
theorem c_law_moved {c : Cx} {m : Loc} {ν ν₁ : Led} {P : Value → Loc → Led → Prop} {R : RX} {l : Addr} {o : Obj} {vs : List Value} {rs : List Row} {ps : Array Value} {more below : Int} {t1 t2 : Tok} (hr : Room c 6) (C : CodeHd c.base 186 184) (hν : ∀ p ∈ (184, tabObj ps) :: ν₁, p ∈ ν) (hne : ∀ p ∈ ν₁, p.1 ≠ 184) (hT : TabOk movedQ ps ν₁) (hl : (l, o) ∈ ν₁) (ho : SeqO o vs)
    (hrs : RowsV ν₁ rs vs) (hz : rs.length ≤ 1000) (hsh : ∀ r ∈ rs, Shaped r ∧ ∀ l, Part.m l ∈ r.parts → l.length ≤ 1000)
    (h : ∀ D oD ws ps' δ, Above D ν₁ → LstO oD ws → RowsV (δ ++ ν₁) (rs.map (Row.turn (· + below) (· + more))) ws → TabOk movedQ ps' (δ ++ ν₁) → (∀ p ∈ δ, Above p.1 ((184, tabObj ps) :: ν₁) ∧ p.1 ≠ D) → P (.ref D) m ((D, oD) :: (184, tabObj ps') :: (δ ++ ν₁))) :
    EV c m ν (call (.ref 187) [.ref l, .int more t1, .int below t2]) P R := by
  refine ev_sub ?_ hν
  refine ev_post ?_
  refine' ev_callC (n := 5) (Rb := NoX) (binds := [("rows", .ref l), ("more", .int more t1), ("below", .int below t2)]) (m₀ := bnd noLoc [("rows", .ref l)]) (cs := fun L => [("below", L + 2), ("more", L + 1)]) (cm := bnd noLoc [("more", .int more t1), ("below", .int below t2)]) ?ho ?hcd hr ?hb ?hkd ?hnd ?hm ?hcm ?hcs ?hck ?h (fun _ _ _ _ _ _ x => x.elim)
  case ho => k_is
  case hcd => k_is
  case hb => exact fun s => BindsTo.of_eq rfl
  case hkd => exact rfl
  case hnd => decide
  case hm => exact fun _ => rfl
  case hcm => exact fun _ => rfl
  case hcs => exact fun _ => rfl
  case hck => exact rfl
  case h =>
    intro c' cells hr' hcw hY lt
    obtain ⟨ob, om, rfl, hob, hom⟩ := hY.two
    replace hob : ob.data = .cell (some (.int below t2)) := by rw [hob]; rfl
    replace hom : om.data = .cell (some (.int more t1)) := by rw [hom]; rfl
    have C' : CodeHd c'.base 186 184 := hcw.1 ▸ C
    with_reducible refine ev_cons ?_
    with_reducible refine ev_Return ?_
    refine' ev_ListComp (cl := [("more", c'.L + 1), ("below", c'.L + 2)]) (Rb := NoX) ?_ outCompNoX ?h1 ?h2 ?h3 ?h4 ?h5
    case h1 => with_unfolding_all rfl
    case h2 => decide
    case h3 => rfl
    case h4 => decide
    case h5 => exact fun _ => rfl
    dsimp only [bnd]
    ((with_reducible refine' ev_local ?qvz ?_ ?qL ?qk ?qx ?qd); (case qL => with_unfolding_all rfl); (case qk => with_unfolding_all rfl); (case qx => with_unfolding_all rfl); (case qd => decide); (case qvz => walk_at "zlk"))
    refine ev_iterS (by walk_at "zmem") ho fun it oi hit hoi => ?_
    have hvl : vs.length = rs.length := hrs.length
    have hcl1 : @LT.lt Nat _ 184 c'.L := lt _ (.head _)
    have hcl2 : ∀ p ∈ ν₁, @LT.lt Nat _ p.1 c'.L := fun p hp => lt p (.tail _ hp)
    have hsub0 : ∀ p ∈ (184, tabObj ps) :: ([] ++ ((c'.L + 2, ob) :: (c'.L + 1, om) :: ν₁)), p ∈ [(c'.L + 2, ob), (c'.L + 1, om)] ++ (184, tabObj ps) :: ν₁ := by walk_at "zsub"
    refine ev_compI (yldS (l := l) (o := o)) (by rw [hvl]; exact Nat.le_trans hz (by decide)) (fun k acc ν₂ => ∃ ps' δ, ν₂ = (184, tabObj ps') :: (δ ++ ((c'.L + 2, ob) :: (c'.L + 1, om) :: ν₁)) ∧ TabOk movedQ ps' (δ ++ ν₁) ∧ RowsV (δ ++ ν₁) ((rs.take k).map (Row.turn (· + below) (· + more))) acc ∧ (∀ p ∈ δ, Above p.1 ((184, tabObj ps) :: ν₁))) (ν₀ := (184, tabObj ps) :: ([] ++ ((c'.L + 2, ob) :: (c'.L + 1, om) :: ν₁))) ⟨oi, rfl, hoi⟩ (fun p hp => ltN' (hit p (hsub0 p hp))) (by walk_at "zmem") ⟨ps, [], rfl, hT, .nil, fun _ h => nomatch h⟩ (by walk_at "zsub") (fun a ha => ⟨_, .head _, ha.symm⟩) (fun k b hb p hp => by obtain ⟨oi', rfl, _⟩ := hb; cases hp with | head => rfl | tail _ h => cases h) (fun L q h => .tail _ h) ?_ ?_
    · rintro k acc ν₂ v δ0 b3 Ca oC mC D2 oD2 hk hal ⟨ps', δ, rfl, hT', hacc, hδ⟩ hne2 hsr2 ⟨hx2, rfl⟩ hδ2 hB2 hNs hoD2 hab2 hDC hbCD hneC
      obtain ⟨oi2, rfl, hoi2⟩ := hB2
      obtain ⟨r, hkr, hrv⟩ := hrs.at hx2
      obtain ⟨hs1, hs2⟩ := hsh r (List.mem_of_getElem? hkr)
      with_reducible refine ev_assignName ?_
      ((with_reducible refine' ev_storeC ?qC (fun _ h => h) ?qn ?_ ?qL ?qk ?qx); (case qL => with_unfolding_all rfl); (case qk => with_unfolding_all rfl); (case qx => with_unfolding_all rfl); (case qC => assumption); (case qn => walk_at "zne"); intro _ _)
      with_reducible refine ev_tests0 ?_
      with_reducible refine ite_T ?_
      ((with_reducible refine' ev_Call ?_ ?qe); (case qe => with_unfolding_all rfl))
      ((with_reducible refine' ev_glob ?qez ?_ ?qg ?qk ?qx ?qd); (case qg => with_unfolding_all rfl); (case qk => with_unfolding_all rfl); (case qx => with_unfolding_all rfl); (case qd => decide); (case qez => k_is))
      ((with_reducible refine' ev_cwF_0 ?qk ?_ ?qe ?qp); (case qe => with_unfolding_all rfl); (case qp => with_unfolding_all rfl); (case qk => k_is))
      ((with_reducible refine' ev_spl ?_ ?qe); (case qe => with_unfolding_all rfl))
      ((with_reducible refine' ev_localC ?qm ?qC ?qv ?_ ?qL ?qk ?qx ?qd); (case qL => with_unfolding_all rfl); (case qk => with_unfolding_all rfl); (case qx => with_unfolding_all rfl); (case qd => decide); (case qm => walk_at "zmem"); (case qC => assumption); (case qv => walk_at "zlk"))
      ((with_reducible refine' ev_spl ?_ ?qe); (case qe => with_unfolding_all rfl))
      rename_i oC2 hN2
      refine ev_sub (ν' := (184, tabObj ps') :: ((Ca, oC2) :: (D2, oD2) :: (it, oi2) :: (δ ++ ((c'.L + 2, ob) :: (c'.L + 1, om) :: ν₁)))) ?_ (by walk_at "zsub")
      have n184 : ∀ p ∈ δ ++ ((c'.L + 2, ob) :: (c'.L + 1, om) :: ν₁), p.1 ≠ 184 := ne_app (fun p hp => gtN (hδ p hp).head) (ne_cons (gtN (Nat.lt_trans hcl1 (by omega))) (ne_cons (gtN (Nat.lt_trans hcl1 (Nat.lt_succ_self _))) hne))
      have nit : it ≠ 184 := gtN (hit _ (by walk_at "zmem" : (184, tabObj ps) ∈ _))
      have nD : D2 ≠ 184 := gtN (hab2 _ (.head _))
      have nC : Ca ≠ 184 := gtN (Nat.lt_trans (hab2 _ (.head _)) hDC)
      refine ev_lam (core := δ ++ ν₁) (q := movedQ) C' (by with_unfolding_all rfl) rfl rfl (ne_cons nC (ne_cons nD (ne_cons nit n184))) hT' (by walk_at "zsub") rfl (by with_unfolding_all rfl) fun f1 a1 ctv1 pm1 ps1 δ1 hT1 hδ1 hL1 hf1 => ?_
      ((with_reducible refine' ev_spl ?_ ?qe); (case qe => with_unfolding_all rfl))
      have n184a : ∀ p ∈ δ1 ++ ((Ca, oC2) :: (D2, oD2) :: (it, oi2) :: (δ ++ ((c'.L + 2, ob) :: (c'.L + 1, om) :: ν₁))), p.1 ≠ 184 := ne_app (fun p hp => gtN (hδ1 p hp).head) (ne_cons nC (ne_cons nD (ne_cons nit n184)))
      refine ev_lam (core := δ1 ++ (δ ++ ν₁)) (q := movedQ) C' (by with_unfolding_all rfl) rfl rfl n184a hT1 (by walk_at "zsub") rfl (by with_unfolding_all rfl) fun f2 a2 ctv2 pm2 ps2 δ2 hT2 hδ2' hL2 hf2 => ?_
      with_reducible refine ev_spl0 ?_
      have cal1 := lam_reg (t := t2) (n := below) hf1 hL1 hob (L := (184, tabObj ps2) :: (δ2 ++ (δ1 ++ ((Ca, oC2) :: (D2, oD2) :: (it, oi2) :: (δ ++ ((c'.L + 2, ob) :: (c'.L + 1, om) :: ν₁)))))) (by walk_at "zsub") (by walk_at "zsub") (by walk_at "zmem")
      have cal2 := lam_goal (t := t1) (n := more) hf2 hL2 hom (L := (184, tabObj ps2) :: (δ2 ++ (δ1 ++ ((Ca, oC2) :: (D2, oD2) :: (it, oi2) :: (δ ++ ((c'.L + 2, ob) :: (c'.L + 1, om) :: ν₁)))))) (by walk_at "zsub") (by walk_at "zsub") (by walk_at "zmem")
      refine c_turned_row (by walk_at "zroom") (hrv.mono (KeepT.of (by walk_at "zsub"))) hs1 hs2 cal1 cal2 fun vr δ3 hδ3 hvr => ?_
      have up : ∀ (q : Addr) (L : Led), Above q L → (∀ p ∈ (Ca, oC2) :: (D2, oD2) :: (it, oi2) :: ν₁, p ∈ L) → (∃ o', ((184 : Addr), o') ∈ L) → (¬ q = it ∧ q ≠ Ca ∧ q ≠ D2) ∧ Above q ((184, tabObj ps) :: ν₁) := by
        intro q L hq hs h184
        refine ⟨⟨gtN (hq _ (hs _ (.tail _ (.tail _ (.head _))))), gtN (hq _ (hs _ (.head _))), gtN (hq _ (hs _ (.tail _ (.head _))))⟩, fun p hp => ?_⟩
        rcases List.mem_cons.mp hp with rfl | hp
        · obtain ⟨o', h'⟩ := h184
          exact hq (184, o') h'
        · exact hq p (hs p (.tail _ (.tail _ (.tail _ hp))))
      have up1 := fun p hp => up p.1 _ (hδ1 p hp) (by walk_at "zsub") ⟨_, .head _⟩
      have up2 := fun p hp => up p.1 _ (hδ2' p hp) (by walk_at "zsub") ⟨_, .head _⟩
      have up3 := fun p hp => up p.1 _ (hδ3 p hp) (by walk_at "zsub") ⟨_, .head _⟩
      have new : ∀ p ∈ δ3 ++ (δ2 ++ (δ1 ++ δ)), p ∈ δ ∨ (¬ p.1 = it ∧ p.1 ≠ Ca ∧ p.1 ≠ D2) ∧ Above p.1 ((184, tabObj ps) :: ν₁) := by
        intro p hp
        rcases List.mem_append.mp hp with hp | hp
        · exact .inr (up3 p hp)
        · rcases List.mem_append.mp hp with hp | hp
          · exact .inr (up2 p hp)
          · rcases List.mem_append.mp hp with hp | hp
            · exact .inr (up1 p hp)
            · exact .inl hp
      refine' comp_done (ν'' := (184, tabObj ps2) :: ((δ3 ++ (δ2 ++ (δ1 ++ δ))) ++ ((c'.L + 2, ob) :: (c'.L + 1, om) :: ν₁))) ?sub hN2 (fun p hp => ?_) (by walk_at "zmem") ⟨ps2, δ3 ++ (δ2 ++ (δ1 ++ δ)), rfl, hT2.mono (by walk_at "zsub"), ?_, fun p hp => (new p hp).elim (hδ p) fun x => x.2⟩
      case sub => walk_at "zsub"
      · rcases List.mem_cons.mp hp with rfl | hp
        · exact hne2 (184, tabObj ps') (.head _)
        · rcases List.mem_append.mp hp with hp | hp
          · exact (new p hp).elim (fun q => hne2 p (.tail _ (List.mem_append_left _ q))) fun x => x.1
          · exact hne2 p (.tail _ (List.mem_append_right _ hp))
      · rw [List.take_add_one, hkr, List.map_append]
        refine (hacc.mono fun _ _ y => y.mono (KeepT.of (by walk_at "zsub"))).snoc (hvr.mono ?_)
        intro p hp hpt
        rcases List.mem_append.mp hp with hp | hp
        · exact List.mem_append_left _ (List.mem_append_left _ hp)
        · rcases List.mem_cons.mp hp with rfl | hp
          · obtain ⟨_, _, e⟩ := hpt; cases e
          · rcases List.mem_append.mp hp with hp | hp
            · exact List.mem_append_left _ (List.mem_append_right _ (List.mem_append_left _ hp))
            · rcases List.mem_append.mp hp with hp | hp
              · exact List.mem_append_left _ (List.mem_append_right _ (List.mem_append_right _ (List.mem_append_left _ hp)))
              · rcases hp with _ | ⟨_, _ | ⟨_, _ | ⟨_, hp⟩⟩⟩
                · exact absurd hpt (notT_ns hN2)
                · exact absurd hpt (notT_lst hoD2)
                · exact absurd hpt (notT_it hoi2)
                · rcases List.mem_append.mp hp with hp | hp
                  · exact List.mem_append_left _ (List.mem_append_right _ (List.mem_append_right _ (List.mem_append_right _ hp)))
                  · rcases hp with _ | ⟨_, _ | ⟨_, hp⟩⟩
                    · exact absurd hpt (notT_cell hob)
                    · exact absurd hpt (notT_cell hom)
                    · exact List.mem_append_right _ hp
    · rintro D2 oD2 acc ν₂ hal ⟨ps', δ, rfl, hT', hacc, hδ⟩ hoD2 hab2 hne2 hsr2
      rw [hvl, List.take_length] at hacc
      with_reducible refine then_ret ?_
      refine ⟨(D2, oD2) :: (184, tabObj ps') :: (δ ++ ν₁), ?_, h D2 oD2 acc ps' δ (fun p hp => hab2 p (by walk_at "zmem")) hoD2 hacc hT' fun p hp => ⟨hδ p hp, (hne2 p (.tail _ (List.mem_append_left _ hp))).2⟩⟩
      walk_at "zsub"

theorem c_flow {c : Cx} {m : Loc} {ν ν₁ : Led} {P : Value → Loc → Led → Prop} {R} {t : Addr} {o : Obj} {g k many : Int} {u1 u2 u3 : Tok} (hr : Room c 102) (ho : LstO o [.int g u1, .int k u2]) (hν : ∀ p ∈ (t, o) :: ν₁, p ∈ ν) (hne : ∀ p ∈ ν₁, p.1 ≠ t)
  (hg : 0 ≤ g) (hk0 : 0 ≤ k) (hk1 : k < 65129) (hm0 : 0 < many)
  (h : ∀ r tk g' k' u1' u2' o', 0 ≤ r → r < many → 0 ≤ g' → 0 ≤ k' → k' < 65129 → LstO o' [.int g' u1', .int k' u2'] → P (.int r tk) m ((t, o') :: ν₁)) :
  EV c m ν (call (.ref 172) [.ref t, .int many u3]) P R := by
  refine ev_sub ?_ hν
  refine' ev_call (n := 101) (Rb := NoX) (binds := [("tank", .ref t), ("many", .int many u3)]) ?ho ?hcd hr ?hb ?hl ?hk ?hc ?h (fun _ _ _ _ _ _ x => x.elim)
  case ho => k_is
  case hcd => k_is
  case hb => exact fun s => BindsTo.of_eq rfl
  case hl => exact locs rfl
  case hk => exact rfl
  case hc => decide
  case h =>
    intro c' hr' _
    dsimp only [bnd]
    with_reducible refine ev_cons ?_
    with_reducible refine ev_If ?_
    ((with_reducible refine' ev_isCompare ?_ ?qs); (case qs => with_unfolding_all rfl))
    with_reducible refine ev_Sub ?_
    ((with_reducible refine' ev_local ?qvz ?_ ?qL ?qk ?qx ?qd); (case qL => with_unfolding_all rfl); (case qk => with_unfolding_all rfl); (case qx => with_unfolding_all rfl); (case qd => decide); (case qvz => walk_at "zlk"))
    ((with_reducible refine ev_int ?_); intro _)
    ((with_reducible refine' ev_itemL ?qm ?qo ?q0 ?q1 ?qx ?_ ?qs); (case qs => with_unfolding_all rfl); (case qm => walk_at "zmem"); (case qo => walk_at "zo"); (case q0 => decide); (case q1 => decide); (case qx => exact rfl))
    ((with_reducible refine ev_int ?_); intro _)
    with_reducible refine ev_gt ?_
    with_reducible refine ev_truthyB ?_
    refine ite_D (fun hb => ?_) (fun hb => ?_)
    · with_reducible refine ev_cons ?_
      ((with_reducible refine' ev_Assign ?_ ?qs); (case qs => with_unfolding_all rfl))
      with_reducible refine ev_BinOp ?_
      with_reducible refine ev_Sub ?_
      ((with_reducible refine' ev_local ?qvz ?_ ?qL ?qk ?qx ?qd); (case qL => with_unfolding_all rfl); (case qk => with_unfolding_all rfl); (case qx => with_unfolding_all rfl); (case qd => decide); (case qvz => walk_at "zlk"))
      ((with_reducible refine ev_int ?_); intro _)
      ((with_reducible refine' ev_itemL ?qm ?qo ?q0 ?q1 ?qx ?_ ?qs); (case qs => with_unfolding_all rfl); (case qm => walk_at "zmem"); (case qo => walk_at "zo"); (case q0 => decide); (case q1 => decide); (case qx => exact rfl))
      ((with_reducible refine' ev_local ?qvz ?_ ?qL ?qk ?qx ?qd); (case qL => with_unfolding_all rfl); (case qk => with_unfolding_all rfl); (case qx => with_unfolding_all rfl); (case qd => decide); (case qvz => walk_at "zlk"))
      ((with_reducible refine' ev_mod ?qb ?_); (case qb => omega); intro _)
      ((with_reducible refine' ev_store ?_ ?qL ?qk ?qx); (case qL => with_unfolding_all rfl); (case qk => with_unfolding_all rfl); (case qx => with_unfolding_all rfl))
      with_reducible refine then_next ?_
      with_reducible refine ev_cons ?_
      ((with_reducible refine' ev_AssignSub ?_ ?qs); (case qs => with_unfolding_all rfl))
      with_reducible refine ev_BinOp ?_
      with_reducible refine ev_Sub ?_
      ((with_reducible refine' ev_local ?qvz ?_ ?qL ?qk ?qx ?qd); (case qL => with_unfolding_all rfl); (case qk => with_unfolding_all rfl); (case qx => with_unfolding_all rfl); (case qd => decide); (case qvz => walk_at "zlk"))
      ((with_reducible refine ev_int ?_); intro _)
      ((with_reducible refine' ev_itemL ?qm ?qo ?q0 ?q1 ?qx ?_ ?qs); (case qs => with_unfolding_all rfl); (case qm => walk_at "zmem"); (case qo => walk_at "zo"); (case q0 => decide); (case q1 => decide); (case qx => exact rfl))
      ((with_reducible refine' ev_local ?qvz ?_ ?qL ?qk ?qx ?qd); (case qL => with_unfolding_all rfl); (case qk => with_unfolding_all rfl); (case qx => with_unfolding_all rfl); (case qd => decide); (case qvz => walk_at "zlk"))
      ((with_reducible refine' ev_fdiv ?qb ?qr ?_); (case qb => omega); (case qr => walk_at "zroom"); intro _)
      ((with_reducible refine' ev_local ?qvz ?_ ?qL ?qk ?qx ?qd); (case qL => with_unfolding_all rfl); (case qk => with_unfolding_all rfl); (case qx => with_unfolding_all rfl); (case qd => decide); (case qvz => walk_at "zlk"))
      ((with_reducible refine ev_int ?_); intro _)
      refine' ev_setL ?ho (fun _ x => x) hne ?h0 ?h1 ?hn ?_; (case ho => assumption); (case h0 => decide); (case h1 => decide); (case hn => exact Int.ofNat_lt.mpr (by simp only [List.length_cons]; omega))
      intro o' ho'
      with_reducible refine then_next ?_
      with_reducible refine ev_cons ?_
      with_reducible refine ev_Return ?_
      ((with_reducible refine' ev_local ?qvz ?_ ?qL ?qk ?qx ?qd); (case qL => with_unfolding_all rfl); (case qk => with_unfolding_all rfl); (case qx => with_unfolding_all rfl); (case qd => decide); (case qvz => walk_at "zlk"))
      with_reducible refine then_ret ?_
      with_reducible refine then_ret ?_
      refine h _ _ (g.fdiv many) k _ _ o' (Int.fmod_nonneg_of_pos g hm0) (Int.fmod_lt_of_pos g hm0) (Int.fdiv_nonneg hg (Int.le_of_lt hm0)) hk0 hk1 ho'
    · with_reducible refine ev_nil ?_
      with_reducible refine then_next ?_
      with_reducible refine ev_cons ?_
      ((with_reducible refine' ev_AssignSub ?_ ?qs); (case qs => with_unfolding_all rfl))
      with_reducible refine ev_BinOp ?_
      with_reducible refine ev_BinOp ?_
      with_reducible refine ev_BinOp ?_
      with_reducible refine ev_Sub ?_
      ((with_reducible refine' ev_local ?qvz ?_ ?qL ?qk ?qx ?qd); (case qL => with_unfolding_all rfl); (case qk => with_unfolding_all rfl); (case qx => with_unfolding_all rfl); (case qd => decide); (case qvz => walk_at "zlk"))
      ((with_reducible refine ev_int ?_); intro _)
      ((with_reducible refine' ev_itemL ?qm ?qo ?q0 ?q1 ?qx ?_ ?qs); (case qs => with_unfolding_all rfl); (case qm => walk_at "zmem"); (case qo => walk_at "zo"); (case q0 => decide); (case q1 => decide); (case qx => exact rfl))
      ((with_reducible refine ev_int ?_); intro _)
      ((with_reducible refine' ev_mul ?qm ?_); (case qm => mul_fits); intro _)
      ((with_reducible refine ev_int ?_); intro _)
      ((with_reducible refine ev_add ?_); intro _)
      ((with_reducible refine ev_int ?_); intro _)
      ((with_reducible refine' ev_mod ?qb ?_); (case qb => omega); intro _)
      ((with_reducible refine' ev_local ?qvz ?_ ?qL ?qk ?qx ?qd); (case qL => with_unfolding_all rfl); (case qk => with_unfolding_all rfl); (case qx => with_unfolding_all rfl); (case qd => decide); (case qvz => walk_at "zlk"))
      ((with_reducible refine ev_int ?_); intro _)
      refine' ev_setL ?ho (fun _ x => x) hne ?h0 ?h1 ?hn ?_; (case ho => assumption); (case h0 => decide); (case h1 => decide); (case hn => exact Int.ofNat_lt.mpr (by simp only [List.length_cons]; omega))
      intro o' ho'
      with_reducible refine then_next ?_
      with_reducible refine ev_cons ?_
      with_reducible refine ev_Return ?_
      with_reducible refine ev_BinOp ?_
      with_reducible refine ev_BinOp ?_
      with_reducible refine ev_Sub ?_
      ((with_reducible refine' ev_local ?qvz ?_ ?qL ?qk ?qx ?qd); (case qL => with_unfolding_all rfl); (case qk => with_unfolding_all rfl); (case qx => with_unfolding_all rfl); (case qd => decide); (case qvz => walk_at "zlk"))
      ((with_reducible refine ev_int ?_); intro _)
      ((with_reducible refine' ev_itemL ?qm ?qo ?q0 ?q1 ?qx ?_ ?qs); (case qs => with_unfolding_all rfl); (case qm => walk_at "zmem"); (case qo => walk_at "zo"); (case q0 => decide); (case q1 => decide); (case qx => exact rfl))
      ((with_reducible refine ev_int ?_); intro _)
      ((with_reducible refine' ev_fdiv ?qb ?qr ?_); (case qb => omega); (case qr => walk_at "zroom"); intro _)
      ((with_reducible refine' ev_local ?qvz ?_ ?qL ?qk ?qx ?qd); (case qL => with_unfolding_all rfl); (case qk => with_unfolding_all rfl); (case qx => with_unfolding_all rfl); (case qd => decide); (case qvz => walk_at "zlk"))
      ((with_reducible refine' ev_mod ?qb ?_); (case qb => omega); intro _)
      with_reducible refine then_ret ?_
      refine h _ _ g ((k * 173 + 4409).fmod 65129) _ _ o' (Int.fmod_nonneg_of_pos _ hm0) (Int.fmod_lt_of_pos _ hm0) hg (Int.fmod_nonneg_of_pos _ (by decide)) (Int.fmod_lt_of_pos _ (by decide)) ho'
theorem c_tank {c : Cx} {m : Loc} {ν : Led} {P : Value → Loc → Led → Prop} {R : RX} {sc : Addr} {vs : List Value} {l : List Int} (hr : Room c 2) (hs : c.base.IsList sc vs.toArray) (hi : AllV IntV l vs) (hl : vs.length ≤ 63)
    (h : ∀ t o g k u1 u2, Above t ν → LstO o [.int g u1, .int k u2] → 0 ≤ g → 0 ≤ k → k < 65129 → P (.ref t) m ((t, o) :: ν)) : EV c m ν (call (.ref 165) [.ref sc]) P R := by
  refine' ev_call (n := 1) (Rb := NoX) (binds := [("script", .ref sc)]) ?ho ?hcd hr ?hb ?hl ?hk ?hc ?h (fun _ _ _ _ _ _ x => x.elim)
  case ho => k_is
  case hcd => k_is
  case hb => exact fun s => BindsTo.of_eq rfl
  case hl => exact locs rfl
  case hk => exact rfl
  case hc => decide
  case h =>
    intro c' hr' hcw
    have hs' : c'.base.IsList sc vs.toArray := hcw.1 ▸ hs
    dsimp only [bnd]
    with_reducible refine ev_cons ?_
    ((with_reducible refine' ev_Assign ?_ ?qs); (case qs => with_unfolding_all rfl))
    with_reducible refine ev_IfExp ?_
    ((with_reducible refine' ev_isCompare ?_ ?qs); (case qs => with_unfolding_all rfl))
    ((with_reducible refine' ev_Call ?_ ?qe); (case qe => with_unfolding_all rfl))
    ((with_reducible refine' ev_bltn ?qez ?qv ?_ ?qn ?qg ?qb ?qk ?qx ?qd); (case qg => with_unfolding_all rfl); (case qb => with_unfolding_all rfl); (case qk => with_unfolding_all rfl); (case qx => with_unfolding_all rfl); (case qd => decide); (case qn => decide); (case qez => k_is); (case qv => first | boot_fast | boot_by_name))
    ((with_reducible refine' ev_cwB_0 ?_ ?qe ?qp); (case qe => with_unfolding_all rfl); (case qp => with_unfolding_all rfl))
    ((with_reducible refine' ev_spl ?_ ?qe); (case qe => with_unfolding_all rfl))
    ((with_reducible refine' ev_local ?qvz ?_ ?qL ?qk ?qx ?qd); (case qL => with_unfolding_all rfl); (case qk => with_unfolding_all rfl); (case qx => with_unfolding_all rfl); (case qd => decide); (case qvz => walk_at "zlk"))
    with_reducible refine ev_spl0 ?_
    refine ev_lenBase hs' (by omega) fun _ => ?_
    ((with_reducible refine ev_int ?_); intro _)
    with_reducible refine ev_gt ?_
    with_reducible refine ev_truthyB ?_
    refine kIf_join (fun v m' ν' => (∃ a t, v = .int a t) ∧ m' = upd noLoc "script" (.ref sc) ∧ ν' = ν) ?_ ?_
    · cases vs with
      | nil =>
        refine ite_isF rfl ?_
        ((with_reducible refine ev_int ?_); intro _)
        exact ⟨⟨_, _, rfl⟩, rfl, rfl⟩
      | cons v vs =>
        refine ite_isT (decide_eq_true (by simp)) ?_
        cases hi with
        | cons x r =>
          obtain ⟨t, rfl⟩ := x
          with_reducible refine ev_Sub ?_
          ((with_reducible refine' ev_local ?qvz ?_ ?qL ?qk ?qx ?qd); (case qL => with_unfolding_all rfl); (case qk => with_unfolding_all rfl); (case qx => with_unfolding_all rfl); (case qd => decide); (case qvz => walk_at "zlk"))
          ((with_reducible refine ev_int ?_); intro _)
          refine ev_itemBase hs' (by decide) (by decide) rfl ?_ (by with_unfolding_all rfl)
          exact ⟨⟨_, _, rfl⟩, rfl, rfl⟩
    rintro _ _ ν ⟨⟨a, ta, rfl⟩, rfl, rfl⟩
    ((with_reducible refine' ev_store ?_ ?qL ?qk ?qx); (case qL => with_unfolding_all rfl); (case qk => with_unfolding_all rfl); (case qx => with_unfolding_all rfl))
    with_reducible refine then_next ?_
    with_reducible refine ev_cons ?_
    ((with_reducible refine' ev_Assign ?_ ?qs); (case qs => with_unfolding_all rfl))
    with_reducible refine ev_IfExp ?_
    ((with_reducible refine' ev_isCompare ?_ ?qs); (case qs => with_unfolding_all rfl))
    ((with_reducible refine' ev_local ?qvz ?_ ?qL ?qk ?qx ?qd); (case qL => with_unfolding_all rfl); (case qk => with_unfolding_all rfl); (case qx => with_unfolding_all rfl); (case qd => decide); (case qvz => walk_at "zlk"))
    ((with_reducible refine ev_int ?_); intro _)
    with_reducible refine ev_ge ?_
    with_reducible refine ev_truthyB ?_
    refine kIf_join (fun v m' ν' => (∃ d t, v = .int d t ∧ 0 ≤ d) ∧ m' = upd (upd noLoc "script" (.ref sc)) "told" (.int a ta) ∧ ν' = ν) ?_ ?_
    · refine ite_D (fun hb => ?_) (fun hb => ?_)
      · ((with_reducible refine' ev_local ?qvz ?_ ?qL ?qk ?qx ?qd); (case qL => with_unfolding_all rfl); (case qk => with_unfolding_all rfl); (case qx => with_unfolding_all rfl); (case qd => decide); (case qvz => walk_at "zlk"))
        exact ⟨⟨_, _, rfl, hb⟩, rfl, rfl⟩
      · with_reducible refine ev_BinOp ?_
        with_reducible refine ev_UnaryOp ?_
        ((with_reducible refine ev_int ?_); intro _)
        ((with_reducible refine ev_neg ?_); intro _)
        ((with_reducible refine' ev_local ?qvz ?_ ?qL ?qk ?qx ?qd); (case qL => with_unfolding_all rfl); (case qk => with_unfolding_all rfl); (case qx => with_unfolding_all rfl); (case qd => decide); (case qvz => walk_at "zlk"))
        ((with_reducible refine ev_sub' ?_); intro _)
        exact ⟨⟨_, _, rfl, by omega⟩, rfl, rfl⟩
    rintro _ _ ν ⟨⟨d, td, rfl, hd⟩, rfl, rfl⟩
    ((with_reducible refine' ev_store ?_ ?qL ?qk ?qx); (case qL => with_unfolding_all rfl); (case qk => with_unfolding_all rfl); (case qx => with_unfolding_all rfl))
    with_reducible refine then_next ?_
    with_reducible refine ev_cons ?_
    with_reducible refine ev_Return ?_
    with_reducible refine ev_List ?_
    ((with_reducible refine' ev_spl ?_ ?qe); (case qe => with_unfolding_all rfl))
    with_reducible refine ev_IfExp ?_
    ((with_reducible refine' ev_isCompare ?_ ?qs); (case qs => with_unfolding_all rfl))
    ((with_reducible refine' ev_local ?qvz ?_ ?qL ?qk ?qx ?qd); (case qL => with_unfolding_all rfl); (case qk => with_unfolding_all rfl); (case qx => with_unfolding_all rfl); (case qd => decide); (case qvz => walk_at "zlk"))
    with_reducible refine ev_BinOp ?_
    ((with_reducible refine ev_int ?_); intro _)
    ((with_reducible refine ev_int ?_); intro _)
    refine ev_pow (by decide) (by decide) (by decide) fun _ => ?_
    with_reducible refine ev_ge ?_
    with_reducible refine ev_truthyB ?_
    refine kIf_join (fun v m' ν' => (∃ g t, v = .int g t ∧ 0 ≤ g) ∧ m' = upd (upd (upd noLoc "script" (.ref sc)) "told" (.int a ta)) "depth" (.int d td) ∧ ν' = ν) ?_ ?_
    · refine ite_B (fun hb => ?_) (fun hb => ?_)
      · ((with_reducible refine' ev_local ?qvz ?_ ?qL ?qk ?qx ?qd); (case qL => with_unfolding_all rfl); (case qk => with_unfolding_all rfl); (case qx => with_unfolding_all rfl); (case qd => decide); (case qvz => walk_at "zlk"))
        exact ⟨⟨_, _, rfl, hd⟩, rfl, rfl⟩
      · ((with_reducible refine ev_int ?_); intro _)
        exact ⟨⟨_, _, rfl, Int.le_refl _⟩, rfl, rfl⟩
    rintro _ _ ν ⟨⟨g, tg, rfl, hg⟩, rfl, rfl⟩
    ((with_reducible refine' ev_spl ?_ ?qe); (case qe => with_unfolding_all rfl))
    with_reducible refine ev_BinOp ?_
    with_reducible refine ev_BinOp ?_
    with_reducible refine ev_BinOp ?_
    with_reducible refine ev_BinOp ?_
    with_reducible refine ev_BinOp ?_
    ((with_reducible refine' ev_local ?qvz ?_ ?qL ?qk ?qx ?qd); (case qL => with_unfolding_all rfl); (case qk => with_unfolding_all rfl); (case qx => with_unfolding_all rfl); (case qd => decide); (case qvz => walk_at "zlk"))
    ((with_reducible refine ev_int ?_); intro _)
    ((with_reducible refine' ev_mod ?qb ?_); (case qb => omega); intro _)
    ((with_reducible refine ev_int ?_); intro _)
    ((with_reducible refine' ev_mul ?qm ?_); (case qm => mul_fits); intro _)
    ((with_reducible refine' ev_Call ?_ ?qe); (case qe => with_unfolding_all rfl))
    ((with_reducible refine' ev_bltn ?qez ?qv ?_ ?qn ?qg ?qb ?qk ?qx ?qd); (case qg => with_unfolding_all rfl); (case qb => with_unfolding_all rfl); (case qk => with_unfolding_all rfl); (case qx => with_unfolding_all rfl); (case qd => decide); (case qn => decide); (case qez => k_is); (case qv => first | boot_fast | boot_by_name))
    ((with_reducible refine' ev_cwT_0 ?_ ?qe ?qp); (case qe => with_unfolding_all rfl); (case qp => with_unfolding_all rfl))
    ((with_reducible refine' ev_spl ?_ ?qe); (case qe => with_unfolding_all rfl))
    ((with_reducible refine' ev_Compare ?_ ?qs); (case qs => with_unfolding_all rfl))
    ((with_reducible refine' ev_local ?qvz ?_ ?qL ?qk ?qx ?qd); (case qL => with_unfolding_all rfl); (case qk => with_unfolding_all rfl); (case qx => with_unfolding_all rfl); (case qd => decide); (case qvz => walk_at "zlk"))
    ((with_reducible refine ev_int ?_); intro _)
    with_reducible refine ev_lt ?_
    with_reducible refine ev_spl0 ?_
    refine ev_intB fun _ => ?_
    ((with_reducible refine ev_add ?_); intro _)
    ((with_reducible refine ev_int ?_); intro _)
    ((with_reducible refine ev_add ?_); intro _)
    ((with_reducible refine ev_int ?_); intro _)
    ((with_reducible refine' ev_mod ?qb ?_); (case qb => omega); intro _)
    with_reducible refine ev_spl0 ?_
    refine ev_newList (fun t ht => ?_) (by simp [sizeLine])
    with_reducible refine then_ret ?_
    exact h t _ g _ _ _ ht lstO_mk hg (Int.fmod_nonneg_of_pos _ (by decide)) (Int.fmod_lt_of_pos _ (by decide))

def plainRows (a b c : Int) : List Row := [⟨"const", [.d a, .x (.tup [.str "bool", .bool true])]⟩, ⟨"move", [.d a, .s b]⟩, ⟨"call", [.d a, .s b, .m [c, c, a]]⟩, ⟨"box", [.d a]⟩, ⟨"setbox", [.s a, .s b]⟩, ⟨"unbox", [.d a, .s b, .x (.one (.str "x"))]⟩, ⟨"clear", [.d a]⟩, ⟨"capture", [.d a, .x (.one (.int 0))]⟩, ⟨"static", [.d a, .x (.one (.str "T.1"))]⟩, ⟨"splat", [.d a, .s b, .m [c], .x (.tup [.bool true])]⟩, ⟨"defined", [.s a, .x (.one (.str "y"))]⟩, ⟨"kwcall", [.d a, .s b, .x (.tup [.str "k"]), .m [c], .m [a]]⟩, ⟨"invoke", [.d a, .x (.one (.int 5)), .m [b, c]]⟩, ⟨"closure", [.d a, .x (.one (.str "#1")), .m [b, c]]⟩]
/-- the tank -/
def TankO (o : Obj) : Prop := ∃ g k u1 u2, LstO o [.int g u1, .int k u2] ∧ 0 ≤ g ∧ 0 ≤ k ∧ k < 65129
theorem c_flowT {c : Cx} {m : Loc} {ν ν₁ : Led} {P : Value → Loc → Led → Prop} {R : RX} {t : Addr} {o : Obj} {many : Int} {u3 : Tok} (hr : Room c 102) (ho : TankO o) (hν : ∀ p ∈ (t, o) :: ν₁, p ∈ ν) (hne : ∀ p ∈ ν₁, p.1 ≠ t) (hm0 : 0 < many)
    (h : ∀ r tk o', 0 ≤ r → r < many → TankO o' → P (.int r tk) m ((t, o') :: ν₁)) : EV c m ν (call (.ref 172) [.ref t, .int many u3]) P R := by
  obtain ⟨g, k, u1, u2, ho, hg, hk0, hk1⟩ := ho
  exact c_flow hr ho hν hne hg hk0 hk1 hm0 fun r tk g' k' u1' u2' o' a b d e f g => h r tk o' a b ⟨g', k', _, _, g, d, e, f⟩
theorem c_flowN {c : Cx} {m : Loc} {ν : Led} {P : Value → Loc → Led → Prop} {R : RX} {t : Addr} {o : Obj} {many : Int} {u3 : Tok} (hr : Room c 102) (ho : TankO o) (hm : (t, o) ∈ ν) (hm0 : 0 < many)
    (h : ∀ r tk o' ν', 0 ≤ r → r < many → TankO o' → (t, o') ∈ ν' → (∀ p ∈ ν, p.1 ≠ t → p ∈ ν') → P (.int r tk) m ν') : EV c m ν (call (.ref 172) [.ref t, .int many u3]) P R :=
  c_flowT (ν₁ := ν.filter fun p => decide (p.1 ≠ t)) hr ho (sub_cons hm fun p hp => (List.mem_filter.mp hp).1) (fun p hp => of_decide_eq_true (List.mem_filter.mp hp).2) hm0
    fun r tk o' a b d => h r tk o' _ a b d (.head _) fun p hp hn => .tail _ (List.mem_filter.mpr ⟨hp, decide_eq_true hn⟩)
/-- the new ones of a ledger -/
def newOf (B ν : Led) : Led := ν.filter fun p => decide (∀ q ∈ B, @LT.lt Nat _ q.1 p.1)
theorem mem_new {B ν ν1 : Led} {x : Addr} {o : Obj} (hm : (x, o) ∈ ν) (ha : Above x ν1) (hs : ∀ p ∈ B, p ∈ ν1) : (x, o) ∈ newOf B ν := List.mem_filter.mpr ⟨hm, decide_eq_true fun q hq => ha q (hs q hq)⟩
theorem new_mem {B ν : Led} {p : Addr × Obj} (h : p ∈ newOf B ν) : p ∈ ν ∧ Above p.1 B := ⟨(List.mem_filter.mp h).1, (of_decide_eq_true (List.mem_filter.mp h).2 : ∀ q ∈ B, @LT.lt Nat _ q.1 p.1)⟩
section
variable {ν : Led} {n : Int} {t : Tok} {x : Str} {b : Bool}
theorem pv_d : PartV ν (.d n) (.int n t) := ⟨t, rfl⟩
theorem pv_s : PartV ν (.s n) (.int n t) := ⟨t, rfl⟩
theorem pv_g : PartV ν (.g n) (.int n t) := ⟨t, rfl⟩
theorem pv_xi : PartV ν (.x (.one (.int n))) (.int n t) := ⟨t, rfl⟩
theorem pv_xs : PartV ν (.x (.one (.str x))) (.str x t) := ⟨t, rfl⟩
theorem pv_m {l : List Int} {a : Addr} {o : Obj} {vs : List Value} (hm : (a, o) ∈ ν) (ho : TupO o vs) (h : AllV AtV (l.map .int) vs) : PartV ν (.m l) (.ref a) := ⟨a, o, vs, rfl, hm, ho, h⟩
theorem pv_xt {l : List At} {a : Addr} {o : Obj} {vs : List Value} (hm : (a, o) ∈ ν) (ho : TupO o vs) (h : AllV AtV l vs) : PartV ν (.x (.tup l)) (.ref a) := ⟨a, o, vs, rfl, hm, ho, h⟩
theorem av_i : AtV (.int n) (.int n t) := ⟨t, rfl⟩
theorem av_s : AtV (.str x) (.str x t) := ⟨t, rfl⟩
theorem av_b : AtV (.bool b) (.bool b) := rfl
theorem row_mk {a : Addr} {o : Obj} {ps : List Part} {vs : List Value} (hm : (a, o) ∈ ν) (ho : TupO o (.str x t :: vs)) (h : AllV (PartV ν) ps vs) : RowV ν ⟨x, ps⟩ (.ref a) := ⟨a, o, t, vs, rfl, hm, ho, h⟩
end
theorem plain_pick {c : Cx} {m : Loc} {ν B : Led} {P : Value → Loc → Led → Prop} {R : RX} {t l : Addr} {o ol : Obj} {many : Int} {u3 : Tok} {rows : List Row} {vs : List Value} (hr : Room c 102) (ho : TankO o) (hm : (t, o) ∈ ν) (hml : (l, ol) ∈ ν) (hol : LstO ol vs) (hlt : @LT.lt Nat _ t l) (hB : ∀ p ∈ B, p.1 ≠ t → p ∈ ν) (htB : (t, o) ∈ B) (hmn : many = rows.length) (hp : 0 < rows.length) (hrs : RowsV (newOf B ν) rows vs)
    (h : ∀ k tk o' ν' δ v r, 0 ≤ k → k < many → TankO o' → (t, o') ∈ ν' → (l, ol) ∈ ν' → (∀ p ∈ δ, p ∈ ν') → (∀ p ∈ δ, Above p.1 B) → (∀ p ∈ B, p.1 ≠ t → p ∈ ν') → vs[k.toNat]? = some v → r ∈ rows → RowV δ r v → P (.int k tk) m ν') : EV c m ν (call (.ref 172) [.ref t, .int many u3]) P R := by
  refine c_flowN hr ho hm (by omega) fun k tk o' ν' g0 g1 ho' hm' hsub => ?_
  obtain ⟨r, hkr⟩ : ∃ r, rows[k.toNat]? = some r := ⟨_, List.getElem?_eq_getElem (by omega)⟩
  obtain ⟨v, hkv, hv⟩ := hrs.get hkr
  exact h k tk o' ν' (newOf B ν) v r g0 g1 ho' hm' (hsub _ hml (gtN hlt)) (fun p hp => hsub p (new_mem hp).1 (gtN ((new_mem hp).2 _ htB))) (fun p hp => (new_mem hp).2) (fun p hp hn => hsub p (hB p hp hn) hn) hkv (List.mem_of_getElem? hkr) hv
local macro_rules | `(tactic| walk_at "znew") => `(tactic| ((refine' mem_new ?hm ?ha ?hs); (case hm => walk_at "zmem"); (case ha => assumption); (case hs => walk_at "zsub")))
local macro_rules | `(tactic| walk_at "zats") => `(tactic| first | exact AllV.nil | ((refine' AllV.cons ?p ?_); (case p => first | exact av_i | exact av_s | exact av_b); walk_at "zats"))
local macro_rules | `(tactic| walk_at "zpart") => `(tactic| first | exact pv_d | exact pv_s | exact pv_g | exact pv_xi | exact pv_xs | ((first | refine' pv_m ?hm tupO_mk ?h | refine' pv_xt ?hm tupO_mk ?h); (case hm => walk_at "znew"); (case h => walk_at "zats")))
local macro_rules | `(tactic| walk_at "zparts") => `(tactic| first | exact AllV.nil | ((refine' AllV.cons ?p ?_); (case p => walk_at "zpart"); walk_at "zparts"))
local macro_rules | `(tactic| walk_at "zrow") => `(tactic| ((refine' row_mk ?hm tupO_mk ?h); (case hm => walk_at "znew"); (case h => walk_at "zparts")))
theorem c_plain_row {c : Cx} {m : Loc} {ν ν₁ : Led} {P : Value → Loc → Led → Prop} {R : RX} {t : Addr} {o : Obj} {sl : Int} {u : Tok} (hr : Room c 104) (ho : TankO o) (hν : ∀ p ∈ (t, o) :: ν₁, p ∈ ν) (hne : ∀ p ∈ ν₁, p.1 ≠ t) (hm0 : 0 < sl)
    (h : ∀ v r x y z o' δ, r ∈ plainRows x y z → 0 ≤ x → x < sl → 0 ≤ y → y < sl → 0 ≤ z → z < sl → TankO o' → RowV δ r v → (∀ p ∈ δ, Above p.1 ((t, o) :: ν₁)) → P v m ((t, o') :: (δ ++ ν₁))) :
    EV c m ν (call (.ref 177) [.ref t, .int sl u]) P R := by
  refine ev_sub ?_ hν
  refine ev_post ?_
  refine' ev_callC (n := 103) (Rb := NoX) (binds := [("tank", .ref t), ("slots", .int sl u)]) (m₀ := noLoc) (cs := fun L => [("slots", L + 2), ("tank", L + 1)]) (cm := bnd noLoc [("tank", .ref t), ("slots", .int sl u)]) ?ho ?hcd hr ?hb ?hkd ?hnd ?hm ?hcm ?hcs ?hck ?h (fun _ _ _ _ _ _ x => x.elim)
  case ho => k_is
  case hcd => k_is
  case hb => exact fun s => BindsTo.of_eq rfl
  case hkd => exact rfl
  case hnd => decide
  case hm => exact fun _ => rfl
  case hcm => exact fun _ => rfl
  case hcs => exact fun _ => rfl
  case hck => exact rfl
  case h =>
    intro c' cells hr' _ hY lt
    obtain ⟨os, ot, rfl, hos, hot⟩ := hY.two
    replace hos : os.data = .cell (some (.int sl u)) := by rw [hos]; rfl
    replace hot : ot.data = .cell (some (.ref t)) := by rw [hot]; rfl
    with_reducible refine ev_cons ?_
    ((with_reducible refine' ev_AssignTup ?_ ?qs ?qw); (case qs => with_unfolding_all rfl); (case qw => with_unfolding_all rfl))
    have hct : ∀ p ∈ (c'.L + 2, os) :: (c'.L + 1, ot) :: ν₁, p.1 ≠ t := ne_cons (gtN (Nat.lt_trans (lt _ (.head _)) (by omega))) (ne_cons (gtN (Nat.lt_trans (lt _ (.head _)) (Nat.lt_succ_self _))) hne)
    refine ev_sub (ν' := (t, o) :: (c'.L + 2, os) :: (c'.L + 1, ot) :: ν₁) ?_ (by walk_at "zsub")
    refine' ev_ListComp (cl := [("tank", c'.L + 1), ("slots", c'.L + 2)]) (Rb := NoX) ?_ outCompNoX ?h1 ?h2 ?h3 ?h4 ?h5
    case h1 => with_unfolding_all rfl
    case h2 => decide
    case h3 => rfl
    case h4 => decide
    case h5 => exact fun _ => rfl
    ((with_reducible refine' ev_Call ?_ ?qe); (case qe => with_unfolding_all rfl))
    ((with_reducible refine' ev_bltn ?qez ?qv ?_ ?qn ?qg ?qb ?qk ?qx ?qd); (case qg => with_unfolding_all rfl); (case qb => with_unfolding_all rfl); (case qk => with_unfolding_all rfl); (case qx => with_unfolding_all rfl); (case qd => decide); (case qn => decide); (case qez => k_is); (case qv => first | boot_fast | boot_by_name))
    ((with_reducible refine' ev_cwT_0 ?_ ?qe ?qp); (case qe => with_unfolding_all rfl); (case qp => with_unfolding_all rfl))
    ((with_reducible refine' ev_spl ?_ ?qe); (case qe => with_unfolding_all rfl))
    ((with_reducible refine ev_int ?_); intro _)
    with_reducible refine ev_spl0 ?_
    refine ev_range1 fun r0 t1 t2 hr0 => ?_
    refine ev_iterR (.head _) (by decide) (by decide) fun it oi hit hoi => ?_
    refine ev_compI (yldR (n := 3)) (by simp [sizeLine]) (fun k acc ν₂ => ∃ o' ns, ν₂ = (t, o') :: (c'.L + 2, os) :: (c'.L + 1, ot) :: ν₁ ∧ TankO o' ∧ AllV IntV ns acc ∧ (∀ n ∈ ns, 0 ≤ n ∧ n < sl) ∧ ns.length = k) (ν₀ := (t, o) :: (c'.L + 2, os) :: (c'.L + 1, ot) :: ν₁) ⟨oi, rfl, by simpa using hoi⟩ (fun p hp => ltN' (hit p (.tail _ hp))) trivial ⟨o, [], rfl, ho, .nil, (fun _ h => nomatch h), rfl⟩ (by walk_at "zsub") (fun a ha => ⟨_, .head _, ha.symm⟩) (fun k b hb p hp => by obtain ⟨oi', rfl, _⟩ := hb; cases hp with | head => rfl | tail _ h => cases h) (fun L q h => trivial) ?_ ?_
    · rintro k acc ν₂ v δ2 b3 Ca oC mC D2 oD2 hk hal ⟨o', ns, rfl, ho', hns, hnr, hnl⟩ hne2 hsr2 ⟨⟨tk, rfl⟩, rfl⟩ hδ2 hB2 hNs hoD2 hab2 hDC hbCD hneC
      obtain ⟨oi2, rfl, hoi2⟩ := hB2
      with_reducible refine ev_assignName ?_
      ((with_reducible refine' ev_storeC ?qC (fun _ h => h) ?qn ?_ ?qL ?qk ?qx); (case qL => with_unfolding_all rfl); (case qk => with_unfolding_all rfl); (case qx => with_unfolding_all rfl); (case qC => assumption); (case qn => walk_at "zne"); intro _ _)
      with_reducible refine ev_tests0 ?_
      with_reducible refine ite_T ?_
      ((with_reducible refine' ev_Call ?_ ?qe); (case qe => with_unfolding_all rfl))
      ((with_reducible refine' ev_glob ?qez ?_ ?qg ?qk ?qx ?qd); (case qg => with_unfolding_all rfl); (case qk => with_unfolding_all rfl); (case qx => with_unfolding_all rfl); (case qd => decide); (case qez => k_is))
      ((with_reducible refine' ev_cwF_0 ?qk ?_ ?qe ?qp); (case qe => with_unfolding_all rfl); (case qp => with_unfolding_all rfl); (case qk => k_is))
      ((with_reducible refine' ev_spl ?_ ?qe); (case qe => with_unfolding_all rfl))
      ((with_reducible refine' ev_cell ?qc ?qm ?qo ?_ ?qk ?qx ?qd); (case qk => with_unfolding_all rfl); (case qx => with_unfolding_all rfl); (case qd => decide); (case qc => with_unfolding_all rfl); (case qm => walk_at "zmem"); (case qo => assumption))
      ((with_reducible refine' ev_spl ?_ ?qe); (case qe => with_unfolding_all rfl))
      ((with_reducible refine' ev_cell ?qc ?qm ?qo ?_ ?qk ?qx ?qd); (case qk => with_unfolding_all rfl); (case qx => with_unfolding_all rfl); (case qd => decide); (case qc => with_unfolding_all rfl); (case qm => walk_at "zmem"); (case qo => assumption))
      with_reducible refine ev_spl0 ?_
      rename_i oC2 hN2
      refine c_flowT (ν₁ := (Ca, oC2) :: (D2, oD2) :: (it, oi2) :: (c'.L + 2, os) :: (c'.L + 1, ot) :: ν₁) (by walk_at "zroom") ho' (by walk_at "zsub") (ne_cons (gtN (Nat.lt_trans (hab2 _ (.head _)) hDC)) (ne_cons (gtN (hab2 _ (.head _))) (ne_cons (gtN (hit _ (.tail _ (.head _)))) hct))) hm0 fun r tk2 o2 g0 g1 ho2 => ?_
      refine' comp_done (ν'' := (t, o2) :: (c'.L + 2, os) :: (c'.L + 1, ot) :: ν₁) ?sub hN2 (fun p hp => ?_) trivial ⟨o2, ns ++ [r], rfl, ho2, hns.snoc ⟨_, rfl⟩, fun n hn => ?_, by rw [List.length_append, hnl]; rfl⟩
      case sub => walk_at "zsub"
      · rcases List.mem_cons.mp hp with rfl | hp
        · exact hne2 (t, o') (.head _)
        · exact hne2 p (.tail _ hp)
      · rcases List.mem_append.mp hn with hn | hn
        · exact hnr n hn
        · rw [List.mem_singleton] at hn
          subst hn
          exact ⟨g0, g1⟩
    · rintro D2 oD2 acc ν₂ hal ⟨o', ns, rfl, ho', hns, hnr, hnl⟩ hoD2 hab2 hne2 hsr2
      obtain ⟨a, b, d, rfl⟩ : ∃ a b d, ns = [a, b, d] := by
        match ns, hnl with
        | [a, b, d], _ => exact ⟨a, b, d, rfl⟩
      cases hns with
      | cons x1 hns => cases hns with
        | cons x2 hns => cases hns with
          | cons x3 hns =>
            cases hns
            obtain ⟨w1, rfl⟩ := x1
            obtain ⟨w2, rfl⟩ := x2
            obtain ⟨w3, rfl⟩ := x3
            ((with_reducible refine' ev_assignL3 ?qm ?qo ?_); (case qm => walk_at "zmem"); (case qo => walk_at "zo"))
            ((with_reducible refine' ev_store ?_ ?qL ?qk ?qx); (case qL => with_unfolding_all rfl); (case qk => with_unfolding_all rfl); (case qx => with_unfolding_all rfl))
            ((with_reducible refine' ev_store ?_ ?qL ?qk ?qx); (case qL => with_unfolding_all rfl); (case qk => with_unfolding_all rfl); (case qx => with_unfolding_all rfl))
            ((with_reducible refine' ev_store ?_ ?qL ?qk ?qx); (case qL => with_unfolding_all rfl); (case qk => with_unfolding_all rfl); (case qx => with_unfolding_all rfl))
            with_reducible refine then_next ?_
            with_reducible refine ev_cons ?_
            ((with_reducible refine' ev_Assign ?_ ?qs); (case qs => with_unfolding_all rfl))
            with_reducible refine ev_List ?_
            ((with_reducible refine' ev_spl ?_ ?qe); (case qe => with_unfolding_all rfl))
            with_reducible refine ev_Tuple ?_
            ((with_reducible refine' ev_spl ?_ ?qe); (case qe => with_unfolding_all rfl))
            ((with_reducible refine ev_str ?_); intro _)
            ((with_reducible refine' ev_spl ?_ ?qe); (case qe => with_unfolding_all rfl))
            ((with_reducible refine' ev_local ?qvz ?_ ?qL ?qk ?qx ?qd); (case qL => with_unfolding_all rfl); (case qk => with_unfolding_all rfl); (case qx => with_unfolding_all rfl); (case qd => decide); (case qvz => walk_at "zlk"))
            ((with_reducible refine' ev_spl ?_ ?qe); (case qe => with_unfolding_all rfl))
            with_reducible refine ev_Tuple ?_
            ((with_reducible refine' ev_spl ?_ ?qe); (case qe => with_unfolding_all rfl))
            ((with_reducible refine ev_str ?_); intro _)
            ((with_reducible refine' ev_spl ?_ ?qe); (case qe => with_unfolding_all rfl))
            with_reducible refine ev_bool ?_
            with_reducible refine ev_spl0 ?_
            refine ev_newTuple (fun _ _ => ?_) (by simp [sizeLine])
            with_reducible refine ev_spl0 ?_
            refine ev_newTuple (fun _ _ => ?_) (by simp [sizeLine])
            ((with_reducible refine' ev_spl ?_ ?qe); (case qe => with_unfolding_all rfl))
            with_reducible refine ev_Tuple ?_
            ((with_reducible refine' ev_spl ?_ ?qe); (case qe => with_unfolding_all rfl))
            ((with_reducible refine ev_str ?_); intro _)
            ((with_reducible refine' ev_spl ?_ ?qe); (case qe => with_unfolding_all rfl))
            ((with_reducible refine' ev_local ?qvz ?_ ?qL ?qk ?qx ?qd); (case qL => with_unfolding_all rfl); (case qk => with_unfolding_all rfl); (case qx => with_unfolding_all rfl); (case qd => decide); (case qvz => walk_at "zlk"))
            ((with_reducible refine' ev_spl ?_ ?qe); (case qe => with_unfolding_all rfl))
            ((with_reducible refine' ev_local ?qvz ?_ ?qL ?qk ?qx ?qd); (case qL => with_unfolding_all rfl); (case qk => with_unfolding_all rfl); (case qx => with_unfolding_all rfl); (case qd => decide); (case qvz => walk_at "zlk"))
            with_reducible refine ev_spl0 ?_
            refine ev_newTuple (fun _ _ => ?_) (by simp [sizeLine])
            ((with_reducible refine' ev_spl ?_ ?qe); (case qe => with_unfolding_all rfl))
            with_reducible refine ev_Tuple ?_
            ((with_reducible refine' ev_spl ?_ ?qe); (case qe => with_unfolding_all rfl))
            ((with_reducible refine ev_str ?_); intro _)
            ((with_reducible refine' ev_spl ?_ ?qe); (case qe => with_unfolding_all rfl))
            ((with_reducible refine' ev_local ?qvz ?_ ?qL ?qk ?qx ?qd); (case qL => with_unfolding_all rfl); (case qk => with_unfolding_all rfl); (case qx => with_unfolding_all rfl); (case qd => decide); (case qvz => walk_at "zlk"))
            ((with_reducible refine' ev_spl ?_ ?qe); (case qe => with_unfolding_all rfl))
            ((with_reducible refine' ev_local ?qvz ?_ ?qL ?qk ?qx ?qd); (case qL => with_unfolding_all rfl); (case qk => with_unfolding_all rfl); (case qx => with_unfolding_all rfl); (case qd => decide); (case qvz => walk_at "zlk"))
            ((with_reducible refine' ev_spl ?_ ?qe); (case qe => with_unfolding_all rfl))
            with_reducible refine ev_Tuple ?_
            ((with_reducible refine' ev_spl ?_ ?qe); (case qe => with_unfolding_all rfl))
            ((with_reducible refine' ev_local ?qvz ?_ ?qL ?qk ?qx ?qd); (case qL => with_unfolding_all rfl); (case qk => with_unfolding_all rfl); (case qx => with_unfolding_all rfl); (case qd => decide); (case qvz => walk_at "zlk"))
            ((with_reducible refine' ev_spl ?_ ?qe); (case qe => with_unfolding_all rfl))
            ((with_reducible refine' ev_local ?qvz ?_ ?qL ?qk ?qx ?qd); (case qL => with_unfolding_all rfl); (case qk => with_unfolding_all rfl); (case qx => with_unfolding_all rfl); (case qd => decide); (case qvz => walk_at "zlk"))
            ((with_reducible refine' ev_spl ?_ ?qe); (case qe => with_unfolding_all rfl))
            ((with_reducible refine' ev_local ?qvz ?_ ?qL ?qk ?qx ?qd); (case qL => with_unfolding_all rfl); (case qk => with_unfolding_all rfl); (case qx => with_unfolding_all rfl); (case qd => decide); (case qvz => walk_at "zlk"))
            with_reducible refine ev_spl0 ?_
            refine ev_newTuple (fun _ _ => ?_) (by simp [sizeLine])
            with_reducible refine ev_spl0 ?_
            refine ev_newTuple (fun _ _ => ?_) (by simp [sizeLine])
            ((with_reducible refine' ev_spl ?_ ?qe); (case qe => with_unfolding_all rfl))
            with_reducible refine ev_Tuple ?_
            ((with_reducible refine' ev_spl ?_ ?qe); (case qe => with_unfolding_all rfl))
            ((with_reducible refine ev_str ?_); intro _)
            ((with_reducible refine' ev_spl ?_ ?qe); (case qe => with_unfolding_all rfl))
            ((with_reducible refine' ev_local ?qvz ?_ ?qL ?qk ?qx ?qd); (case qL => with_unfolding_all rfl); (case qk => with_unfolding_all rfl); (case qx => with_unfolding_all rfl); (case qd => decide); (case qvz => walk_at "zlk"))
            with_reducible refine ev_spl0 ?_
            refine ev_newTuple (fun _ _ => ?_) (by simp [sizeLine])
            ((with_reducible refine' ev_spl ?_ ?qe); (case qe => with_unfolding_all rfl))
            with_reducible refine ev_Tuple ?_
            ((with_reducible refine' ev_spl ?_ ?qe); (case qe => with_unfolding_all rfl))
            ((with_reducible refine ev_str ?_); intro _)
            ((with_reducible refine' ev_spl ?_ ?qe); (case qe => with_unfolding_all rfl))
            ((with_reducible refine' ev_local ?qvz ?_ ?qL ?qk ?qx ?qd); (case qL => with_unfolding_all rfl); (case qk => with_unfolding_all rfl); (case qx => with_unfolding_all rfl); (case qd => decide); (case qvz => walk_at "zlk"))
            ((with_reducible refine' ev_spl ?_ ?qe); (case qe => with_unfolding_all rfl))
            ((with_reducible refine' ev_local ?qvz ?_ ?qL ?qk ?qx ?qd); (case qL => with_unfolding_all rfl); (case qk => with_unfolding_all rfl); (case qx => with_unfolding_all rfl); (case qd => decide); (case qvz => walk_at "zlk"))
            with_reducible refine ev_spl0 ?_
            refine ev_newTuple (fun _ _ => ?_) (by simp [sizeLine])
            ((with_reducible refine' ev_spl ?_ ?qe); (case qe => with_unfolding_all rfl))
            with_reducible refine ev_Tuple ?_
            ((with_reducible refine' ev_spl ?_ ?qe); (case qe => with_unfolding_all rfl))
            ((with_reducible refine ev_str ?_); intro _)
            ((with_reducible refine' ev_spl ?_ ?qe); (case qe => with_unfolding_all rfl))
            ((with_reducible refine' ev_local ?qvz ?_ ?qL ?qk ?qx ?qd); (case qL => with_unfolding_all rfl); (case qk => with_unfolding_all rfl); (case qx => with_unfolding_all rfl); (case qd => decide); (case qvz => walk_at "zlk"))
            ((with_reducible refine' ev_spl ?_ ?qe); (case qe => with_unfolding_all rfl))
            ((with_reducible refine' ev_local ?qvz ?_ ?qL ?qk ?qx ?qd); (case qL => with_unfolding_all rfl); (case qk => with_unfolding_all rfl); (case qx => with_unfolding_all rfl); (case qd => decide); (case qvz => walk_at "zlk"))
            ((with_reducible refine' ev_spl ?_ ?qe); (case qe => with_unfolding_all rfl))
            ((with_reducible refine ev_str ?_); intro _)
            with_reducible refine ev_spl0 ?_
            refine ev_newTuple (fun _ _ => ?_) (by simp [sizeLine])
            with_reducible refine ev_spl0 ?_
            refine ev_newList (fun l6 hl6 => ?_) (by simp [sizeLine])
            ((with_reducible refine' ev_store ?_ ?qL ?qk ?qx); (case qL => with_unfolding_all rfl); (case qk => with_unfolding_all rfl); (case qx => with_unfolding_all rfl))
            with_reducible refine then_next ?_
            with_reducible refine ev_cons ?_
            ((with_reducible refine' ev_Assign ?_ ?qs); (case qs => with_unfolding_all rfl))
            with_reducible refine ev_BinOp ?_
            ((with_reducible refine' ev_local ?qvz ?_ ?qL ?qk ?qx ?qd); (case qL => with_unfolding_all rfl); (case qk => with_unfolding_all rfl); (case qx => with_unfolding_all rfl); (case qd => decide); (case qvz => walk_at "zlk"))
            with_reducible refine ev_List ?_
            ((with_reducible refine' ev_spl ?_ ?qe); (case qe => with_unfolding_all rfl))
            with_reducible refine ev_Tuple ?_
            ((with_reducible refine' ev_spl ?_ ?qe); (case qe => with_unfolding_all rfl))
            ((with_reducible refine ev_str ?_); intro _)
            ((with_reducible refine' ev_spl ?_ ?qe); (case qe => with_unfolding_all rfl))
            ((with_reducible refine' ev_local ?qvz ?_ ?qL ?qk ?qx ?qd); (case qL => with_unfolding_all rfl); (case qk => with_unfolding_all rfl); (case qx => with_unfolding_all rfl); (case qd => decide); (case qvz => walk_at "zlk"))
            with_reducible refine ev_spl0 ?_
            refine ev_newTuple (fun _ _ => ?_) (by simp [sizeLine])
            ((with_reducible refine' ev_spl ?_ ?qe); (case qe => with_unfolding_all rfl))
            with_reducible refine ev_Tuple ?_
            ((with_reducible refine' ev_spl ?_ ?qe); (case qe => with_unfolding_all rfl))
            ((with_reducible refine ev_str ?_); intro _)
            ((with_reducible refine' ev_spl ?_ ?qe); (case qe => with_unfolding_all rfl))
            ((with_reducible refine' ev_local ?qvz ?_ ?qL ?qk ?qx ?qd); (case qL => with_unfolding_all rfl); (case qk => with_unfolding_all rfl); (case qx => with_unfolding_all rfl); (case qd => decide); (case qvz => walk_at "zlk"))
            ((with_reducible refine' ev_spl ?_ ?qe); (case qe => with_unfolding_all rfl))
            ((with_reducible refine ev_int ?_); intro _)
            with_reducible refine ev_spl0 ?_
            refine ev_newTuple (fun _ _ => ?_) (by simp [sizeLine])
            ((with_reducible refine' ev_spl ?_ ?qe); (case qe => with_unfolding_all rfl))
            with_reducible refine ev_Tuple ?_
            ((with_reducible refine' ev_spl ?_ ?qe); (case qe => with_unfolding_all rfl))
            ((with_reducible refine ev_str ?_); intro _)
            ((with_reducible refine' ev_spl ?_ ?qe); (case qe => with_unfolding_all rfl))
            ((with_reducible refine' ev_local ?qvz ?_ ?qL ?qk ?qx ?qd); (case qL => with_unfolding_all rfl); (case qk => with_unfolding_all rfl); (case qx => with_unfolding_all rfl); (case qd => decide); (case qvz => walk_at "zlk"))
            ((with_reducible refine' ev_spl ?_ ?qe); (case qe => with_unfolding_all rfl))
            ((with_reducible refine ev_str ?_); intro _)
            with_reducible refine ev_spl0 ?_
            refine ev_newTuple (fun _ _ => ?_) (by simp [sizeLine])
            ((with_reducible refine' ev_spl ?_ ?qe); (case qe => with_unfolding_all rfl))
            with_reducible refine ev_Tuple ?_
            ((with_reducible refine' ev_spl ?_ ?qe); (case qe => with_unfolding_all rfl))
            ((with_reducible refine ev_str ?_); intro _)
            ((with_reducible refine' ev_spl ?_ ?qe); (case qe => with_unfolding_all rfl))
            ((with_reducible refine' ev_local ?qvz ?_ ?qL ?qk ?qx ?qd); (case qL => with_unfolding_all rfl); (case qk => with_unfolding_all rfl); (case qx => with_unfolding_all rfl); (case qd => decide); (case qvz => walk_at "zlk"))
            ((with_reducible refine' ev_spl ?_ ?qe); (case qe => with_unfolding_all rfl))
            ((with_reducible refine' ev_local ?qvz ?_ ?qL ?qk ?qx ?qd); (case qL => with_unfolding_all rfl); (case qk => with_unfolding_all rfl); (case qx => with_unfolding_all rfl); (case qd => decide); (case qvz => walk_at "zlk"))
            ((with_reducible refine' ev_spl ?_ ?qe); (case qe => with_unfolding_all rfl))
            with_reducible refine ev_Tuple ?_
            ((with_reducible refine' ev_spl ?_ ?qe); (case qe => with_unfolding_all rfl))
            ((with_reducible refine' ev_local ?qvz ?_ ?qL ?qk ?qx ?qd); (case qL => with_unfolding_all rfl); (case qk => with_unfolding_all rfl); (case qx => with_unfolding_all rfl); (case qd => decide); (case qvz => walk_at "zlk"))
            with_reducible refine ev_spl0 ?_
            refine ev_newTuple (fun _ _ => ?_) (by simp [sizeLine])
            ((with_reducible refine' ev_spl ?_ ?qe); (case qe => with_unfolding_all rfl))
            with_reducible refine ev_Tuple ?_
            ((with_reducible refine' ev_spl ?_ ?qe); (case qe => with_unfolding_all rfl))
            with_reducible refine ev_bool ?_
            with_reducible refine ev_spl0 ?_
            refine ev_newTuple (fun _ _ => ?_) (by simp [sizeLine])
            with_reducible refine ev_spl0 ?_
            refine ev_newTuple (fun _ _ => ?_) (by simp [sizeLine])
            ((with_reducible refine' ev_spl ?_ ?qe); (case qe => with_unfolding_all rfl))
            with_reducible refine ev_Tuple ?_
            ((with_reducible refine' ev_spl ?_ ?qe); (case qe => with_unfolding_all rfl))
            ((with_reducible refine ev_str ?_); intro _)
            ((with_reducible refine' ev_spl ?_ ?qe); (case qe => with_unfolding_all rfl))
            ((with_reducible refine' ev_local ?qvz ?_ ?qL ?qk ?qx ?qd); (case qL => with_unfolding_all rfl); (case qk => with_unfolding_all rfl); (case qx => with_unfolding_all rfl); (case qd => decide); (case qvz => walk_at "zlk"))
            ((with_reducible refine' ev_spl ?_ ?qe); (case qe => with_unfolding_all rfl))
            ((with_reducible refine ev_str ?_); intro _)
            with_reducible refine ev_spl0 ?_
            refine ev_newTuple (fun _ _ => ?_) (by simp [sizeLine])
            with_reducible refine ev_spl0 ?_
            refine ev_newList (fun l5 hl5 => ?_) (by simp [sizeLine])
            refine ev_addL (by walk_at "zmem") lstO_mk (.head _) lstO_mk (by simp [sizeLine]) fun l11 o11 hl11 ho11 => ?_
            ((with_reducible refine' ev_store ?_ ?qL ?qk ?qx); (case qL => with_unfolding_all rfl); (case qk => with_unfolding_all rfl); (case qx => with_unfolding_all rfl))
            with_reducible refine then_next ?_
            with_reducible refine ev_cons ?_
            with_reducible refine ev_Return ?_
            with_reducible refine ev_Sub ?_
            with_reducible refine ev_BinOp ?_
            ((with_reducible refine' ev_local ?qvz ?_ ?qL ?qk ?qx ?qd); (case qL => with_unfolding_all rfl); (case qk => with_unfolding_all rfl); (case qx => with_unfolding_all rfl); (case qd => decide); (case qvz => walk_at "zlk"))
            with_reducible refine ev_List ?_
            ((with_reducible refine' ev_spl ?_ ?qe); (case qe => with_unfolding_all rfl))
            with_reducible refine ev_Tuple ?_
            ((with_reducible refine' ev_spl ?_ ?qe); (case qe => with_unfolding_all rfl))
            ((with_reducible refine ev_str ?_); intro _)
            ((with_reducible refine' ev_spl ?_ ?qe); (case qe => with_unfolding_all rfl))
            ((with_reducible refine' ev_local ?qvz ?_ ?qL ?qk ?qx ?qd); (case qL => with_unfolding_all rfl); (case qk => with_unfolding_all rfl); (case qx => with_unfolding_all rfl); (case qd => decide); (case qvz => walk_at "zlk"))
            ((with_reducible refine' ev_spl ?_ ?qe); (case qe => with_unfolding_all rfl))
            ((with_reducible refine' ev_local ?qvz ?_ ?qL ?qk ?qx ?qd); (case qL => with_unfolding_all rfl); (case qk => with_unfolding_all rfl); (case qx => with_unfolding_all rfl); (case qd => decide); (case qvz => walk_at "zlk"))
            ((with_reducible refine' ev_spl ?_ ?qe); (case qe => with_unfolding_all rfl))
            with_reducible refine ev_Tuple ?_
            ((with_reducible refine' ev_spl ?_ ?qe); (case qe => with_unfolding_all rfl))
            ((with_reducible refine ev_str ?_); intro _)
            with_reducible refine ev_spl0 ?_
            refine ev_newTuple (fun _ _ => ?_) (by simp [sizeLine])
            ((with_reducible refine' ev_spl ?_ ?qe); (case qe => with_unfolding_all rfl))
            with_reducible refine ev_Tuple ?_
            ((with_reducible refine' ev_spl ?_ ?qe); (case qe => with_unfolding_all rfl))
            ((with_reducible refine' ev_local ?qvz ?_ ?qL ?qk ?qx ?qd); (case qL => with_unfolding_all rfl); (case qk => with_unfolding_all rfl); (case qx => with_unfolding_all rfl); (case qd => decide); (case qvz => walk_at "zlk"))
            with_reducible refine ev_spl0 ?_
            refine ev_newTuple (fun _ _ => ?_) (by simp [sizeLine])
            ((with_reducible refine' ev_spl ?_ ?qe); (case qe => with_unfolding_all rfl))
            with_reducible refine ev_Tuple ?_
            ((with_reducible refine' ev_spl ?_ ?qe); (case qe => with_unfolding_all rfl))
            ((with_reducible refine' ev_local ?qvz ?_ ?qL ?qk ?qx ?qd); (case qL => with_unfolding_all rfl); (case qk => with_unfolding_all rfl); (case qx => with_unfolding_all rfl); (case qd => decide); (case qvz => walk_at "zlk"))
            with_reducible refine ev_spl0 ?_
            refine ev_newTuple (fun _ _ => ?_) (by simp [sizeLine])
            with_reducible refine ev_spl0 ?_
            refine ev_newTuple (fun _ _ => ?_) (by simp [sizeLine])
            ((with_reducible refine' ev_spl ?_ ?qe); (case qe => with_unfolding_all rfl))
            with_reducible refine ev_Tuple ?_
            ((with_reducible refine' ev_spl ?_ ?qe); (case qe => with_unfolding_all rfl))
            ((with_reducible refine ev_str ?_); intro _)
            ((with_reducible refine' ev_spl ?_ ?qe); (case qe => with_unfolding_all rfl))
            ((with_reducible refine' ev_local ?qvz ?_ ?qL ?qk ?qx ?qd); (case qL => with_unfolding_all rfl); (case qk => with_unfolding_all rfl); (case qx => with_unfolding_all rfl); (case qd => decide); (case qvz => walk_at "zlk"))
            ((with_reducible refine' ev_spl ?_ ?qe); (case qe => with_unfolding_all rfl))
            ((with_reducible refine ev_int ?_); intro _)
            ((with_reducible refine' ev_spl ?_ ?qe); (case qe => with_unfolding_all rfl))
            with_reducible refine ev_Tuple ?_
            ((with_reducible refine' ev_spl ?_ ?qe); (case qe => with_unfolding_all rfl))
            ((with_reducible refine' ev_local ?qvz ?_ ?qL ?qk ?qx ?qd); (case qL => with_unfolding_all rfl); (case qk => with_unfolding_all rfl); (case qx => with_unfolding_all rfl); (case qd => decide); (case qvz => walk_at "zlk"))
            ((with_reducible refine' ev_spl ?_ ?qe); (case qe => with_unfolding_all rfl))
            ((with_reducible refine' ev_local ?qvz ?_ ?qL ?qk ?qx ?qd); (case qL => with_unfolding_all rfl); (case qk => with_unfolding_all rfl); (case qx => with_unfolding_all rfl); (case qd => decide); (case qvz => walk_at "zlk"))
            with_reducible refine ev_spl0 ?_
            refine ev_newTuple (fun _ _ => ?_) (by simp [sizeLine])
            with_reducible refine ev_spl0 ?_
            refine ev_newTuple (fun _ _ => ?_) (by simp [sizeLine])
            ((with_reducible refine' ev_spl ?_ ?qe); (case qe => with_unfolding_all rfl))
            with_reducible refine ev_Tuple ?_
            ((with_reducible refine' ev_spl ?_ ?qe); (case qe => with_unfolding_all rfl))
            ((with_reducible refine ev_str ?_); intro _)
            ((with_reducible refine' ev_spl ?_ ?qe); (case qe => with_unfolding_all rfl))
            ((with_reducible refine' ev_local ?qvz ?_ ?qL ?qk ?qx ?qd); (case qL => with_unfolding_all rfl); (case qk => with_unfolding_all rfl); (case qx => with_unfolding_all rfl); (case qd => decide); (case qvz => walk_at "zlk"))
            ((with_reducible refine' ev_spl ?_ ?qe); (case qe => with_unfolding_all rfl))
            ((with_reducible refine ev_str ?_); intro _)
            ((with_reducible refine' ev_spl ?_ ?qe); (case qe => with_unfolding_all rfl))
            with_reducible refine ev_Tuple ?_
            ((with_reducible refine' ev_spl ?_ ?qe); (case qe => with_unfolding_all rfl))
            ((with_reducible refine' ev_local ?qvz ?_ ?qL ?qk ?qx ?qd); (case qL => with_unfolding_all rfl); (case qk => with_unfolding_all rfl); (case qx => with_unfolding_all rfl); (case qd => decide); (case qvz => walk_at "zlk"))
            ((with_reducible refine' ev_spl ?_ ?qe); (case qe => with_unfolding_all rfl))
            ((with_reducible refine' ev_local ?qvz ?_ ?qL ?qk ?qx ?qd); (case qL => with_unfolding_all rfl); (case qk => with_unfolding_all rfl); (case qx => with_unfolding_all rfl); (case qd => decide); (case qvz => walk_at "zlk"))
            with_reducible refine ev_spl0 ?_
            refine ev_newTuple (fun _ _ => ?_) (by simp [sizeLine])
            with_reducible refine ev_spl0 ?_
            refine ev_newTuple (fun _ _ => ?_) (by simp [sizeLine])
            with_reducible refine ev_spl0 ?_
            refine ev_newList (fun l3 hl3 => ?_) (by simp [sizeLine])
            refine ev_addL (by walk_at "zmem") ho11 (.head _) lstO_mk (by simp [sizeLine]) fun l14 o14 hl14 ho14 => ?_
            ((with_reducible refine' ev_Call ?_ ?qe); (case qe => with_unfolding_all rfl))
            ((with_reducible refine' ev_glob ?qez ?_ ?qg ?qk ?qx ?qd); (case qg => with_unfolding_all rfl); (case qk => with_unfolding_all rfl); (case qx => with_unfolding_all rfl); (case qd => decide); (case qez => k_is))
            ((with_reducible refine' ev_cwF_0 ?qk ?_ ?qe ?qp); (case qe => with_unfolding_all rfl); (case qp => with_unfolding_all rfl); (case qk => k_is))
            ((with_reducible refine' ev_spl ?_ ?qe); (case qe => with_unfolding_all rfl))
            ((with_reducible refine' ev_cell ?qc ?qm ?qo ?_ ?qk ?qx ?qd); (case qk => with_unfolding_all rfl); (case qx => with_unfolding_all rfl); (case qd => decide); (case qc => with_unfolding_all rfl); (case qm => walk_at "zmem"); (case qo => assumption))
            ((with_reducible refine' ev_spl ?_ ?qe); (case qe => with_unfolding_all rfl))
            ((with_reducible refine ev_int ?_); intro _)
            with_reducible refine ev_spl0 ?_
            refine plain_pick (B := (t, o') :: ν₁) (rows := plainRows a b d) (by walk_at "zroom") ho' (by walk_at "zmem") (.head _) ho14 (hl14 (t, o') (by walk_at "zmem")) (fun p hp hn => ?_) (.head _) rfl (by simp [plainRows]) ?_ fun ix tk o2 ν' δ v r g0 g1 ho2 hmt hm14 hsub hδ hsubB hix hrr hrv => ?_
            · exact (show ∀ p ∈ (t, o') :: ν₁, p ∈ _ by walk_at "zsub") p hp
            · exact .cons (by walk_at "zrow") (.cons (by walk_at "zrow") (.cons (by walk_at "zrow") (.cons (by walk_at "zrow") (.cons (by walk_at "zrow") (.cons (by walk_at "zrow") (.cons (by walk_at "zrow") (.cons (by walk_at "zrow") (.cons (by walk_at "zrow") (.cons (by walk_at "zrow") (.cons (by walk_at "zrow") (.cons (by walk_at "zrow") (.cons (by walk_at "zrow") (.cons (by walk_at "zrow") .nil)))))))))))))
            refine ev_itemL hm14 ho14 g0 (Int.lt_trans g1 (by decide)) hix ?_ (by with_unfolding_all rfl)
            with_reducible refine then_ret ?_
            refine ⟨(t, o2) :: (δ ++ ν₁), sub_cons hmt (sub_app hsub fun p hp => hsubB p (.tail _ hp) (hne p hp)), h v r a b d o2 δ hrr (hnr a (.head _)).1 (hnr a (.head _)).2 (hnr b (.tail _ (.head _))).1 (hnr b (.tail _ (.head _))).2 (hnr d (.tail _ (.tail _ (.head _)))).1 (hnr d (.tail _ (.tail _ (.head _)))).2 ho2 hrv fun p hp q hq => ?_⟩
            rcases List.mem_cons.mp hq with rfl | hq
            · exact hδ p hp (t, o') (.head _)
            · exact hδ p hp q (.tail _ hq)

/-- a row that law 02 draws -/
def Plain (sl : Int) (r : Row) : Prop := ∃ x y z, r ∈ plainRows x y z ∧ (0 ≤ x ∧ x < sl) ∧ (0 ≤ y ∧ y < sl) ∧ (0 ≤ z ∧ z < sl)
def rUnless (u g : Int) : Row := ⟨"unless", [.s u, .g g]⟩
def rEnter (g : Int) : Row := ⟨"enter", [.g g]⟩
def rLeave : Row := ⟨"leave", [.x (.one (.int 1))]⟩
def rGoto (g : Int) : Row := ⟨"goto", [.g g]⟩
def rCaught (d : Int) : Row := ⟨"caught", [.d d]⟩
def rReturn (s : Int) : Row := ⟨"return", [.s s]⟩
def rows1 (some over : List Row) (u : Int) : List Row := some ++ [rUnless u ((some.length : Int) + 1 + over.length)] ++ over
def rows2 (r1 : List Row) (h : Option (Row × Int)) : List Row := match h with
  | none => r1
  | some (i, ca) => r1 ++ [rEnter ((r1.length : Int) + 4)] ++ [i] ++ [rLeave, rGoto ((r1.length : Int) + 5), rCaught ca]
def rows3 (r2 : List Row) (e : Option Int) : List Row := match e with
  | none => r2 ++ [rGoto 0]
  | some r => r2 ++ [rGoto ((r2.length : Int) + 1), rReturn r]
structure Hand (sl : Int) (h : Option (Row × Int)) : Prop where
  row : ∀ i ca, h = some (i, ca) → Plain sl i
  reg : ∀ i ca, h = some (i, ca) → 0 ≤ ca ∧ ca < sl
/-- what law 02 builds -/
structure Built (sl : Int) (rs : List Row) : Prop where
  is : ∃ so ov u h e, rs = rows3 (rows2 (rows1 so ov u) h) e ∧ so.length ≤ 2 ∧ ov.length ≤ 1 ∧ (∀ r ∈ so, Plain sl r) ∧ (∀ r ∈ ov, Plain sl r) ∧ (0 ≤ u ∧ u < sl) ∧ Hand sl h ∧ ∀ r, e = some r → 0 ≤ r ∧ r < sl
theorem gtN' {a b : Addr} (h : @LT.lt Nat _ a b) : b ≠ a := Nat.ne_of_gt h
theorem rows_cast {ν : Led} {rs rs' : List Row} {vs vs' : List Value} (h : rs = rs') (h' : vs = vs') (x : RowsV ν rs vs) : RowsV ν rs' vs' := h ▸ h' ▸ x
/-- what stands behind the handler of _law_rows -/
def MidRows (sl : Int) (t : Addr) (o : Obj) (base : Led) (r1 : List Row) (f : Flow) (m : Loc) (ν : Led) : Prop :=
  f = .next ∧ ∃ rl orl o' δ rs vs, m "rows" = some (.ref rl) ∧ (∀ p ∈ (t, o') :: (rl, orl) :: (δ ++ base), p ∈ ν) ∧ TankO o' ∧ LstO orl vs ∧ RowsV δ rs vs ∧ rl ≠ t ∧ (∀ p ∈ δ, Above p.1 ((t, o) :: base)) ∧ ∃ hh, Hand sl hh ∧ rs = rows2 r1 hh
theorem above_swap {a t : Addr} {o o' : Obj} {B : Led} (h : Above a ((t, o) :: B)) : Above a ((t, o') :: B) := fun q hq => by
  rcases List.mem_cons.mp hq with rfl | hq
  · exact h (t, o) (.head _)
  · exact h q (.tail _ hq)
theorem mem_of_new {B ν : Led} {p : Addr × Obj} (h : p ∈ ν) (ha : Above p.1 B) : p ∈ newOf B ν := List.mem_filter.mpr ⟨h, decide_eq_true ha⟩
theorem ev_collapse {α : Type} {c : Cx} {m : Loc} {ν : Led} {R : RX} {t' : Sem α} {P : α → Loc → Led → Prop} {B base : Led} {t l : Addr} {o ol : Obj} {rs : List Row} {vs : List Value} (h1 : ∀ p ∈ (t, o) :: (l, ol) :: base, p ∈ ν) (hr : RowsV (newOf B ν) rs vs)
    (h : ∀ δ, (∀ p ∈ δ, Above p.1 B) → RowsV δ rs vs → EV c m ((t, o) :: (l, ol) :: (δ ++ base)) t' P R) : EV c m ν t' P R :=
  ev_sub (h (newOf B ν) (fun p hp => (new_mem hp).2) hr) (sub_cons (h1 _ (.head _)) (sub_cons (h1 _ (.tail _ (.head _))) (sub_app (fun p hp => (new_mem hp).1) fun p hp => h1 p (.tail _ (.tail _ hp)))))
local macro_rules | `(tactic| walk_at "znew") => `(tactic| ((refine' mem_new ?hm ?ha ?hs); (case hm => walk_at "zmem"); (case ha => assumption); (case hs => walk_at "zsub")))
local macro_rules | `(tactic| walk_at "zats") => `(tactic| first | exact AllV.nil | ((refine' AllV.cons ?p ?_); (case p => first | exact av_i | exact av_s | exact av_b); walk_at "zats"))
local macro_rules | `(tactic| walk_at "zpart") => `(tactic| first | exact pv_d | exact pv_s | exact pv_g | exact pv_xi | exact pv_xs | ((first | refine' pv_m ?hm tupO_mk ?h | refine' pv_xt ?hm tupO_mk ?h); (case hm => walk_at "znew"); (case h => walk_at "zats")))
local macro_rules | `(tactic| walk_at "zparts") => `(tactic| first | exact AllV.nil | ((refine' AllV.cons ?p ?_); (case p => walk_at "zpart"); walk_at "zparts"))
local macro_rules | `(tactic| walk_at "zrow") => `(tactic| ((refine' row_mk ?hm tupO_mk ?h); (case hm => walk_at "znew"); (case h => walk_at "zparts")))
theorem c_law_rows {c : Cx} {m : Loc} {ν ν₁ : Led} {P : Value → Loc → Led → Prop} {R : RX} {t : Addr} {o : Obj} {sl : Int} {u : Tok} (hr : Room c 106) (ho : TankO o) (hν : ∀ p ∈ (t, o) :: ν₁, p ∈ ν) (hne : ∀ p ∈ ν₁, p.1 ≠ t) (hm0 : 0 < sl)
    (h : ∀ l ol vs rs o' δ, TankO o' → LstO ol vs → RowsV δ rs vs → Built sl rs → (∀ p ∈ δ, Above p.1 ((t, o) :: ν₁)) → (∀ p ∈ (t, o) :: (δ ++ ν₁), p.1 ≠ l) → P (.ref l) m ((l, ol) :: (t, o') :: (δ ++ ν₁))) :
    EV c m ν (call (.ref 182) [.ref t, .int sl u]) P R := by
  refine ev_sub ?_ hν
  refine ev_post ?_
  refine' ev_callC (n := 105) (Rb := NoX) (binds := [("tank", .ref t), ("slots", .int sl u)]) (m₀ := noLoc) (cs := fun L => [("slots", L + 2), ("tank", L + 1)]) (cm := bnd noLoc [("tank", .ref t), ("slots", .int sl u)]) ?ho ?hcd hr ?hb ?hkd ?hnd ?hm ?hcm ?hcs ?hck ?h (fun _ _ _ _ _ _ x => x.elim)
  case ho => k_is
  case hcd => k_is
  case hb => exact fun s => BindsTo.of_eq rfl
  case hkd => exact rfl
  case hnd => decide
  case hm => exact fun _ => rfl
  case hcm => exact fun _ => rfl
  case hcs => exact fun _ => rfl
  case hck => exact rfl
  case h =>
    intro c' cells hr' _ hY lt
    obtain ⟨os, ot, rfl, hos, hot⟩ := hY.two
    replace hos : os.data = .cell (some (.int sl u)) := by rw [hos]; rfl
    replace hot : ot.data = .cell (some (.ref t)) := by rw [hot]; rfl
    with_reducible refine ev_cons ?_
    have hct : ∀ p ∈ (c'.L + 2, os) :: (c'.L + 1, ot) :: ν₁, p.1 ≠ t := ne_cons (gtN (Nat.lt_trans (lt _ (.head _)) (by omega))) (ne_cons (gtN (Nat.lt_trans (lt _ (.head _)) (Nat.lt_succ_self _))) hne)
    refine ev_sub (ν' := (t, o) :: (c'.L + 2, os) :: (c'.L + 1, ot) :: ν₁) ?_ (by walk_at "zsub")
    refine' ev_AssignComp (cl := [("tank", c'.L + 1), ("slots", c'.L + 2)]) (Rb := NoX) ?_ outCompNoX ?h0 ?h1 ?h2 ?h3 ?h4 ?h5 ?h6 ?h7 ?h8
    case h0 => with_unfolding_all rfl
    case h1 => with_unfolding_all rfl
    case h2 => decide
    case h3 => rfl
    case h4 => decide
    case h5 => exact fun _ => rfl
    case h6 => rfl
    case h7 => rfl
    case h8 => with_unfolding_all rfl
    ((with_reducible refine' ev_Call ?_ ?qe); (case qe => with_unfolding_all rfl))
    ((with_reducible refine' ev_bltn ?qez ?qv ?_ ?qn ?qg ?qb ?qk ?qx ?qd); (case qg => with_unfolding_all rfl); (case qb => with_unfolding_all rfl); (case qk => with_unfolding_all rfl); (case qx => with_unfolding_all rfl); (case qd => decide); (case qn => decide); (case qez => k_is); (case qv => first | boot_fast | boot_by_name))
    ((with_reducible refine' ev_cwT_0 ?_ ?qe ?qp); (case qe => with_unfolding_all rfl); (case qp => with_unfolding_all rfl))
    ((with_reducible refine' ev_spl ?_ ?qe); (case qe => with_unfolding_all rfl))
    ((with_reducible refine' ev_Call ?_ ?qe); (case qe => with_unfolding_all rfl))
    ((with_reducible refine' ev_glob ?qez ?_ ?qg ?qk ?qx ?qd); (case qg => with_unfolding_all rfl); (case qk => with_unfolding_all rfl); (case qx => with_unfolding_all rfl); (case qd => decide); (case qez => k_is))
    ((with_reducible refine' ev_cwF_0 ?qk ?_ ?qe ?qp); (case qe => with_unfolding_all rfl); (case qp => with_unfolding_all rfl); (case qk => k_is))
    ((with_reducible refine' ev_spl ?_ ?qe); (case qe => with_unfolding_all rfl))
    ((with_reducible refine' ev_cell ?qc ?qm ?qo ?_ ?qk ?qx ?qd); (case qk => with_unfolding_all rfl); (case qx => with_unfolding_all rfl); (case qd => decide); (case qc => with_unfolding_all rfl); (case qm => walk_at "zmem"); (case qo => assumption))
    ((with_reducible refine' ev_spl ?_ ?qe); (case qe => with_unfolding_all rfl))
    ((with_reducible refine ev_int ?_); intro _)
    with_reducible refine ev_spl0 ?_
    refine c_flowT (ν₁ := (c'.L + 2, os) :: (c'.L + 1, ot) :: ν₁) (by walk_at "zroom") ho (by walk_at "zsub") hct (by decide) fun n1 k1 o1 g0 gn1 ho1 => ?_
    obtain ⟨n1, rfl⟩ := Int.eq_ofNat_of_zero_le g0
    with_reducible refine ev_spl0 ?_
    refine ev_range1 fun r0 t1 t2 hr0 => ?_
    refine ev_iterR (.head _) (Int.natCast_nonneg _) (by omega) fun it oi hit hoi => ?_
    refine ev_compI (yldR (n := n1)) (by have : n1 < 3 := (by omega); unfold sizeLine; omega) (fun k acc ν₂ => ∃ o' rs δ, ν₂ = (t, o') :: (δ ++ ((c'.L + 2, os) :: (c'.L + 1, ot) :: ν₁)) ∧ TankO o' ∧ RowsV δ rs acc ∧ (∀ r ∈ rs, Plain sl r) ∧ rs.length = k ∧ ∀ p ∈ δ, Above p.1 ((t, o) :: ((c'.L + 2, os) :: (c'.L + 1, ot) :: ν₁))) (ν₀ := (t, o1) :: ((c'.L + 2, os) :: (c'.L + 1, ot) :: ν₁)) ⟨oi, rfl, by simpa using hoi⟩ (fun p hp => ltN' (hit p (.tail _ hp))) trivial ⟨o1, [], [], rfl, ho1, .nil, (fun _ h => nomatch h), rfl, (fun _ h => nomatch h)⟩ (by walk_at "zsub") (fun a ha => ⟨_, .head _, ha.symm⟩) (fun k b hb p hp => by obtain ⟨oi', rfl, _⟩ := hb; cases hp with | head => rfl | tail _ h => cases h) (fun L q h => trivial) ?_ ?_
    · rintro k acc ν₂ v δ2 b3 Ca oC mC D2 oD2 hk hal ⟨o', rs, δ, rfl, ho', hrs, hpl, hrl, hδ⟩ hne2 hsr2 ⟨⟨tk, rfl⟩, rfl⟩ hδ2 hB2 hNs hoD2 hab2 hDC hbCD hneC
      obtain ⟨oi2, rfl, hoi2⟩ := hB2
      with_reducible refine ev_assignName ?_
      ((with_reducible refine' ev_storeC ?qC (fun _ h => h) ?qn ?_ ?qL ?qk ?qx); (case qL => with_unfolding_all rfl); (case qk => with_unfolding_all rfl); (case qx => with_unfolding_all rfl); (case qC => assumption); (case qn => walk_at "zne"); intro _ _)
      with_reducible refine ev_tests0 ?_
      with_reducible refine ite_T ?_
      ((with_reducible refine' ev_Call ?_ ?qe); (case qe => with_unfolding_all rfl))
      ((with_reducible refine' ev_glob ?qez ?_ ?qg ?qk ?qx ?qd); (case qg => with_unfolding_all rfl); (case qk => with_unfolding_all rfl); (case qx => with_unfolding_all rfl); (case qd => decide); (case qez => k_is))
      ((with_reducible refine' ev_cwF_0 ?qk ?_ ?qe ?qp); (case qe => with_unfolding_all rfl); (case qp => with_unfolding_all rfl); (case qk => k_is))
      ((with_reducible refine' ev_spl ?_ ?qe); (case qe => with_unfolding_all rfl))
      ((with_reducible refine' ev_cell ?qc ?qm ?qo ?_ ?qk ?qx ?qd); (case qk => with_unfolding_all rfl); (case qx => with_unfolding_all rfl); (case qd => decide); (case qc => with_unfolding_all rfl); (case qm => walk_at "zmem"); (case qo => assumption))
      ((with_reducible refine' ev_spl ?_ ?qe); (case qe => with_unfolding_all rfl))
      ((with_reducible refine' ev_cell ?qc ?qm ?qo ?_ ?qk ?qx ?qd); (case qk => with_unfolding_all rfl); (case qx => with_unfolding_all rfl); (case qd => decide); (case qc => with_unfolding_all rfl); (case qm => walk_at "zmem"); (case qo => assumption))
      with_reducible refine ev_spl0 ?_
      rename_i oC2 hN2
      have hδt : ∀ p ∈ δ, p.1 ≠ t := fun p hp => gtN (hδ p hp (t, o) (.head _))
      refine c_plain_row (ν₁ := (Ca, oC2) :: (D2, oD2) :: (it, oi2) :: (δ ++ ((c'.L + 2, os) :: (c'.L + 1, ot) :: ν₁))) (by walk_at "zroom") ho' (by walk_at "zsub") (ne_cons (gtN (Nat.lt_trans (hab2 _ (.head _)) hDC)) (ne_cons (gtN (hab2 _ (.head _))) (ne_cons (gtN (hit _ (.tail _ (.head _)))) (ne_app hδt hct)))) hm0 fun v r x y z o2 δ' hr1 x1 x2 y1 y2 z1 z2 ho2 hrv hδ' => ?_
      refine' comp_done (ν'' := (t, o2) :: ((δ' ++ δ) ++ ((c'.L + 2, os) :: (c'.L + 1, ot) :: ν₁))) ?sub hN2 (fun p hp => ?_) trivial ⟨o2, rs ++ [r], δ' ++ δ, rfl, ho2, (hrs.mono fun _ _ y => y.mono (KeepT.of fun p hp => List.mem_append_right _ hp)).snoc (hrv.mono (KeepT.of fun p hp => List.mem_append_left _ hp)), fun r' hr' => ?_, by rw [List.length_append, hrl]; rfl, fun p hp q hq => ?_⟩
      case sub => walk_at "zsub"
      · rcases List.mem_cons.mp hp with rfl | hp
        · exact hne2 (t, o') (.head _)
        · rcases List.mem_append.mp hp with hp | hp
          · rcases List.mem_append.mp hp with hp | hp
            · exact ⟨gtN' (hδ' p hp (it, oi2) (by walk_at "zmem")), gtN' (hδ' p hp (Ca, oC2) (by walk_at "zmem")), gtN' (hδ' p hp (D2, oD2) (by walk_at "zmem"))⟩
            · exact hne2 p (.tail _ (List.mem_append_left _ hp))
          · exact hne2 p (.tail _ (List.mem_append_right _ hp))
      · rcases List.mem_append.mp hr' with hr' | hr'
        · exact hpl r' hr'
        · rw [List.mem_singleton] at hr'
          subst hr'
          exact ⟨x, y, z, hr1, ⟨x1, x2⟩, ⟨y1, y2⟩, ⟨z1, z2⟩⟩
      · rcases List.mem_append.mp hp with hp | hp
        · rcases List.mem_cons.mp hq with rfl | hq
          · exact hδ' p hp (t, o') (.head _)
          · exact hδ' p hp q (.tail _ (.tail _ (.tail _ (.tail _ (List.mem_append_right _ hq)))))
        · exact hδ p hp q hq
    rintro D1 oD1 acc1 ν₂ hal1 ⟨ot1, so1, δ1, rfl, hot1, hso1, hpl1, hsl1, hδ1⟩ hoD1 hab1 hne1 hsr1
    with_reducible refine then_next ?_
    with_reducible refine ev_cons ?_
    have hX2 : ∀ p ∈ (D1, oD1) :: (δ1 ++ ((c'.L + 2, os) :: (c'.L + 1, ot) :: ν₁)), p.1 ≠ t := ne_cons (Ne.symm (hne1 (t, ot1) (.head _)).2) (ne_app (fun p hp => gtN (hδ1 p hp (t, o) (.head _))) hct)
    refine' ev_AssignComp (cl := [("tank", c'.L + 1), ("slots", c'.L + 2)]) (Rb := NoX) ?_ outCompNoX ?h0 ?h1 ?h2 ?h3 ?h4 ?h5 ?h6 ?h7 ?h8
    case h0 => with_unfolding_all rfl
    case h1 => with_unfolding_all rfl
    case h2 => decide
    case h3 => rfl
    case h4 => decide
    case h5 => exact fun _ => rfl
    case h6 => rfl
    case h7 => rfl
    case h8 => with_unfolding_all rfl
    ((with_reducible refine' ev_Call ?_ ?qe); (case qe => with_unfolding_all rfl))
    ((with_reducible refine' ev_bltn ?qez ?qv ?_ ?qn ?qg ?qb ?qk ?qx ?qd); (case qg => with_unfolding_all rfl); (case qb => with_unfolding_all rfl); (case qk => with_unfolding_all rfl); (case qx => with_unfolding_all rfl); (case qd => decide); (case qn => decide); (case qez => k_is); (case qv => first | boot_fast | boot_by_name))
    ((with_reducible refine' ev_cwT_0 ?_ ?qe ?qp); (case qe => with_unfolding_all rfl); (case qp => with_unfolding_all rfl))
    ((with_reducible refine' ev_spl ?_ ?qe); (case qe => with_unfolding_all rfl))
    ((with_reducible refine' ev_Call ?_ ?qe); (case qe => with_unfolding_all rfl))
    ((with_reducible refine' ev_glob ?qez ?_ ?qg ?qk ?qx ?qd); (case qg => with_unfolding_all rfl); (case qk => with_unfolding_all rfl); (case qx => with_unfolding_all rfl); (case qd => decide); (case qez => k_is))
    ((with_reducible refine' ev_cwF_0 ?qk ?_ ?qe ?qp); (case qe => with_unfolding_all rfl); (case qp => with_unfolding_all rfl); (case qk => k_is))
    ((with_reducible refine' ev_spl ?_ ?qe); (case qe => with_unfolding_all rfl))
    ((with_reducible refine' ev_cell ?qc ?qm ?qo ?_ ?qk ?qx ?qd); (case qk => with_unfolding_all rfl); (case qx => with_unfolding_all rfl); (case qd => decide); (case qc => with_unfolding_all rfl); (case qm => walk_at "zmem"); (case qo => assumption))
    ((with_reducible refine' ev_spl ?_ ?qe); (case qe => with_unfolding_all rfl))
    ((with_reducible refine ev_int ?_); intro _)
    with_reducible refine ev_spl0 ?_
    refine c_flowT (ν₁ := (D1, oD1) :: (δ1 ++ ((c'.L + 2, os) :: (c'.L + 1, ot) :: ν₁))) (by walk_at "zroom") hot1 (by walk_at "zsub") hX2 (by decide) fun n2 k2 o2 g0 gn2 ho2 => ?_
    obtain ⟨n2, rfl⟩ := Int.eq_ofNat_of_zero_le g0
    with_reducible refine ev_spl0 ?_
    refine ev_range1 fun r0 t1 t2 hr0 => ?_
    refine ev_iterR (.head _) (Int.natCast_nonneg _) (by omega) fun it oi hit hoi => ?_
    refine ev_compI (yldR (n := n2)) (by have : n2 < 2 := (by omega); unfold sizeLine; omega) (fun k acc ν₂ => ∃ o' rs δ, ν₂ = (t, o') :: (δ ++ ((D1, oD1) :: (δ1 ++ ((c'.L + 2, os) :: (c'.L + 1, ot) :: ν₁)))) ∧ TankO o' ∧ RowsV δ rs acc ∧ (∀ r ∈ rs, Plain sl r) ∧ rs.length = k ∧ ∀ p ∈ δ, Above p.1 ((t, o) :: ((D1, oD1) :: (δ1 ++ ((c'.L + 2, os) :: (c'.L + 1, ot) :: ν₁))))) (ν₀ := (t, o2) :: ((D1, oD1) :: (δ1 ++ ((c'.L + 2, os) :: (c'.L + 1, ot) :: ν₁)))) ⟨oi, rfl, by simpa using hoi⟩ (fun p hp => ltN' (hit p (.tail _ hp))) trivial ⟨o2, [], [], rfl, ho2, .nil, (fun _ h => nomatch h), rfl, (fun _ h => nomatch h)⟩ (by walk_at "zsub") (fun a ha => ⟨_, .head _, ha.symm⟩) (fun k b hb p hp => by obtain ⟨oi', rfl, _⟩ := hb; cases hp with | head => rfl | tail _ h => cases h) (fun L q h => trivial) ?_ ?_
    · rintro k acc ν₂ v δ2 b3 Ca oC mC D2 oD2 hk hal ⟨o', rs, δ, rfl, ho', hrs, hpl, hrl, hδ⟩ hne2 hsr2 ⟨⟨tk, rfl⟩, rfl⟩ hδ2 hB2 hNs hoD2 hab2 hDC hbCD hneC
      obtain ⟨oi2, rfl, hoi2⟩ := hB2
      with_reducible refine ev_assignName ?_
      ((with_reducible refine' ev_storeC ?qC (fun _ h => h) ?qn ?_ ?qL ?qk ?qx); (case qL => with_unfolding_all rfl); (case qk => with_unfolding_all rfl); (case qx => with_unfolding_all rfl); (case qC => assumption); (case qn => walk_at "zne"); intro _ _)
      with_reducible refine ev_tests0 ?_
      with_reducible refine ite_T ?_
      ((with_reducible refine' ev_Call ?_ ?qe); (case qe => with_unfolding_all rfl))
      ((with_reducible refine' ev_glob ?qez ?_ ?qg ?qk ?qx ?qd); (case qg => with_unfolding_all rfl); (case qk => with_unfolding_all rfl); (case qx => with_unfolding_all rfl); (case qd => decide); (case qez => k_is))
      ((with_reducible refine' ev_cwF_0 ?qk ?_ ?qe ?qp); (case qe => with_unfolding_all rfl); (case qp => with_unfolding_all rfl); (case qk => k_is))
      ((with_reducible refine' ev_spl ?_ ?qe); (case qe => with_unfolding_all rfl))
      ((with_reducible refine' ev_cell ?qc ?qm ?qo ?_ ?qk ?qx ?qd); (case qk => with_unfolding_all rfl); (case qx => with_unfolding_all rfl); (case qd => decide); (case qc => with_unfolding_all rfl); (case qm => walk_at "zmem"); (case qo => assumption))
      ((with_reducible refine' ev_spl ?_ ?qe); (case qe => with_unfolding_all rfl))
      ((with_reducible refine' ev_cell ?qc ?qm ?qo ?_ ?qk ?qx ?qd); (case qk => with_unfolding_all rfl); (case qx => with_unfolding_all rfl); (case qd => decide); (case qc => with_unfolding_all rfl); (case qm => walk_at "zmem"); (case qo => assumption))
      with_reducible refine ev_spl0 ?_
      rename_i oC2 hN2
      have hδt : ∀ p ∈ δ, p.1 ≠ t := fun p hp => gtN (hδ p hp (t, o) (.head _))
      refine c_plain_row (ν₁ := (Ca, oC2) :: (D2, oD2) :: (it, oi2) :: (δ ++ ((D1, oD1) :: (δ1 ++ ((c'.L + 2, os) :: (c'.L + 1, ot) :: ν₁))))) (by walk_at "zroom") ho' (by walk_at "zsub") (ne_cons (gtN (Nat.lt_trans (hab2 _ (.head _)) hDC)) (ne_cons (gtN (hab2 _ (.head _))) (ne_cons (gtN (hit _ (.tail _ (.head _)))) (ne_app hδt hX2)))) hm0 fun v r x y z o2 δ' hr1 x1 x2 y1 y2 z1 z2 ho2 hrv hδ' => ?_
      refine' comp_done (ν'' := (t, o2) :: ((δ' ++ δ) ++ ((D1, oD1) :: (δ1 ++ ((c'.L + 2, os) :: (c'.L + 1, ot) :: ν₁))))) ?sub hN2 (fun p hp => ?_) trivial ⟨o2, rs ++ [r], δ' ++ δ, rfl, ho2, (hrs.mono fun _ _ y => y.mono (KeepT.of fun p hp => List.mem_append_right _ hp)).snoc (hrv.mono (KeepT.of fun p hp => List.mem_append_left _ hp)), fun r' hr' => ?_, by rw [List.length_append, hrl]; rfl, fun p hp q hq => ?_⟩
      case sub => walk_at "zsub"
      · rcases List.mem_cons.mp hp with rfl | hp
        · exact hne2 (t, o') (.head _)
        · rcases List.mem_append.mp hp with hp | hp
          · rcases List.mem_append.mp hp with hp | hp
            · exact ⟨gtN' (hδ' p hp (it, oi2) (by walk_at "zmem")), gtN' (hδ' p hp (Ca, oC2) (by walk_at "zmem")), gtN' (hδ' p hp (D2, oD2) (by walk_at "zmem"))⟩
            · exact hne2 p (.tail _ (List.mem_append_left _ hp))
          · exact hne2 p (.tail _ (List.mem_append_right _ hp))
      · rcases List.mem_append.mp hr' with hr' | hr'
        · exact hpl r' hr'
        · rw [List.mem_singleton] at hr'
          subst hr'
          exact ⟨x, y, z, hr1, ⟨x1, x2⟩, ⟨y1, y2⟩, ⟨z1, z2⟩⟩
      · rcases List.mem_append.mp hp with hp | hp
        · rcases List.mem_cons.mp hq with rfl | hq
          · exact hδ' p hp (t, o') (.head _)
          · exact hδ' p hp q (.tail _ (.tail _ (.tail _ (.tail _ (List.mem_append_right _ hq)))))
        · exact hδ p hp q hq
    rintro D2 oD2 acc2 ν₂ hal2 ⟨ot2, so2, δ2, rfl, hot2, hso2, hpl2, hsl2, hδ2⟩ hoD2 hab2 hne2 hsr2
    with_reducible refine then_next ?_
    with_reducible refine ev_cons ?_
    ((with_reducible refine' ev_Assign ?_ ?qs); (case qs => with_unfolding_all rfl))
    ((with_reducible refine' ev_Call ?_ ?qe); (case qe => with_unfolding_all rfl))
    ((with_reducible refine' ev_bltn ?qez ?qv ?_ ?qn ?qg ?qb ?qk ?qx ?qd); (case qg => with_unfolding_all rfl); (case qb => with_unfolding_all rfl); (case qk => with_unfolding_all rfl); (case qx => with_unfolding_all rfl); (case qd => decide); (case qn => decide); (case qez => k_is); (case qv => first | boot_fast | boot_by_name))
    ((with_reducible refine' ev_cwB_0 ?_ ?qe ?qp); (case qe => with_unfolding_all rfl); (case qp => with_unfolding_all rfl))
    ((with_reducible refine' ev_spl ?_ ?qe); (case qe => with_unfolding_all rfl))
    ((with_reducible refine' ev_local ?qvz ?_ ?qL ?qk ?qx ?qd); (case qL => with_unfolding_all rfl); (case qk => with_unfolding_all rfl); (case qx => with_unfolding_all rfl); (case qd => decide); (case qvz => walk_at "zlk"))
    with_reducible refine ev_spl0 ?_
    ((with_reducible refine' ev_lenL ?qm ?qo ?qf ?_); (case qm => walk_at "zmem"); (case qo => walk_at "zo"); (case qf => walk_at "zlen"); intro _)
    ((with_reducible refine' ev_store ?_ ?qL ?qk ?qx); (case qL => with_unfolding_all rfl); (case qk => with_unfolding_all rfl); (case qx => with_unfolding_all rfl))
    with_reducible refine then_next ?_
    with_reducible refine ev_cons ?_
    ((with_reducible refine' ev_Assign ?_ ?qs); (case qs => with_unfolding_all rfl))
    with_reducible refine ev_BinOp ?_
    with_reducible refine ev_BinOp ?_
    ((with_reducible refine' ev_local ?qvz ?_ ?qL ?qk ?qx ?qd); (case qL => with_unfolding_all rfl); (case qk => with_unfolding_all rfl); (case qx => with_unfolding_all rfl); (case qd => decide); (case qvz => walk_at "zlk"))
    with_reducible refine ev_List ?_
    ((with_reducible refine' ev_spl ?_ ?qe); (case qe => with_unfolding_all rfl))
    with_reducible refine ev_Tuple ?_
    ((with_reducible refine' ev_spl ?_ ?qe); (case qe => with_unfolding_all rfl))
    ((with_reducible refine ev_str ?_); intro _)
    ((with_reducible refine' ev_spl ?_ ?qe); (case qe => with_unfolding_all rfl))
    ((with_reducible refine' ev_Call ?_ ?qe); (case qe => with_unfolding_all rfl))
    ((with_reducible refine' ev_glob ?qez ?_ ?qg ?qk ?qx ?qd); (case qg => with_unfolding_all rfl); (case qk => with_unfolding_all rfl); (case qx => with_unfolding_all rfl); (case qd => decide); (case qez => k_is))
    ((with_reducible refine' ev_cwF_0 ?qk ?_ ?qe ?qp); (case qe => with_unfolding_all rfl); (case qp => with_unfolding_all rfl); (case qk => k_is))
    ((with_reducible refine' ev_spl ?_ ?qe); (case qe => with_unfolding_all rfl))
    ((with_reducible refine' ev_cell ?qc ?qm ?qo ?_ ?qk ?qx ?qd); (case qk => with_unfolding_all rfl); (case qx => with_unfolding_all rfl); (case qd => decide); (case qc => with_unfolding_all rfl); (case qm => walk_at "zmem"); (case qo => assumption))
    ((with_reducible refine' ev_spl ?_ ?qe); (case qe => with_unfolding_all rfl))
    ((with_reducible refine' ev_cell ?qc ?qm ?qo ?_ ?qk ?qx ?qd); (case qk => with_unfolding_all rfl); (case qx => with_unfolding_all rfl); (case qd => decide); (case qc => with_unfolding_all rfl); (case qm => walk_at "zmem"); (case qo => assumption))
    with_reducible refine ev_spl0 ?_
    have hX3 : ∀ p ∈ (D2, oD2) :: (δ2 ++ ((D1, oD1) :: (δ1 ++ ((c'.L + 2, os) :: (c'.L + 1, ot) :: ν₁)))), p.1 ≠ t := ne_cons (Ne.symm (hne2 (t, ot2) (.head _)).2) (ne_app (fun p hp => gtN (hδ2 p hp (t, o) (.head _))) hX2)
    refine c_flowT (ν₁ := (D2, oD2) :: (δ2 ++ ((D1, oD1) :: (δ1 ++ ((c'.L + 2, os) :: (c'.L + 1, ot) :: ν₁))))) (by walk_at "zroom") hot2 (by walk_at "zsub") hX3 hm0 fun uu ku o3 u0 u1 ho3 => ?_
    ((with_reducible refine' ev_spl ?_ ?qe); (case qe => with_unfolding_all rfl))
    with_reducible refine ev_BinOp ?_
    with_reducible refine ev_BinOp ?_
    ((with_reducible refine' ev_local ?qvz ?_ ?qL ?qk ?qx ?qd); (case qL => with_unfolding_all rfl); (case qk => with_unfolding_all rfl); (case qx => with_unfolding_all rfl); (case qd => decide); (case qvz => walk_at "zlk"))
    ((with_reducible refine ev_int ?_); intro _)
    ((with_reducible refine ev_add ?_); intro _)
    ((with_reducible refine' ev_Call ?_ ?qe); (case qe => with_unfolding_all rfl))
    ((with_reducible refine' ev_bltn ?qez ?qv ?_ ?qn ?qg ?qb ?qk ?qx ?qd); (case qg => with_unfolding_all rfl); (case qb => with_unfolding_all rfl); (case qk => with_unfolding_all rfl); (case qx => with_unfolding_all rfl); (case qd => decide); (case qn => decide); (case qez => k_is); (case qv => first | boot_fast | boot_by_name))
    ((with_reducible refine' ev_cwB_0 ?_ ?qe ?qp); (case qe => with_unfolding_all rfl); (case qp => with_unfolding_all rfl))
    ((with_reducible refine' ev_spl ?_ ?qe); (case qe => with_unfolding_all rfl))
    ((with_reducible refine' ev_local ?qvz ?_ ?qL ?qk ?qx ?qd); (case qL => with_unfolding_all rfl); (case qk => with_unfolding_all rfl); (case qx => with_unfolding_all rfl); (case qd => decide); (case qvz => walk_at "zlk"))
    with_reducible refine ev_spl0 ?_
    ((with_reducible refine' ev_lenL ?qm ?qo ?qf ?_); (case qm => walk_at "zmem"); (case qo => walk_at "zo"); (case qf => walk_at "zlen"); intro _)
    ((with_reducible refine ev_add ?_); intro _)
    with_reducible refine ev_spl0 ?_
    refine ev_newTuple (fun U hU => ?_) (by simp [sizeLine])
    with_reducible refine ev_spl0 ?_
    refine ev_newList (fun lu hlu => ?_) (by simp [sizeLine])
    refine ev_addL (a := D1) (by walk_at "zmem") hoD1 (.head _) lstO_mk (by simp [sizeLine]; omega) fun l4 o4 hl4 ho4 => ?_
    ((with_reducible refine' ev_local ?qvz ?_ ?qL ?qk ?qx ?qd); (case qL => with_unfolding_all rfl); (case qk => with_unfolding_all rfl); (case qx => with_unfolding_all rfl); (case qd => decide); (case qvz => walk_at "zlk"))
    refine ev_addL (b := D2) (.head _) ho4 (by walk_at "zmem") hoD2 (by simp [sizeLine]; omega) fun l5 o5 hl5 ho5 => ?_
    refine ev_store ?_ (by with_unfolding_all rfl) (by with_unfolding_all rfl) (by with_unfolding_all rfl)
    refine then_next ?_
    have hl5t : l5 ≠ t := gtN (hl5 (t, o3) (by walk_at "zmem"))
    have e1 : (acc1.length : Int) = so1.length := by rw [hso1.length]
    have e2 : (acc2.length : Int) = so2.length := by rw [hso2.length]
    refine ev_collapse (B := (t, o3) :: (c'.L + 2, os) :: (c'.L + 1, ot) :: ν₁) (base := (c'.L + 2, os) :: (c'.L + 1, ot) :: ν₁) (t := t) (o := o3) (l := l5) (ol := o5) (rs := rows1 so1 so2 uu) (vs := acc1 ++ [Value.ref U] ++ acc2) (by walk_at "zsub") ?_ fun δ5 hδ5 hr5 => ?_
    · unfold rows1
      rw [← e1, ← e2]
      refine ((hso1.mono fun _ _ y => y.mono (KeepT.of fun p hp => ?_)).app (.cons (by walk_at "zrow") .nil)).app (hso2.mono fun _ _ y => y.mono (KeepT.of fun p hp => ?_))
      · exact mem_of_new ((show ∀ p ∈ δ1, p ∈ _ by walk_at "zsub") p hp) (above_swap (hδ1 p hp))
      · exact mem_of_new ((show ∀ p ∈ δ2, p ∈ _ by walk_at "zsub") p hp) (above_swap fun q hq => hδ2 p hp q (by rcases List.mem_cons.mp hq with rfl | hq; exact .head _; exact .tail _ (.tail _ (List.mem_append_right _ hq))))
    have hlen5 : (acc1 ++ [Value.ref U] ++ acc2).length = (rows1 so1 so2 uu).length := by rw [hr5.length]
    have hlen6 : (rows1 so1 so2 uu).length ≤ 4 := by unfold rows1; simp; omega
    obtain ⟨r1, hr1⟩ : ∃ r, r = rows1 so1 so2 uu := ⟨_, rfl⟩
    rw [← hr1] at hr5 hlen5 hlen6
    generalize acc1 ++ [Value.ref U] ++ acc2 = vs5 at ho5 hr5 hlen5
    have h540 : vs5.length < 2 ^ 40 := by omega
    have hX5 : ∀ p ∈ (l5, o5) :: (δ5 ++ ((c'.L + 2, os) :: (c'.L + 1, ot) :: ν₁)), p.1 ≠ t := ne_cons hl5t (ne_app (fun p hp => gtN (hδ5 p hp (t, o3) (.head _))) hct)
    refine ev_cons (ev_imp (P := MidRows sl t o ((c'.L + 2, os) :: (c'.L + 1, ot) :: ν₁) r1) ?_ ?_)
    · with_reducible refine ev_If ?_
      ((with_reducible refine' ev_isCompare ?_ ?qs); (case qs => with_unfolding_all rfl))
      ((with_reducible refine' ev_Call ?_ ?qe); (case qe => with_unfolding_all rfl))
      ((with_reducible refine' ev_glob ?qez ?_ ?qg ?qk ?qx ?qd); (case qg => with_unfolding_all rfl); (case qk => with_unfolding_all rfl); (case qx => with_unfolding_all rfl); (case qd => decide); (case qez => k_is))
      ((with_reducible refine' ev_cwF_0 ?qk ?_ ?qe ?qp); (case qe => with_unfolding_all rfl); (case qp => with_unfolding_all rfl); (case qk => k_is))
      ((with_reducible refine' ev_spl ?_ ?qe); (case qe => with_unfolding_all rfl))
      ((with_reducible refine' ev_cell ?qc ?qm ?qo ?_ ?qk ?qx ?qd); (case qk => with_unfolding_all rfl); (case qx => with_unfolding_all rfl); (case qd => decide); (case qc => with_unfolding_all rfl); (case qm => walk_at "zmem"); (case qo => assumption))
      ((with_reducible refine' ev_spl ?_ ?qe); (case qe => with_unfolding_all rfl))
      ((with_reducible refine ev_int ?_); intro _)
      with_reducible refine ev_spl0 ?_
      refine c_flowT (ν₁ := (l5, o5) :: (δ5 ++ ((c'.L + 2, os) :: (c'.L + 1, ot) :: ν₁))) (by walk_at "zroom") ho3 (by walk_at "zsub") hX5 (by decide) fun k6 t6 o6 _ _ ho6 => ?_
      ((with_reducible refine ev_int ?_); intro _)
      with_reducible refine ev_eq ?_
      with_reducible refine ev_truthyB ?_
      refine ite_B (fun hb => ?_) (fun hb => ?_)
      · with_reducible refine ev_cons ?_
        ((with_reducible refine' ev_Assign ?_ ?qs); (case qs => with_unfolding_all rfl))
        ((with_reducible refine' ev_Call ?_ ?qe); (case qe => with_unfolding_all rfl))
        ((with_reducible refine' ev_bltn ?qez ?qv ?_ ?qn ?qg ?qb ?qk ?qx ?qd); (case qg => with_unfolding_all rfl); (case qb => with_unfolding_all rfl); (case qk => with_unfolding_all rfl); (case qx => with_unfolding_all rfl); (case qd => decide); (case qn => decide); (case qez => k_is); (case qv => first | boot_fast | boot_by_name))
        ((with_reducible refine' ev_cwB_0 ?_ ?qe ?qp); (case qe => with_unfolding_all rfl); (case qp => with_unfolding_all rfl))
        ((with_reducible refine' ev_spl ?_ ?qe); (case qe => with_unfolding_all rfl))
        ((with_reducible refine' ev_local ?qvz ?_ ?qL ?qk ?qx ?qd); (case qL => with_unfolding_all rfl); (case qk => with_unfolding_all rfl); (case qx => with_unfolding_all rfl); (case qd => decide); (case qvz => walk_at "zlk"))
        with_reducible refine ev_spl0 ?_
        ((with_reducible refine' ev_lenL ?qm ?qo ?qf ?_); (case qm => walk_at "zmem"); (case qo => walk_at "zo"); (case qf => walk_at "zlen"); intro _)
        ((with_reducible refine' ev_store ?_ ?qL ?qk ?qx); (case qL => with_unfolding_all rfl); (case qk => with_unfolding_all rfl); (case qx => with_unfolding_all rfl))
        with_reducible refine then_next ?_
        with_reducible refine ev_cons ?_
        ((with_reducible refine' ev_Assign ?_ ?qs); (case qs => with_unfolding_all rfl))
        with_reducible refine ev_List ?_
        ((with_reducible refine' ev_spl ?_ ?qe); (case qe => with_unfolding_all rfl))
        ((with_reducible refine' ev_Call ?_ ?qe); (case qe => with_unfolding_all rfl))
        ((with_reducible refine' ev_glob ?qez ?_ ?qg ?qk ?qx ?qd); (case qg => with_unfolding_all rfl); (case qk => with_unfolding_all rfl); (case qx => with_unfolding_all rfl); (case qd => decide); (case qez => k_is))
        ((with_reducible refine' ev_cwF_0 ?qk ?_ ?qe ?qp); (case qe => with_unfolding_all rfl); (case qp => with_unfolding_all rfl); (case qk => k_is))
        ((with_reducible refine' ev_spl ?_ ?qe); (case qe => with_unfolding_all rfl))
        ((with_reducible refine' ev_cell ?qc ?qm ?qo ?_ ?qk ?qx ?qd); (case qk => with_unfolding_all rfl); (case qx => with_unfolding_all rfl); (case qd => decide); (case qc => with_unfolding_all rfl); (case qm => walk_at "zmem"); (case qo => assumption))
        ((with_reducible refine' ev_spl ?_ ?qe); (case qe => with_unfolding_all rfl))
        ((with_reducible refine' ev_cell ?qc ?qm ?qo ?_ ?qk ?qx ?qd); (case qk => with_unfolding_all rfl); (case qx => with_unfolding_all rfl); (case qd => decide); (case qc => with_unfolding_all rfl); (case qm => walk_at "zmem"); (case qo => assumption))
        with_reducible refine ev_spl0 ?_
        refine c_plain_row (ν₁ := (l5, o5) :: (δ5 ++ ((c'.L + 2, os) :: (c'.L + 1, ot) :: ν₁))) (by walk_at "zroom") ho6 (by walk_at "zsub") hX5 hm0 fun v7 r7 x y z o7 δ7 hr7 x1 x2 y1 y2 z1 z2 ho7 hrv7 hδ7 => ?_
        with_reducible refine ev_spl0 ?_
        refine ev_newList (fun l7 hl7 => ?_) (by simp [sizeLine])
        ((with_reducible refine' ev_store ?_ ?qL ?qk ?qx); (case qL => with_unfolding_all rfl); (case qk => with_unfolding_all rfl); (case qx => with_unfolding_all rfl))
        with_reducible refine then_next ?_
        with_reducible refine ev_cons ?_
        ((with_reducible refine' ev_Assign ?_ ?qs); (case qs => with_unfolding_all rfl))
        with_reducible refine ev_BinOp ?_
        with_reducible refine ev_BinOp ?_
        with_reducible refine ev_BinOp ?_
        ((with_reducible refine' ev_local ?qvz ?_ ?qL ?qk ?qx ?qd); (case qL => with_unfolding_all rfl); (case qk => with_unfolding_all rfl); (case qx => with_unfolding_all rfl); (case qd => decide); (case qvz => walk_at "zlk"))
        with_reducible refine ev_List ?_
        ((with_reducible refine' ev_spl ?_ ?qe); (case qe => with_unfolding_all rfl))
        with_reducible refine ev_Tuple ?_
        ((with_reducible refine' ev_spl ?_ ?qe); (case qe => with_unfolding_all rfl))
        ((with_reducible refine ev_str ?_); intro _)
        ((with_reducible refine' ev_spl ?_ ?qe); (case qe => with_unfolding_all rfl))
        with_reducible refine ev_BinOp ?_
        ((with_reducible refine' ev_local ?qvz ?_ ?qL ?qk ?qx ?qd); (case qL => with_unfolding_all rfl); (case qk => with_unfolding_all rfl); (case qx => with_unfolding_all rfl); (case qd => decide); (case qvz => walk_at "zlk"))
        ((with_reducible refine ev_int ?_); intro _)
        ((with_reducible refine ev_add ?_); intro _)
        with_reducible refine ev_spl0 ?_
        refine ev_newTuple (fun E hE => ?_) (by simp [sizeLine])
        with_reducible refine ev_spl0 ?_
        refine ev_newList (fun lE hlE => ?_) (by simp [sizeLine])
        refine ev_addL (a := l5) (by walk_at "zmem") ho5 (.head _) lstO_mk (by simp [sizeLine]; omega) fun l8 o8 hl8 ho8 => ?_
        ((with_reducible refine' ev_local ?qvz ?_ ?qL ?qk ?qx ?qd); (case qL => with_unfolding_all rfl); (case qk => with_unfolding_all rfl); (case qx => with_unfolding_all rfl); (case qd => decide); (case qvz => walk_at "zlk"))
        refine ev_addL (b := l7) (.head _) ho8 (by walk_at "zmem") lstO_mk (by simp [sizeLine]; omega) fun l9 o9 hl9 ho9 => ?_
        with_reducible refine ev_List ?_
        ((with_reducible refine' ev_spl ?_ ?qe); (case qe => with_unfolding_all rfl))
        with_reducible refine ev_Tuple ?_
        ((with_reducible refine' ev_spl ?_ ?qe); (case qe => with_unfolding_all rfl))
        ((with_reducible refine ev_str ?_); intro _)
        ((with_reducible refine' ev_spl ?_ ?qe); (case qe => with_unfolding_all rfl))
        ((with_reducible refine ev_int ?_); intro _)
        with_reducible refine ev_spl0 ?_
        refine ev_newTuple (fun T1 hT1 => ?_) (by simp [sizeLine])
        ((with_reducible refine' ev_spl ?_ ?qe); (case qe => with_unfolding_all rfl))
        with_reducible refine ev_Tuple ?_
        ((with_reducible refine' ev_spl ?_ ?qe); (case qe => with_unfolding_all rfl))
        ((with_reducible refine ev_str ?_); intro _)
        ((with_reducible refine' ev_spl ?_ ?qe); (case qe => with_unfolding_all rfl))
        with_reducible refine ev_BinOp ?_
        ((with_reducible refine' ev_local ?qvz ?_ ?qL ?qk ?qx ?qd); (case qL => with_unfolding_all rfl); (case qk => with_unfolding_all rfl); (case qx => with_unfolding_all rfl); (case qd => decide); (case qvz => walk_at "zlk"))
        ((with_reducible refine ev_int ?_); intro _)
        ((with_reducible refine ev_add ?_); intro _)
        with_reducible refine ev_spl0 ?_
        refine ev_newTuple (fun T2 hT2 => ?_) (by simp [sizeLine])
        ((with_reducible refine' ev_spl ?_ ?qe); (case qe => with_unfolding_all rfl))
        with_reducible refine ev_Tuple ?_
        ((with_reducible refine' ev_spl ?_ ?qe); (case qe => with_unfolding_all rfl))
        ((with_reducible refine ev_str ?_); intro _)
        ((with_reducible refine' ev_spl ?_ ?qe); (case qe => with_unfolding_all rfl))
        ((with_reducible refine' ev_Call ?_ ?qe); (case qe => with_unfolding_all rfl))
        ((with_reducible refine' ev_glob ?qez ?_ ?qg ?qk ?qx ?qd); (case qg => with_unfolding_all rfl); (case qk => with_unfolding_all rfl); (case qx => with_unfolding_all rfl); (case qd => decide); (case qez => k_is))
        ((with_reducible refine' ev_cwF_0 ?qk ?_ ?qe ?qp); (case qe => with_unfolding_all rfl); (case qp => with_unfolding_all rfl); (case qk => k_is))
        ((with_reducible refine' ev_spl ?_ ?qe); (case qe => with_unfolding_all rfl))
        ((with_reducible refine' ev_cell ?qc ?qm ?qo ?_ ?qk ?qx ?qd); (case qk => with_unfolding_all rfl); (case qx => with_unfolding_all rfl); (case qd => decide); (case qc => with_unfolding_all rfl); (case qm => walk_at "zmem"); (case qo => assumption))
        ((with_reducible refine' ev_spl ?_ ?qe); (case qe => with_unfolding_all rfl))
        ((with_reducible refine' ev_cell ?qc ?qm ?qo ?_ ?qk ?qx ?qd); (case qk => with_unfolding_all rfl); (case qx => with_unfolding_all rfl); (case qd => decide); (case qc => with_unfolding_all rfl); (case qm => walk_at "zmem"); (case qo => assumption))
        with_reducible refine ev_spl0 ?_
        have e5 : (vs5.length : Int) = r1.length := by rw [hlen5]
        have hl9t : l9 ≠ t := gtN (hl9 (t, o7) (by walk_at "zmem"))
        refine ev_collapse (B := (t, o7) :: (c'.L + 2, os) :: (c'.L + 1, ot) :: ν₁) (base := (c'.L + 2, os) :: (c'.L + 1, ot) :: ν₁) (t := t) (o := o7) (l := l9) (ol := o9) (rs := r1 ++ [rEnter ((r1.length : Int) + 4)] ++ [r7] ++ [rLeave, rGoto ((r1.length : Int) + 5)]) (vs := vs5 ++ [Value.ref E] ++ [v7] ++ [Value.ref T1, Value.ref T2]) (by walk_at "zsub") ?_ fun δ9 hδ9 hr9 => ?_
        · rw [← e5]
          refine (((hr5.mono fun _ _ y => y.mono (KeepT.of fun p hp => ?_)).app (.cons (by walk_at "zrow") .nil)).app (.cons (hrv7.mono (KeepT.of fun p hp => ?_)) .nil)).app (.cons (by walk_at "zrow") (.cons (by walk_at "zrow") .nil))
          · exact mem_of_new ((show ∀ p ∈ δ7, p ∈ _ by walk_at "zsub") p hp) (above_swap fun q hq => hδ7 p hp q (by rcases List.mem_cons.mp hq with rfl | hq; exact .head _; exact .tail _ (.tail _ (List.mem_append_right _ hq))))
          · exact mem_of_new ((show ∀ p ∈ δ5, p ∈ _ by walk_at "zsub") p hp) (above_swap (hδ5 p hp))
        have hX9 : ∀ p ∈ (l9, o9) :: (δ9 ++ ((c'.L + 2, os) :: (c'.L + 1, ot) :: ν₁)), p.1 ≠ t := ne_cons hl9t (ne_app (fun p hp => gtN (hδ9 p hp (t, o7) (.head _))) hct)
        refine c_flowT (ν₁ := (l9, o9) :: (δ9 ++ ((c'.L + 2, os) :: (c'.L + 1, ot) :: ν₁))) (by walk_at "zroom") ho7 (by walk_at "zsub") hX9 hm0 fun ca tca oa ca0 ca1 hoa => ?_
        with_reducible refine ev_spl0 ?_
        refine ev_newTuple (fun T3 hT3 => ?_) (by simp [sizeLine])
        with_reducible refine ev_spl0 ?_
        refine ev_newList (fun lT hlT => ?_) (by simp [sizeLine])
        refine ev_addL (a := l9) (by walk_at "zmem") ho9 (.head _) lstO_mk (by simp [sizeLine]; omega) fun la ola hla hola => ?_
        ((with_reducible refine' ev_store ?_ ?qL ?qk ?qx); (case qL => with_unfolding_all rfl); (case qk => with_unfolding_all rfl); (case qx => with_unfolding_all rfl))
        with_reducible refine then_next ?_
        with_reducible refine ev_nil ?_
        refine ⟨rfl, la, ola, oa, newOf ((t, oa) :: (c'.L + 2, os) :: (c'.L + 1, ot) :: ν₁) _, r1 ++ [rEnter ((r1.length : Int) + 4)] ++ [r7] ++ [rLeave, rGoto ((r1.length : Int) + 5), rCaught ca], _, by walk_at "zlk", sub_cons (by walk_at "zmem") (sub_cons (.head _) (sub_app (fun p hp => (new_mem hp).1) (by walk_at "zbase"))), hoa, hola, ?_, gtN (hla (t, oa) (by walk_at "zmem")), fun p hp => above_swap (new_mem hp).2, some (r7, ca), ⟨fun i ca' e => ?_, fun i ca' e => ?_⟩, rfl⟩
        · refine rows_cast ?_ ?_ ((hr9.mono fun _ _ y => y.mono (KeepT.of fun p hp => mem_of_new ((show ∀ p ∈ δ9, p ∈ _ by walk_at "zsub") p hp) (above_swap (hδ9 p hp)))).snoc (a := rCaught ca) (v := .ref T3) (by walk_at "zrow"))
          · simp only [List.append_assoc, List.cons_append, List.nil_append]
          · simp only [List.append_assoc, List.cons_append, List.nil_append]
        · cases e
          exact ⟨x, y, z, hr7, ⟨x1, x2⟩, ⟨y1, y2⟩, ⟨z1, z2⟩⟩
        · cases e
          exact ⟨ca0, ca1⟩
      · with_reducible refine ev_nil ?_
        exact ⟨rfl, l5, o5, o6, δ5, _, _, by walk_at "zlk", by walk_at "zsub", ho6, ho5, hr5, hl5t, fun p hp => above_swap (hδ5 p hp), none, ⟨(fun _ _ h => nomatch h), (fun _ _ h => nomatch h)⟩, rfl⟩
    · rintro f m' ν' ⟨rfl, rl, orl, o6, δ6, rs6, vs6, hm6, hsub6, ho6, horl, hrs6, hne6, hδ6, hh6, hand6, rfl⟩
      refine then_next (ev_sub ?_ hsub6)
      have hlen7 : vs6.length ≤ 9 := by
        rw [hrs6.length]
        cases hh6 with
        | none => exact Nat.le_trans hlen6 (by decide)
        | some q => obtain ⟨qa, qb⟩ := q; unfold rows2; simp; omega
      have h640 : vs6.length < 2 ^ 40 := by omega
      have e6 : (vs6.length : Int) = (rows2 r1 hh6).length := by rw [hrs6.length]
      have hX6 : ∀ p ∈ (rl, orl) :: (δ6 ++ ((c'.L + 2, os) :: (c'.L + 1, ot) :: ν₁)), p.1 ≠ t := ne_cons hne6 (ne_app (fun p hp => gtN (hδ6 p hp (t, o) (.head _))) hct)
      with_reducible refine ev_cons ?_
      with_reducible refine ev_If ?_
      ((with_reducible refine' ev_isCompare ?_ ?qs); (case qs => with_unfolding_all rfl))
      ((with_reducible refine' ev_Call ?_ ?qe); (case qe => with_unfolding_all rfl))
      ((with_reducible refine' ev_glob ?qez ?_ ?qg ?qk ?qx ?qd); (case qg => with_unfolding_all rfl); (case qk => with_unfolding_all rfl); (case qx => with_unfolding_all rfl); (case qd => decide); (case qez => k_is))
      ((with_reducible refine' ev_cwF_0 ?qk ?_ ?qe ?qp); (case qe => with_unfolding_all rfl); (case qp => with_unfolding_all rfl); (case qk => k_is))
      ((with_reducible refine' ev_spl ?_ ?qe); (case qe => with_unfolding_all rfl))
      ((with_reducible refine' ev_cell ?qc ?qm ?qo ?_ ?qk ?qx ?qd); (case qk => with_unfolding_all rfl); (case qx => with_unfolding_all rfl); (case qd => decide); (case qc => with_unfolding_all rfl); (case qm => walk_at "zmem"); (case qo => assumption))
      ((with_reducible refine' ev_spl ?_ ?qe); (case qe => with_unfolding_all rfl))
      ((with_reducible refine ev_int ?_); intro _)
      with_reducible refine ev_spl0 ?_
      refine c_flowT (ν₁ := (rl, orl) :: (δ6 ++ ((c'.L + 2, os) :: (c'.L + 1, ot) :: ν₁))) (by walk_at "zroom") ho6 (by walk_at "zsub") hX6 (by decide) fun k7 t7 o7 _ _ ho7 => ?_
      ((with_reducible refine ev_int ?_); intro _)
      with_reducible refine ev_eq ?_
      with_reducible refine ev_truthyB ?_
      refine ite_B (fun hb => ?_) (fun hb => ?_)
      · with_reducible refine ev_cons ?_
        with_reducible refine ev_Return ?_
        with_reducible refine ev_BinOp ?_
        ((with_reducible refine' ev_local ?qvz ?_ ?qL ?qk ?qx ?qd); (case qL => with_unfolding_all rfl); (case qk => with_unfolding_all rfl); (case qx => with_unfolding_all rfl); (case qd => decide); (case qvz => walk_at "zlk"))
        with_reducible refine ev_List ?_
        ((with_reducible refine' ev_spl ?_ ?qe); (case qe => with_unfolding_all rfl))
        with_reducible refine ev_Tuple ?_
        ((with_reducible refine' ev_spl ?_ ?qe); (case qe => with_unfolding_all rfl))
        ((with_reducible refine ev_str ?_); intro _)
        ((with_reducible refine' ev_spl ?_ ?qe); (case qe => with_unfolding_all rfl))
        ((with_reducible refine ev_int ?_); intro _)
        with_reducible refine ev_spl0 ?_
        refine ev_newTuple (fun T4 hT4 => ?_) (by simp [sizeLine])
        with_reducible refine ev_spl0 ?_
        refine ev_newList (fun lT hlT => ?_) (by simp [sizeLine])
        refine ev_addL (a := rl) (by walk_at "zmem") horl (.head _) lstO_mk (by simp [sizeLine]; omega) fun la ola hla hola => ?_
        with_reducible refine then_ret ?_
        with_reducible refine then_ret ?_
        refine ⟨(la, ola) :: (t, o7) :: (newOf ((t, o7) :: (c'.L + 2, os) :: (c'.L + 1, ot) :: ν₁) _ ++ ν₁), sub_cons (.head _) (sub_cons (by walk_at "zmem") (sub_app (fun p hp => .tail _ (new_mem hp).1) (by walk_at "zbase"))), h la ola _ (rows3 (rows2 r1 hh6) none) o7 _ ho7 hola ?_ ?_ (fun p hp => ?_) (fun p hp => ?_)⟩
        · refine (hrs6.mono fun _ _ y => y.mono (KeepT.of fun p hp => mem_of_new ((show ∀ p ∈ δ6, p ∈ _ by walk_at "zsub") p hp) (above_swap (hδ6 p hp)))).snoc (by walk_at "zrow")
        · exact ⟨so1, so2, uu, hh6, none, by rw [hr1], by omega, by omega, hpl1, hpl2, ⟨u0, u1⟩, hand6, (fun _ h => nomatch h)⟩
        · exact above_swap fun q hq => (new_mem hp).2 q (by rcases List.mem_cons.mp hq with rfl | hq; exact .head _; exact .tail _ (.tail _ (.tail _ hq)))
        · rcases List.mem_cons.mp hp with rfl | hp
          · exact ltN' (hla (t, o7) (by walk_at "zmem"))
          · rcases List.mem_append.mp hp with hp | hp
            · exact ltN' (hla p (new_mem hp).1)
            · exact ltN' (hla p ((show ∀ p ∈ ν₁, p ∈ _ by walk_at "zbase") p hp))
      · with_reducible refine ev_nil ?_
        with_reducible refine then_next ?_
        with_reducible refine ev_cons ?_
        with_reducible refine ev_Return ?_
        with_reducible refine ev_BinOp ?_
        ((with_reducible refine' ev_local ?qvz ?_ ?qL ?qk ?qx ?qd); (case qL => with_unfolding_all rfl); (case qk => with_unfolding_all rfl); (case qx => with_unfolding_all rfl); (case qd => decide); (case qvz => walk_at "zlk"))
        with_reducible refine ev_List ?_
        ((with_reducible refine' ev_spl ?_ ?qe); (case qe => with_unfolding_all rfl))
        with_reducible refine ev_Tuple ?_
        ((with_reducible refine' ev_spl ?_ ?qe); (case qe => with_unfolding_all rfl))
        ((with_reducible refine ev_str ?_); intro _)
        ((with_reducible refine' ev_spl ?_ ?qe); (case qe => with_unfolding_all rfl))
        with_reducible refine ev_BinOp ?_
        ((with_reducible refine' ev_Call ?_ ?qe); (case qe => with_unfolding_all rfl))
        ((with_reducible refine' ev_bltn ?qez ?qv ?_ ?qn ?qg ?qb ?qk ?qx ?qd); (case qg => with_unfolding_all rfl); (case qb => with_unfolding_all rfl); (case qk => with_unfolding_all rfl); (case qx => with_unfolding_all rfl); (case qd => decide); (case qn => decide); (case qez => k_is); (case qv => first | boot_fast | boot_by_name))
        ((with_reducible refine' ev_cwB_0 ?_ ?qe ?qp); (case qe => with_unfolding_all rfl); (case qp => with_unfolding_all rfl))
        ((with_reducible refine' ev_spl ?_ ?qe); (case qe => with_unfolding_all rfl))
        ((with_reducible refine' ev_local ?qvz ?_ ?qL ?qk ?qx ?qd); (case qL => with_unfolding_all rfl); (case qk => with_unfolding_all rfl); (case qx => with_unfolding_all rfl); (case qd => decide); (case qvz => walk_at "zlk"))
        with_reducible refine ev_spl0 ?_
        ((with_reducible refine' ev_lenL ?qm ?qo ?qf ?_); (case qm => walk_at "zmem"); (case qo => walk_at "zo"); (case qf => walk_at "zlen"); intro _)
        ((with_reducible refine ev_int ?_); intro _)
        ((with_reducible refine ev_add ?_); intro _)
        with_reducible refine ev_spl0 ?_
        refine ev_newTuple (fun T4 hT4 => ?_) (by simp [sizeLine])
        ((with_reducible refine' ev_spl ?_ ?qe); (case qe => with_unfolding_all rfl))
        with_reducible refine ev_Tuple ?_
        ((with_reducible refine' ev_spl ?_ ?qe); (case qe => with_unfolding_all rfl))
        ((with_reducible refine ev_str ?_); intro _)
        ((with_reducible refine' ev_spl ?_ ?qe); (case qe => with_unfolding_all rfl))
        ((with_reducible refine' ev_Call ?_ ?qe); (case qe => with_unfolding_all rfl))
        ((with_reducible refine' ev_glob ?qez ?_ ?qg ?qk ?qx ?qd); (case qg => with_unfolding_all rfl); (case qk => with_unfolding_all rfl); (case qx => with_unfolding_all rfl); (case qd => decide); (case qez => k_is))
        ((with_reducible refine' ev_cwF_0 ?qk ?_ ?qe ?qp); (case qe => with_unfolding_all rfl); (case qp => with_unfolding_all rfl); (case qk => k_is))
        ((with_reducible refine' ev_spl ?_ ?qe); (case qe => with_unfolding_all rfl))
        ((with_reducible refine' ev_cell ?qc ?qm ?qo ?_ ?qk ?qx ?qd); (case qk => with_unfolding_all rfl); (case qx => with_unfolding_all rfl); (case qd => decide); (case qc => with_unfolding_all rfl); (case qm => walk_at "zmem"); (case qo => assumption))
        ((with_reducible refine' ev_spl ?_ ?qe); (case qe => with_unfolding_all rfl))
        ((with_reducible refine' ev_cell ?qc ?qm ?qo ?_ ?qk ?qx ?qd); (case qk => with_unfolding_all rfl); (case qx => with_unfolding_all rfl); (case qd => decide); (case qc => with_unfolding_all rfl); (case qm => walk_at "zmem"); (case qo => assumption))
        with_reducible refine ev_spl0 ?_
        refine ev_collapse (B := (t, o7) :: (c'.L + 2, os) :: (c'.L + 1, ot) :: ν₁) (base := (c'.L + 2, os) :: (c'.L + 1, ot) :: ν₁) (t := t) (o := o7) (l := rl) (ol := orl) (rs := rows2 r1 hh6 ++ [rGoto (((rows2 r1 hh6).length : Int) + 1)]) (vs := vs6 ++ [Value.ref T4]) (by walk_at "zsub") ?_ fun δ9 hδ9 hr9 => ?_
        · rw [← e6]
          exact (hrs6.mono fun _ _ y => y.mono (KeepT.of fun p hp => mem_of_new ((show ∀ p ∈ δ6, p ∈ _ by walk_at "zsub") p hp) (above_swap (hδ6 p hp)))).snoc (by walk_at "zrow")
        have hX9 : ∀ p ∈ (rl, orl) :: (δ9 ++ ((c'.L + 2, os) :: (c'.L + 1, ot) :: ν₁)), p.1 ≠ t := ne_cons hne6 (ne_app (fun p hp => gtN (hδ9 p hp (t, o7) (.head _))) hct)
        refine c_flowT (ν₁ := (rl, orl) :: (δ9 ++ ((c'.L + 2, os) :: (c'.L + 1, ot) :: ν₁))) (by walk_at "zroom") ho7 (by walk_at "zsub") hX9 hm0 fun re tre o8 re0 re1 ho8 => ?_
        with_reducible refine ev_spl0 ?_
        refine ev_newTuple (fun T5 hT5 => ?_) (by simp [sizeLine])
        with_reducible refine ev_spl0 ?_
        refine ev_newList (fun lT hlT => ?_) (by simp [sizeLine])
        refine ev_addL (a := rl) (by walk_at "zmem") horl (.head _) lstO_mk (by simp [sizeLine]; omega) fun la ola hla hola => ?_
        with_reducible refine then_ret ?_
        refine ⟨(la, ola) :: (t, o8) :: (newOf ((t, o8) :: (c'.L + 2, os) :: (c'.L + 1, ot) :: ν₁) _ ++ ν₁), sub_cons (.head _) (sub_cons (by walk_at "zmem") (sub_app (fun p hp => .tail _ (new_mem hp).1) (by walk_at "zbase"))), h la ola _ (rows3 (rows2 r1 hh6) (some re)) o8 _ ho8 hola ?_ ?_ (fun p hp => ?_) (fun p hp => ?_)⟩
        · refine rows_cast ?_ ?_ ((hr9.mono fun _ _ y => y.mono (KeepT.of fun p hp => mem_of_new ((show ∀ p ∈ δ9, p ∈ _ by walk_at "zsub") p hp) (above_swap (hδ9 p hp)))).snoc (a := rReturn re) (v := .ref T5) (by walk_at "zrow"))
          · unfold rows3; simp only [List.append_assoc, List.cons_append, List.nil_append]
          · simp only [List.append_assoc, List.cons_append, List.nil_append]
        · exact ⟨so1, so2, uu, hh6, some re, by rw [hr1], by omega, by omega, hpl1, hpl2, ⟨u0, u1⟩, hand6, fun r e => by cases e; exact ⟨re0, re1⟩⟩
        · exact above_swap fun q hq => (new_mem hp).2 q (by rcases List.mem_cons.mp hq with rfl | hq; exact .head _; exact .tail _ (.tail _ (.tail _ hq)))
        · rcases List.mem_cons.mp hp with rfl | hp
          · exact ltN' (hla (t, o8) (by walk_at "zmem"))
          · rcases List.mem_append.mp hp with hp | hp
            · exact ltN' (hla p (new_mem hp).1)
            · exact ltN' (hla p ((show ∀ p ∈ ν₁, p ∈ _ by walk_at "zbase") p hp))

/- the plain law: rows -/
def PartIn (B : Int) : Part → Prop
  | .d n => 0 ≤ n ∧ n < B
  | .s n => 0 ≤ n ∧ n < B
  | .m l => l.length ≤ 4 ∧ ∀ n ∈ l, 0 ≤ n ∧ n < B
  | .g n => 0 ≤ n ∧ n < B
  | .x p => PartTxt (.x p)
theorem PartIn.txt {B : Int} {p : Part} (h : PartIn B p) (hB : B ≤ 1900) : PartTxt p := by
  cases p with
  | d n => obtain ⟨a, b⟩ := h; show n.natAbs ≤ 1900; omega
  | s n => obtain ⟨a, b⟩ := h; show n.natAbs ≤ 1900; omega
  | g n => obtain ⟨a, b⟩ := h; show n.natAbs ≤ 1900; omega
  | x p => exact h
  | m l =>
    refine ⟨by rw [List.length_map]; exact h.1, fun a ha => ?_⟩
    obtain ⟨n, hn, rfl⟩ := List.mem_map.mp ha
    obtain ⟨a, b⟩ := h.2 n hn
    show n.natAbs ≤ 1900
    omega
/-- row k of a code of n rows, sl registers, the depths dep -/
structure RowAt (B sl : Int) (n : Nat) (dep : Int → Int) (k : Nat) (r : Row) : Prop where
  good : GoodRow sl n k r
  dep : DepRow dep k r
  five : r.parts.length ≤ 5
  parts : ∀ p ∈ r.parts, PartIn B p
  name : NoNL r.name ∧ r.name.length ≤ 100
theorem depRow_of {dep : Int → Int} {k : Nat} {r : Row} (h1 : r.name ≠ "enter") (h2 : r.name ≠ "leave") (h : ∀ g ∈ fol r k, dep g = dep k) : DepRow dep k r :=
  ⟨fun e => absurd e h1, dep k, .inr (.inl ⟨h1, h2, rfl⟩), fun g hg => by rw [h g hg]; unfold toldAt; rw [if_neg fun e => h1 e.1]⟩
theorem fol_run {r : Row} {k : Nat} (h : isEnd r.name = false) (hg : r.goals = []) : fol r k = [(k : Int) + 1] := by
  unfold fol
  rw [h, hg]
  rfl
/-- a row without goals that runs on -/
theorem run_at {B sl : Int} {n : Nat} {dep : Int → Int} {k : Nat} {nm : Str} {ps : List Part} (h1 : nm ≠ "enter") (h2 : nm ≠ "leave") (he : isEnd nm = false) (hg : Row.goals ⟨nm, ps⟩ = []) (hs : Shaped ⟨nm, ps⟩) (h5 : ps.length ≤ 5) (hm : (Row.uses ⟨nm, ps⟩).length ≤ 900)
    (hr : ∀ x ∈ Row.uses ⟨nm, ps⟩ ++ (Row.sets ⟨nm, ps⟩).toList, 0 ≤ x ∧ x < sl) (hp : ∀ p ∈ ps, PartIn B p) (hn : NoNL nm ∧ nm.length ≤ 100)
    (a : nm = "static" → ∃ d, ps = [.d d, .x (.one (.str "T.1"))]) (b : nm = "capture" → ∃ d, ps = [.d d, .x (.one (.int 0))]) (c : nm = "splat" → ∃ d s a b, ps = [.d d, .s s, .m [a], .x (.tup [b])]) (d : nm = "kwcall" → ∃ d s a b e, ps = [.d d, .s s, .x (.tup [a]), .m [b], .m [e]])
    (hk : k + 1 < n) (hd : dep ((k : Int) + 1) = dep k) : RowAt B sl n dep k ⟨nm, ps⟩ := by
  have hf : fol ⟨nm, ps⟩ k = [(k : Int) + 1] := fol_run he hg
  refine ⟨⟨hs, hm, hr, fun x hx => ?_, a, b, c, d⟩, depRow_of h1 h2 fun g hx => ?_, h5, hp, hn⟩
  · rw [hf, List.mem_singleton] at hx
    subst hx
    omega
  · rw [hf, List.mem_singleton] at hx
    subst hx
    exact hd
theorem alln {α : Type} {Q : α → Prop} : ∀ p ∈ ([] : List α), Q p := fun _ h => nomatch h
theorem allc {α : Type} {Q : α → Prop} {a : α} {l : List α} (h : Q a) (t : ∀ p ∈ l, Q p) : ∀ p ∈ a :: l, Q p := fun p hp => by
  rcases List.mem_cons.mp hp with rfl | hp
  · exact h
  · exact t p hp
theorem shaped_of {nm : Str} {ps : List Part} (l : List Nat) (h : shapesL.lookup nm = some ⟨l.toArray⟩) (h' : ps.map Part.letter = l) : Shaped ⟨nm, ps⟩ := by
  show shapesL.lookup nm = some ⟨(ps.map Part.letter).toArray⟩
  rw [h', h]
theorem plain_at {B sl : Int} {n : Nat} {dep : Int → Int} {k : Nat} {r : Row} (hr : Plain sl r) (hB : sl ≤ B) (hk : k + 1 < n) (hd : dep ((k : Int) + 1) = dep k) : RowAt B sl n dep k r := by
  obtain ⟨x, y, z, hr, hx, hy, hz⟩ := hr
  have hx' : 0 ≤ x ∧ x < B := by omega
  have hy' : 0 ≤ y ∧ y < B := by omega
  have hz' : 0 ≤ z ∧ z < B := by omega
  unfold plainRows at hr
  simp only [List.mem_cons, List.not_mem_nil, or_false] at hr
  rcases hr with rfl | rfl | rfl | rfl | rfl | rfl | rfl | rfl | rfl | rfl | rfl | rfl | rfl | rfl
  · exact run_at (by decide +kernel) (by decide +kernel) (by decide +kernel) rfl (shaped_of [100,120] (by decide +kernel) rfl) (by simp) (by simp [Row.uses, usesP]) (show ∀ n ∈ [x], 0 ≤ n ∧ n < sl from (allc hx alln)) (allc hx' (allc ⟨by simp, allc (.inl rfl) (allc trivial alln)⟩ alln)) ⟨by unfold NoNL; decide +kernel, by decide +kernel⟩ (fun h => absurd h (by decide +kernel)) (fun h => absurd h (by decide +kernel)) (fun h => absurd h (by decide +kernel)) (fun h => absurd h (by decide +kernel)) hk hd
  · exact run_at (by decide +kernel) (by decide +kernel) (by decide +kernel) rfl (shaped_of [100,115] (by decide +kernel) rfl) (by simp) (by simp [Row.uses, usesP]) (show ∀ n ∈ [y, x], 0 ≤ n ∧ n < sl from (allc hy (allc hx alln))) (allc hx' (allc hy' alln)) ⟨by unfold NoNL; decide +kernel, by decide +kernel⟩ (fun h => absurd h (by decide +kernel)) (fun h => absurd h (by decide +kernel)) (fun h => absurd h (by decide +kernel)) (fun h => absurd h (by decide +kernel)) hk hd
  · exact run_at (by decide +kernel) (by decide +kernel) (by decide +kernel) rfl (shaped_of [100,115,109] (by decide +kernel) rfl) (by simp) (by simp [Row.uses, usesP]) (show ∀ n ∈ [y, z, z, x, x], 0 ≤ n ∧ n < sl from (allc hy (allc hz (allc hz (allc hx (allc hx alln)))))) (allc hx' (allc hy' (allc ⟨by simp, (allc hz' (allc hz' (allc hx' alln)))⟩ alln))) ⟨by unfold NoNL; decide +kernel, by decide +kernel⟩ (fun h => absurd h (by decide +kernel)) (fun h => absurd h (by decide +kernel)) (fun h => absurd h (by decide +kernel)) (fun h => absurd h (by decide +kernel)) hk hd
  · exact run_at (by decide +kernel) (by decide +kernel) (by decide +kernel) rfl (shaped_of [100] (by decide +kernel) rfl) (by simp) (by simp [Row.uses, usesP]) (show ∀ n ∈ [x], 0 ≤ n ∧ n < sl from (allc hx alln)) (allc hx' alln) ⟨by unfold NoNL; decide +kernel, by decide +kernel⟩ (fun h => absurd h (by decide +kernel)) (fun h => absurd h (by decide +kernel)) (fun h => absurd h (by decide +kernel)) (fun h => absurd h (by decide +kernel)) hk hd
  · exact run_at (by decide +kernel) (by decide +kernel) (by decide +kernel) rfl (shaped_of [115,115] (by decide +kernel) rfl) (by simp) (by simp [Row.uses, usesP]) (show ∀ n ∈ [x, y], 0 ≤ n ∧ n < sl from (allc hx (allc hy alln))) (allc hx' (allc hy' alln)) ⟨by unfold NoNL; decide +kernel, by decide +kernel⟩ (fun h => absurd h (by decide +kernel)) (fun h => absurd h (by decide +kernel)) (fun h => absurd h (by decide +kernel)) (fun h => absurd h (by decide +kernel)) hk hd
  · exact run_at (by decide +kernel) (by decide +kernel) (by decide +kernel) rfl (shaped_of [100,115,120] (by decide +kernel) rfl) (by simp) (by simp [Row.uses, usesP]) (show ∀ n ∈ [y, x], 0 ≤ n ∧ n < sl from (allc hy (allc hx alln))) (allc hx' (allc hy' (allc ⟨by unfold NoNL; decide +kernel, by decide +kernel⟩ alln))) ⟨by unfold NoNL; decide +kernel, by decide +kernel⟩ (fun h => absurd h (by decide +kernel)) (fun h => absurd h (by decide +kernel)) (fun h => absurd h (by decide +kernel)) (fun h => absurd h (by decide +kernel)) hk hd
  · exact run_at (by decide +kernel) (by decide +kernel) (by decide +kernel) rfl (shaped_of [100] (by decide +kernel) rfl) (by simp) (by simp [Row.uses, usesP]) (show ∀ n ∈ [x], 0 ≤ n ∧ n < sl from (allc hx alln)) (allc hx' alln) ⟨by unfold NoNL; decide +kernel, by decide +kernel⟩ (fun h => absurd h (by decide +kernel)) (fun h => absurd h (by decide +kernel)) (fun h => absurd h (by decide +kernel)) (fun h => absurd h (by decide +kernel)) hk hd
  · exact run_at (by decide +kernel) (by decide +kernel) (by decide +kernel) rfl (shaped_of [100,120] (by decide +kernel) rfl) (by simp) (by simp [Row.uses, usesP]) (show ∀ n ∈ [x], 0 ≤ n ∧ n < sl from (allc hx alln)) (allc hx' (allc (show Int.natAbs 0 ≤ 1900 by decide) alln)) ⟨by unfold NoNL; decide +kernel, by decide +kernel⟩ (fun h => absurd h (by decide +kernel)) (fun _ => ⟨_, rfl⟩) (fun h => absurd h (by decide +kernel)) (fun h => absurd h (by decide +kernel)) hk hd
  · exact run_at (by decide +kernel) (by decide +kernel) (by decide +kernel) rfl (shaped_of [100,120] (by decide +kernel) rfl) (by simp) (by simp [Row.uses, usesP]) (show ∀ n ∈ [x], 0 ≤ n ∧ n < sl from (allc hx alln)) (allc hx' (allc ⟨by unfold NoNL; decide +kernel, by decide +kernel⟩ alln)) ⟨by unfold NoNL; decide +kernel, by decide +kernel⟩ (fun _ => ⟨_, rfl⟩) (fun h => absurd h (by decide +kernel)) (fun h => absurd h (by decide +kernel)) (fun h => absurd h (by decide +kernel)) hk hd
  · exact run_at (by decide +kernel) (by decide +kernel) (by decide +kernel) rfl (shaped_of [100,115,109,120] (by decide +kernel) rfl) (by simp) (by simp [Row.uses, usesP]) (show ∀ n ∈ [y, z, x], 0 ≤ n ∧ n < sl from (allc hy (allc hz (allc hx alln)))) (allc hx' (allc hy' (allc ⟨by simp, (allc hz' alln)⟩ (allc ⟨by simp, allc trivial alln⟩ alln)))) ⟨by unfold NoNL; decide +kernel, by decide +kernel⟩ (fun h => absurd h (by decide +kernel)) (fun h => absurd h (by decide +kernel)) (fun _ => ⟨_, _, _, _, rfl⟩) (fun h => absurd h (by decide +kernel)) hk hd
  · exact run_at (by decide +kernel) (by decide +kernel) (by decide +kernel) rfl (shaped_of [115,120] (by decide +kernel) rfl) (by simp) (by simp [Row.uses, usesP]) (show ∀ n ∈ [x], 0 ≤ n ∧ n < sl from (allc hx alln)) (allc hx' (allc ⟨by unfold NoNL; decide +kernel, by decide +kernel⟩ alln)) ⟨by unfold NoNL; decide +kernel, by decide +kernel⟩ (fun h => absurd h (by decide +kernel)) (fun h => absurd h (by decide +kernel)) (fun h => absurd h (by decide +kernel)) (fun h => absurd h (by decide +kernel)) hk hd
  · exact run_at (by decide +kernel) (by decide +kernel) (by decide +kernel) rfl (shaped_of [100,115,120,109,109] (by decide +kernel) rfl) (by simp) (by simp [Row.uses, usesP]) (show ∀ n ∈ [y, z, x, x], 0 ≤ n ∧ n < sl from (allc hy (allc hz (allc hx (allc hx alln))))) (allc hx' (allc hy' (allc ⟨by simp, allc (.inr (.inr rfl)) alln⟩ (allc ⟨by simp, (allc hz' alln)⟩ (allc ⟨by simp, (allc hx' alln)⟩ alln))))) ⟨by unfold NoNL; decide +kernel, by decide +kernel⟩ (fun h => absurd h (by decide +kernel)) (fun h => absurd h (by decide +kernel)) (fun h => absurd h (by decide +kernel)) (fun _ => ⟨_, _, _, _, _, rfl⟩) hk hd
  · exact run_at (by decide +kernel) (by decide +kernel) (by decide +kernel) rfl (shaped_of [100,120,109] (by decide +kernel) rfl) (by simp) (by simp [Row.uses, usesP]) (show ∀ n ∈ [y, z, x], 0 ≤ n ∧ n < sl from (allc hy (allc hz (allc hx alln)))) (allc hx' (allc (show Int.natAbs 5 ≤ 1900 by decide) (allc ⟨by simp, (allc hy' (allc hz' alln))⟩ alln))) ⟨by unfold NoNL; decide +kernel, by decide +kernel⟩ (fun h => absurd h (by decide +kernel)) (fun h => absurd h (by decide +kernel)) (fun h => absurd h (by decide +kernel)) (fun h => absurd h (by decide +kernel)) hk hd
  · exact run_at (by decide +kernel) (by decide +kernel) (by decide +kernel) rfl (shaped_of [100,120,109] (by decide +kernel) rfl) (by simp) (by simp [Row.uses, usesP]) (show ∀ n ∈ [y, z, x], 0 ≤ n ∧ n < sl from (allc hy (allc hz (allc hx alln)))) (allc hx' (allc ⟨by unfold NoNL; decide +kernel, by decide +kernel⟩ (allc ⟨by simp, (allc hy' (allc hz' alln))⟩ alln))) ⟨by unfold NoNL; decide +kernel, by decide +kernel⟩ (fun h => absurd h (by decide +kernel)) (fun h => absurd h (by decide +kernel)) (fun h => absurd h (by decide +kernel)) (fun h => absurd h (by decide +kernel)) hk hd

/- special rows -/
section
variable {B sl : Int} {n : Nat} {dep : Int → Int} {k : Nat}
theorem unless_at {u g : Int} (hu : 0 ≤ u ∧ u < sl) (hB : sl ≤ B) (hg : 0 ≤ g ∧ g < n) (hn : (n : Int) ≤ B) (hk : k + 1 < n) (h1 : dep ((k : Int) + 1) = dep k) (h2 : dep g = dep k) : RowAt B sl n dep k (rUnless u g) := by
  refine ⟨⟨shaped_of [115, 103] (by decide +kernel) rfl, by simp [Row.uses, usesP, rUnless], (show ∀ x ∈ [u], 0 ≤ x ∧ x < sl from allc hu alln), (show ∀ x ∈ [(k : Int) + 1, g], 0 ≤ x ∧ x < n from allc (by omega) (allc hg alln)), (fun h => absurd (show ("unless" : Str) = "static" from h) (by decide +kernel)), (fun h => absurd (show ("unless" : Str) = "capture" from h) (by decide +kernel)), (fun h => absurd (show ("unless" : Str) = "splat" from h) (by decide +kernel)), (fun h => absurd (show ("unless" : Str) = "kwcall" from h) (by decide +kernel))⟩,
    depRow_of (show ("unless" : Str) ≠ "enter" by decide +kernel) (show ("unless" : Str) ≠ "leave" by decide +kernel) (show ∀ x ∈ [(k : Int) + 1, g], dep x = dep k from allc h1 (allc h2 alln)), by simp [rUnless], allc (by show 0 ≤ u ∧ u < B; omega) (allc (by show 0 ≤ g ∧ g < B; omega) alln), ⟨show NoNL "unless" by unfold NoNL; decide +kernel, show ("unless" : Str).length ≤ 100 by decide +kernel⟩⟩
theorem enter_at {g : Int} (hg : 0 ≤ g ∧ g < n) (hn : (n : Int) ≤ B) (hk : k + 1 < n) (hgk : g ≠ (k : Int) + 1) (h1 : dep ((k : Int) + 1) = dep k + 1) (h2 : dep g = dep k) : RowAt B sl n dep k (rEnter g) := by
  refine ⟨⟨shaped_of [103] (by decide +kernel) rfl, by simp [Row.uses, usesP, rEnter], (show ∀ x ∈ ([] : List Int), 0 ≤ x ∧ x < sl from alln), (show ∀ x ∈ [(k : Int) + 1, g], 0 ≤ x ∧ x < n from allc (by omega) (allc hg alln)), (fun h => absurd (show ("enter" : Str) = "static" from h) (by decide +kernel)), (fun h => absurd (show ("enter" : Str) = "capture" from h) (by decide +kernel)), (fun h => absurd (show ("enter" : Str) = "splat" from h) (by decide +kernel)), (fun h => absurd (show ("enter" : Str) = "kwcall" from h) (by decide +kernel))⟩,
    ⟨fun _ => ⟨g, rfl⟩, dep k + 1, .inl ⟨rfl, rfl⟩, (show ∀ x ∈ [(k : Int) + 1, g], dep x = toldAt (rEnter g) k (dep k) (dep k + 1) x from allc ?_ (allc ?_ alln))⟩, by simp [rEnter], allc (by show 0 ≤ g ∧ g < B; omega) alln, ⟨show NoNL "enter" by unfold NoNL; decide +kernel, show ("enter" : Str).length ≤ 100 by decide +kernel⟩⟩
  · unfold toldAt
    rw [if_neg (fun e => e.2.2 rfl), h1]
  · unfold toldAt
    rw [if_pos ⟨rfl, rfl, hgk⟩, h2]
theorem leave_at (hk : k + 1 < n) (h0 : 1 ≤ dep k) (h1 : dep ((k : Int) + 1) = dep k - 1) : RowAt B sl n dep k rLeave := by
  refine ⟨⟨shaped_of [120] (by decide +kernel) rfl, by simp [Row.uses, usesP, rLeave], (show ∀ x ∈ ([] : List Int), 0 ≤ x ∧ x < sl from alln), (show ∀ x ∈ [(k : Int) + 1], 0 ≤ x ∧ x < n from allc (by omega) alln), (fun h => absurd h (by decide +kernel)), (fun h => absurd h (by decide +kernel)), (fun h => absurd h (by decide +kernel)), (fun h => absurd h (by decide +kernel))⟩,
    ⟨(fun h => absurd h (by decide +kernel)), dep k - 1, .inr (.inr ⟨rfl, 1, rfl, by decide, h0, rfl⟩), (show ∀ x ∈ [(k : Int) + 1], dep x = toldAt rLeave k (dep k) (dep k - 1) x from allc ?_ alln)⟩, by simp [rLeave], allc (show (1 : Int).natAbs ≤ 1900 by decide) alln, ⟨by unfold NoNL; decide +kernel, by decide +kernel⟩⟩
  unfold toldAt
  rw [if_neg (fun e => absurd e.1 (by decide +kernel)), h1]
theorem goto_at {g : Int} (hg : 0 ≤ g ∧ g < n) (hn : (n : Int) ≤ B) (h2 : dep g = dep k) : RowAt B sl n dep k (rGoto g) := by
  have hf : fol (rGoto g) k = [g] := by
    unfold fol
    rw [show isEnd (rGoto g).name = true from (show isEnd "goto" = true by decide +kernel)]
    rfl
  refine ⟨⟨shaped_of [103] (by decide +kernel) rfl, by simp [Row.uses, usesP, rGoto], (show ∀ x ∈ ([] : List Int), 0 ≤ x ∧ x < sl from alln), ?_, (fun h => absurd (show ("goto" : Str) = "static" from h) (by decide +kernel)), (fun h => absurd (show ("goto" : Str) = "capture" from h) (by decide +kernel)), (fun h => absurd (show ("goto" : Str) = "splat" from h) (by decide +kernel)), (fun h => absurd (show ("goto" : Str) = "kwcall" from h) (by decide +kernel))⟩,
    depRow_of (show ("goto" : Str) ≠ "enter" by decide +kernel) (show ("goto" : Str) ≠ "leave" by decide +kernel) ?_, by simp [rGoto], allc (by show 0 ≤ g ∧ g < B; omega) alln, ⟨show NoNL "goto" by unfold NoNL; decide +kernel, show ("goto" : Str).length ≤ 100 by decide +kernel⟩⟩
  · rw [hf]; exact allc hg alln
  · rw [hf]; exact allc h2 alln
theorem caught_at {d : Int} (hd : 0 ≤ d ∧ d < sl) (hB : sl ≤ B) (hk : k + 1 < n) (h1 : dep ((k : Int) + 1) = dep k) : RowAt B sl n dep k (rCaught d) :=
  run_at (by decide +kernel) (by decide +kernel) (by decide +kernel) rfl (shaped_of [100] (by decide +kernel) rfl) (by simp) (by simp [Row.uses, usesP]) (show ∀ n ∈ [d], 0 ≤ n ∧ n < sl from allc hd alln) (allc (by show 0 ≤ d ∧ d < B; omega) alln) ⟨by unfold NoNL; decide +kernel, by decide +kernel⟩ (fun h => absurd h (by decide +kernel)) (fun h => absurd h (by decide +kernel)) (fun h => absurd h (by decide +kernel)) (fun h => absurd h (by decide +kernel)) hk h1
theorem return_at {s : Int} (hs : 0 ≤ s ∧ s < sl) (hB : sl ≤ B) : RowAt B sl n dep k (rReturn s) := by
  have hf : fol (rReturn s) k = [] := by
    unfold fol
    rw [show isEnd (rReturn s).name = true from (show isEnd "return" = true by decide +kernel)]
    rfl
  refine ⟨⟨shaped_of [115] (by decide +kernel) rfl, by simp [Row.uses, usesP, rReturn], (show ∀ x ∈ [s], 0 ≤ x ∧ x < sl from allc hs alln), ?_, (fun h => absurd (show ("return" : Str) = "static" from h) (by decide +kernel)), (fun h => absurd (show ("return" : Str) = "capture" from h) (by decide +kernel)), (fun h => absurd (show ("return" : Str) = "splat" from h) (by decide +kernel)), (fun h => absurd (show ("return" : Str) = "kwcall" from h) (by decide +kernel))⟩,
    depRow_of (show ("return" : Str) ≠ "enter" by decide +kernel) (show ("return" : Str) ≠ "leave" by decide +kernel) ?_, by simp [rReturn], allc (by show 0 ≤ s ∧ s < B; omega) alln, ⟨show NoNL "return" by unfold NoNL; decide +kernel, show ("return" : Str).length ≤ 100 by decide +kernel⟩⟩
  · rw [hf]; exact alln
  · rw [hf]; exact alln
end
/-- all rows of a piece that begins at k -/
def AllAt (Q : Nat → Row → Prop) (k : Nat) (l : List Row) : Prop := ∀ j r, l[j]? = some r → Q (k + j) r
theorem AllAt.nil {Q : Nat → Row → Prop} {k : Nat} : AllAt Q k [] := fun j r e => by simp at e
theorem AllAt.cons {Q : Nat → Row → Prop} {k : Nat} {r : Row} {l : List Row} (h : Q k r) (t : AllAt Q (k + 1) l) : AllAt Q k (r :: l) := fun j r' e => by
  cases j with
  | zero => cases e; exact h
  | succ j => have := t j r' e; rwa [Nat.add_assoc, Nat.add_comm 1 j] at this
theorem AllAt.app {Q : Nat → Row → Prop} {k : Nat} {a b : List Row} (h : AllAt Q k a) (t : AllAt Q (k + a.length) b) : AllAt Q k (a ++ b) := fun j r e => by
  by_cases hj : j < a.length
  · rw [List.getElem?_append_left hj] at e
    exact h j r e
  · rw [List.getElem?_append_right (by omega)] at e
    have := t _ r e
    rwa [Nat.add_assoc, Nat.add_sub_cancel' (by omega)] at this
theorem AllAt.of {Q : Nat → Row → Prop} {k : Nat} {l : List Row} (h : ∀ j, k ≤ j → j < k + l.length → ∀ r ∈ l, Q j r) : AllAt Q k l := fun j r e =>
  h _ (Nat.le_add_right _ _) (Nat.add_lt_add_left (List.getElem?_eq_some_iff.mp e).1 k) r (List.mem_of_getElem? e)
/-- a code that law 02 builds, ready -/
structure Ready (B sl : Int) (dep : Int → Int) (rs : List Row) : Prop where
  rows : AllAt (RowAt B sl rs.length dep) 0 rs
  any : 0 < rs.length
  short : (rs.length : Int) ≤ B
  start : dep 0 = 0
def depOf (at' : Option Nat) (g : Int) : Int := match at' with
  | none => 0
  | some a => if g = (a : Int) + 1 ∨ g = (a : Int) + 2 then 1 else 0
theorem depOf_out {a : Nat} {g : Int} (h : g ≤ a ∨ (a : Int) + 3 ≤ g) : depOf (some a) g = 0 := by
  unfold depOf
  simp only
  rw [if_neg (by omega)]
theorem depOf_in {a : Nat} {g : Int} (h : g = (a : Int) + 1 ∨ g = (a : Int) + 2) : depOf (some a) g = 1 := by
  unfold depOf
  simp only
  rw [if_pos h]
theorem rows1_at {B sl : Int} {n : Nat} {dep : Int → Int} {so ov : List Row} {u : Int} (hso : ∀ r ∈ so, Plain sl r) (hov : ∀ r ∈ ov, Plain sl r) (hu : 0 ≤ u ∧ u < sl) (hB : sl ≤ B) (hn : (n : Int) ≤ B) (hl : (rows1 so ov u).length < n) (hd : ∀ g : Int, 0 ≤ g → g ≤ (rows1 so ov u).length → dep g = 0) : AllAt (RowAt B sl n dep) 0 (rows1 so ov u) := by
  have e : (rows1 so ov u).length = so.length + 1 + ov.length := by unfold rows1; simp; omega
  rw [e] at hl hd
  unfold rows1
  refine (AllAt.app (.of fun j h0 h1 r hr => ?_) (.cons ?_ .nil)).app (.of fun j h0 h1 r hr => ?_)
  · exact plain_at (hso r hr) hB (by omega) (by rw [hd _ (by omega) (by omega), hd _ (by omega) (by omega)])
  · exact unless_at hu hB (by omega) hn (by omega) (by rw [hd _ (by omega) (by omega), hd _ (by omega) (by omega)]) (by rw [hd _ (by omega) (by omega), hd _ (by omega) (by omega)])
  · simp only [List.length_append, List.length_singleton] at h0 h1
    exact plain_at (hov r hr) hB (by omega) (by rw [hd _ (by omega) (by omega), hd _ (by omega) (by omega)])

theorem AllAt.app' {Q : Nat → Row → Prop} {k k' : Nat} {a b : List Row} (h : AllAt Q k a) (e : k + a.length = k') (t : AllAt Q k' b) : AllAt Q k (a ++ b) := h.app (e ▸ t)
theorem rows1_len {so ov : List Row} {u : Int} : (rows1 so ov u).length = so.length + 1 + ov.length := by unfold rows1; simp; omega
theorem built_ready {B sl : Int} {rs : List Row} (h : Built sl rs) (hB : sl ≤ B) (h13 : 13 ≤ B) : ∃ dep, Ready B sl dep rs := by
  obtain ⟨so, ov, u, hh, e, rfl, l1, l2, p1, p2, hu, hand, he⟩ := h.is
  have len := @rows1_len so ov u
  obtain ⟨r1, hr1⟩ : ∃ r, r = rows1 so ov u := ⟨_, rfl⟩
  have base : ∀ (n : Nat) (dep : Int → Int), (n : Int) ≤ B → r1.length < n → (∀ g : Int, 0 ≤ g → g ≤ r1.length → dep g = 0) → AllAt (RowAt B sl n dep) 0 r1 := by
    rw [hr1]
    exact fun n dep a b c => rows1_at p1 p2 hu hB a b c
  rw [← hr1] at len ⊢
  clear hr1
  cases hh with
  | none =>
    show ∃ dep, Ready B sl dep (rows3 r1 e)
    cases e with
    | none =>
      have n : (r1 ++ [rGoto 0]).length = r1.length + 1 := by simp
      refine ⟨depOf none, ?_, ?_, ?_, rfl⟩
      · show AllAt (RowAt B sl (r1 ++ [rGoto 0]).length (depOf none)) 0 (r1 ++ [rGoto 0])
        rw [n]
        exact (base _ _ (by omega) (by omega) fun _ _ _ => rfl).app' (Nat.zero_add _) (.cons (goto_at (by omega) (by omega) rfl) .nil)
      · show 0 < (r1 ++ [rGoto 0]).length
        omega
      · show ((r1 ++ [rGoto 0]).length : Int) ≤ B
        omega
    | some r =>
      have n : (r1 ++ [rGoto ((r1.length : Int) + 1), rReturn r]).length = r1.length + 2 := by simp
      refine ⟨depOf none, ?_, ?_, ?_, rfl⟩
      · show AllAt (RowAt B sl (r1 ++ [rGoto ((r1.length : Int) + 1), rReturn r]).length (depOf none)) 0 (r1 ++ [rGoto ((r1.length : Int) + 1), rReturn r])
        rw [n]
        exact (base _ _ (by omega) (by omega) fun _ _ _ => rfl).app' (Nat.zero_add _) (.cons (goto_at (by omega) (by omega) rfl) (.cons (return_at (he r rfl) hB) .nil))
      · show 0 < (r1 ++ [rGoto ((r1.length : Int) + 1), rReturn r]).length
        omega
      · show ((r1 ++ [rGoto ((r1.length : Int) + 1), rReturn r]).length : Int) ≤ B
        omega
  | some q =>
    obtain ⟨i, ca⟩ := q
    have pi := hand.row i ca rfl
    have pc := hand.reg i ca rfl
    obtain ⟨r2, hr2⟩ : ∃ r, r = r1 ++ [rEnter ((r1.length : Int) + 4)] ++ [i] ++ [rLeave, rGoto ((r1.length : Int) + 5), rCaught ca] := ⟨_, rfl⟩
    have e2 : r2.length = r1.length + 5 := by rw [hr2]; simp
    have two : ∀ n : Nat, (n : Int) ≤ B → r1.length + 5 < n → AllAt (RowAt B sl n (depOf (some r1.length))) 0 r2 := by
      intro n hn hl
      rw [hr2]
      refine (((base n _ hn (by omega) fun g g0 g1 => depOf_out (.inl g1)).app' (Nat.zero_add _) (.cons (enter_at (by omega) hn (by omega) (by omega) ?_ ?_) .nil)).app' (k' := r1.length + 1) (by simp) (.cons (plain_at pi hB (by omega) ?_) .nil)).app' (k' := r1.length + 2) (by simp)
        (.cons (leave_at (by omega) ?_ ?_) (.cons (goto_at (by omega) hn ?_) (.cons (caught_at pc hB (by omega) ?_) .nil)))
      · rw [depOf_in (.inl rfl), depOf_out (.inl (by omega))]; rfl
      · rw [depOf_out (.inr (by omega)), depOf_out (.inl (by omega))]
      · rw [depOf_in (.inr (by omega)), depOf_in (.inl (by omega))]
      · rw [depOf_in (.inr (by omega))]; decide
      · rw [depOf_out (.inr (by omega)), depOf_in (.inr (by omega))]; rfl
      · rw [depOf_out (.inr (by omega)), depOf_out (.inr (by omega))]
      · rw [depOf_out (.inr (by omega)), depOf_out (.inr (by omega))]
    have z : depOf (some r1.length) 0 = 0 := depOf_out (.inl (by omega))
    show ∃ dep, Ready B sl dep (rows3 (r1 ++ [rEnter ((r1.length : Int) + 4)] ++ [i] ++ [rLeave, rGoto ((r1.length : Int) + 5), rCaught ca]) e)
    rw [← hr2]
    cases e with
    | none =>
      have n : (r2 ++ [rGoto 0]).length = r1.length + 6 := by simp [e2]
      refine ⟨depOf (some r1.length), ?_, ?_, ?_, z⟩
      · show AllAt (RowAt B sl (r2 ++ [rGoto 0]).length (depOf (some r1.length))) 0 (r2 ++ [rGoto 0])
        rw [n]
        exact (two _ (by omega) (by omega)).app' (by rw [Nat.zero_add, e2]) (.cons (goto_at (by omega) (by omega) (by rw [z, depOf_out (.inr (by omega))])) .nil)
      · show 0 < (r2 ++ [rGoto 0]).length
        omega
      · show ((r2 ++ [rGoto 0]).length : Int) ≤ B
        omega
    | some r =>
      have n : (r2 ++ [rGoto ((r2.length : Int) + 1), rReturn r]).length = r1.length + 7 := by simp [e2]
      refine ⟨depOf (some r1.length), ?_, ?_, ?_, z⟩
      · show AllAt (RowAt B sl (r2 ++ [rGoto ((r2.length : Int) + 1), rReturn r]).length (depOf (some r1.length))) 0 (r2 ++ [rGoto ((r2.length : Int) + 1), rReturn r])
        rw [n]
        exact (two _ (by omega) (by omega)).app' (by rw [Nat.zero_add, e2]) (.cons (goto_at (by omega) (by omega) (by rw [depOf_out (.inr (by omega)), depOf_out (.inr (by omega))])) (.cons (return_at (he r rfl) hB) .nil))
      · show 0 < (r2 ++ [rGoto ((r2.length : Int) + 1), rReturn r]).length
        omega
      · show ((r2 ++ [rGoto ((r2.length : Int) + 1), rReturn r]).length : Int) ≤ B
        omega

/- turned codes -/
section
variable {F G : Int → Int} {r : Row}
theorem turn_uses : (r.turn F G).uses = r.uses.map F := by
  obtain ⟨nm, ps⟩ := r
  show (ps.map (turnP F G)).flatMap usesP = (ps.flatMap usesP).map F
  induction ps with
  | nil => rfl
  | cons p ps ih =>
    rw [List.map_cons, List.flatMap_cons, ih, List.flatMap_cons, List.map_append]
    cases p <;> rfl
theorem turn_goals : (r.turn F G).goals = r.goals.map G := by
  obtain ⟨nm, ps⟩ := r
  show (ps.map (turnP F G)).flatMap goalsP = (ps.flatMap goalsP).map G
  induction ps with
  | nil => rfl
  | cons p ps ih =>
    rw [List.map_cons, List.flatMap_cons, ih, List.flatMap_cons, List.map_append]
    cases p <;> rfl
theorem turn_sets : (r.turn F G).sets = r.sets.map F := by
  obtain ⟨nm, ps⟩ := r
  cases ps with
  | nil => rfl
  | cons p ps => cases p <;> rfl
theorem turn_shaped (h : Shaped r) : Shaped (r.turn F G) := by
  obtain ⟨nm, ps⟩ := r
  refine shaped_of _ h ?_
  rw [List.map_map]
  refine List.map_congr_left fun p _ => ?_
  cases p <;> rfl
theorem turn_turn {F' G' : Int → Int} (hF : ∀ n, F' (F n) = n) (hG : ∀ n, G' (G n) = n) : (r.turn F G).turn F' G' = r := by
  obtain ⟨nm, ps⟩ := r
  show Row.mk nm ((ps.map (turnP F G)).map (turnP F' G')) = _
  rw [List.map_map]
  congr 1
  refine (List.map_congr_left fun p _ => ?_).trans (List.map_id _)
  cases p with
  | d n => exact congrArg Part.d (hF n)
  | s n => exact congrArg Part.s (hF n)
  | g n => exact congrArg Part.g (hG n)
  | x p => rfl
  | m l =>
    show Part.m ((l.map F).map F') = Part.m l
    rw [List.map_map]
    congr 1
    exact (List.map_congr_left fun n _ => hF n).trans (List.map_id _)
end
def depUp (dep : Int → Int) (more : Nat) (g : Int) : Int := if g < more then 0 else dep (g - more)
theorem depUp_add {dep : Int → Int} {more : Nat} {g : Int} (h : 0 ≤ g) : depUp dep more (g + more) = dep g := by
  unfold depUp
  rw [if_neg (by omega), Int.add_sub_cancel]
theorem depUp_low {dep : Int → Int} {more : Nat} {g : Int} (h : g < more) : depUp dep more g = 0 := by
  unfold depUp
  rw [if_pos h]
theorem fol_turn {F : Int → Int} {r : Row} {k more : Nat} : fol (r.turn F (· + (more : Int))) (k + more) = (fol r k).map (· + (more : Int)) := by
  unfold fol
  rw [turn_goals, List.map_append]
  show (if isEnd r.name = true then [] else _) ++ _ = _
  cases isEnd r.name with
  | true => rfl
  | false =>
    show [((k + more : Nat) : Int) + 1] ++ _ = [(k : Int) + 1 + more] ++ _
    rw [show ((k + more : Nat) : Int) + 1 = (k : Int) + 1 + more by omega]
theorem turn_at {B sl : Int} {n : Nat} {dep : Int → Int} {k : Nat} {r : Row} {more : Nat} {below : Int} (h : RowAt B sl n dep k r) (hb : 0 ≤ below) (hb' : below ≤ 10) (hm : more ≤ 10) :
    RowAt (B + 10) (sl + below) (n + more) (depUp dep more) (k + more) (r.turn (· + below) (· + (more : Int))) := by
  obtain ⟨⟨g1, g2, g3, g4, g5, g6, g7, g8⟩, ⟨d1, e, d2, d3⟩, h5, hp, hn⟩ := h
  have hk : depUp dep more ((k + more : Nat) : Int) = dep k := by rw [show ((k + more : Nat) : Int) = (k : Int) + more by omega]; exact depUp_add (by omega)
  refine ⟨⟨turn_shaped g1, by rw [turn_uses, List.length_map]; exact g2, fun x hx => ?_, fun x hx => ?_, fun q => ?_, fun q => ?_, fun q => ?_, fun q => ?_⟩, ⟨fun q => ?_, e, ?_, fun g hg => ?_⟩, by show (r.parts.map _).length ≤ 5; rw [List.length_map]; exact h5, fun p hx => ?_, hn⟩
  · rw [turn_uses, turn_sets] at hx
    have : ∃ y ∈ r.uses ++ r.sets.toList, x = y + below := by
      rcases List.mem_append.mp hx with hx | hx
      · obtain ⟨y, hy, rfl⟩ := List.mem_map.mp hx
        exact ⟨y, List.mem_append_left _ hy, rfl⟩
      · cases hs : r.sets with
        | none => rw [hs] at hx; cases hx
        | some y =>
          rw [hs] at hx
          exact ⟨y, List.mem_append_right _ (.head _), List.mem_singleton.mp hx⟩
    obtain ⟨y, hy, rfl⟩ := this
    have := g3 y hy
    omega
  · rw [fol_turn] at hx
    obtain ⟨y, hy, rfl⟩ := List.mem_map.mp hx
    have := g4 y hy
    omega
  · obtain ⟨d, e⟩ := g5 q
    exact ⟨d + below, by show r.parts.map _ = _; rw [e]; rfl⟩
  · obtain ⟨d, e⟩ := g6 q
    exact ⟨d + below, by show r.parts.map _ = _; rw [e]; rfl⟩
  · obtain ⟨d, s, a, b, e⟩ := g7 q
    exact ⟨d + below, s + below, a + below, b, by show r.parts.map _ = _; rw [e]; rfl⟩
  · obtain ⟨d, s, a, b, x, e⟩ := g8 q
    exact ⟨d + below, s + below, a, b + below, x + below, by show r.parts.map _ = _; rw [e]; rfl⟩
  · obtain ⟨d, e⟩ := d1 q
    exact ⟨d + more, by show r.parts.map _ = _; rw [e]; rfl⟩
  · rw [hk]
    rcases d2 with q | q | ⟨q, x, e1, q'⟩
    · exact .inl q
    · exact .inr (.inl q)
    · exact .inr (.inr ⟨q, x, by show r.parts.map _ = _; rw [e1]; rfl, q'⟩)
  · rw [fol_turn] at hg
    obtain ⟨y, hy, rfl⟩ := List.mem_map.mp hg
    have q := g4 y hy
    rw [depUp_add q.1, hk, d3 y hy]
    unfold toldAt
    rw [turn_goals]
    show (if r.name = "enter" ∧ r.goals = [y] ∧ _ then _ else _) = if r.name = "enter" ∧ r.goals.map _ = [y + (more : Int)] ∧ _ then _ else _
    have e1 : (r.goals.map (· + (more : Int)) = [y + (more : Int)]) ↔ r.goals = [y] := by
      constructor
      · intro e
        match hh : r.goals with
        | [] => rw [hh] at e; cases e
        | [z] => rw [hh] at e; simp at e; rw [show z = y by omega]
        | _ :: _ :: _ => rw [hh] at e; simp at e
      · intro e
        rw [e]
        rfl
    have e2 : (y + (more : Int) ≠ ((k + more : Nat) : Int) + 1) ↔ y ≠ (k : Int) + 1 := by omega
    simp only [e1, e2]
  · obtain ⟨y, hy, rfl⟩ := List.mem_map.mp hx
    have q := hp y hy
    cases y with
    | d n => obtain ⟨a, b⟩ := q; show 0 ≤ n + below ∧ n + below < B + 10; omega
    | s n => obtain ⟨a, b⟩ := q; show 0 ≤ n + below ∧ n + below < B + 10; omega
    | g n => obtain ⟨a, b⟩ := q; show 0 ≤ n + (more : Int) ∧ n + (more : Int) < B + 10; omega
    | x p => exact q
    | m l =>
      refine ⟨by rw [List.length_map]; exact q.1, fun z hz => ?_⟩
      obtain ⟨w, hw, rfl⟩ := List.mem_map.mp hz
      obtain ⟨a, b⟩ := q.2 w hw
      show 0 ≤ w + below ∧ w + below < B + 10
      omega
def aheadRow : Row := ⟨"const", [.d 0, .x (.tup [.str "nothing"])]⟩
theorem ahead_at {B sl : Int} {n : Nat} {dep : Int → Int} {k : Nat} (hs : 0 < sl) (hB : 0 < B) (hk : k + 1 < n) (hd : dep ((k : Int) + 1) = dep k) : RowAt B sl n dep k aheadRow :=
  run_at (by decide +kernel) (by decide +kernel) (by decide +kernel) rfl (shaped_of [100, 120] (by decide +kernel) rfl) (by decide) (by decide) (show ∀ n ∈ [(0 : Int)], 0 ≤ n ∧ n < sl from allc ⟨by decide, hs⟩ alln) (allc ⟨by decide, hB⟩ (allc ⟨by decide, allc (.inr (.inl rfl)) alln⟩ alln)) ⟨by unfold NoNL; decide +kernel, by decide +kernel⟩ (fun h => absurd h (by decide +kernel)) (fun h => absurd h (by decide +kernel)) (fun h => absurd h (by decide +kernel)) (fun h => absurd h (by decide +kernel)) hk hd
def wholeOf (rs : List Row) (more : Nat) (below : Int) : List Row := List.replicate more aheadRow ++ rs.map (Row.turn (· + below) (· + (more : Int)))
theorem whole_len {rs : List Row} {more : Nat} {below : Int} : (wholeOf rs more below).length = rs.length + more := by unfold wholeOf; simp; omega
theorem whole_low {rs : List Row} {more : Nat} {below : Int} {j : Nat} (h : j < more) : (wholeOf rs more below)[j]? = some aheadRow := by
  unfold wholeOf
  rw [List.getElem?_append_left (by simpa using h), List.getElem?_replicate, if_pos h]
theorem whole_up {rs : List Row} {more : Nat} {below : Int} {j : Nat} : (wholeOf rs more below)[j + more]? = (rs[j]?).map (Row.turn (· + below) (· + (more : Int))) := by
  unfold wholeOf
  rw [List.getElem?_append_right (by simp), List.length_replicate, Nat.add_sub_cancel, List.getElem?_map]
theorem Ready.whole {B sl : Int} {dep : Int → Int} {rs : List Row} {more : Nat} {below : Int} (h : Ready B sl dep rs) (hs : 0 < sl) (hb : 0 ≤ below) (hb' : below ≤ 10) (hm : more ≤ 10) : Ready (B + 10) (sl + below) (depUp dep more) (wholeOf rs more below) := by
  have h1 := h.any
  have h2 := h.short
  refine ⟨?_, by rw [whole_len]; omega, by rw [whole_len]; omega, ?_⟩
  · intro j r e
    rw [whole_len, Nat.zero_add]
    by_cases hj : j < more
    · rw [whole_low hj] at e
      cases e
      refine ahead_at (by omega) (by omega) (by omega) ?_
      rw [depUp_low (g := (j : Int)) (by omega)]
      by_cases hj' : j + 1 < more
      · exact depUp_low (by omega)
      · rw [show (j : Int) + 1 = 0 + (more : Int) by omega, depUp_add (by decide), h.start]
    · obtain ⟨j, rfl⟩ : ∃ i, j = i + more := ⟨j - more, by omega⟩
      rw [whole_up] at e
      obtain ⟨r0, e0, rfl⟩ := Option.map_eq_some_iff.mp e
      have := h.rows j r0 e0
      rw [Nat.zero_add] at this
      exact turn_at this hb hb' hm
  · by_cases hm0 : 0 < more
    · exact depUp_low (by omega)
    · have hm' : more = 0 := by omega
      subst hm'
      unfold depUp
      simpa using h.start
theorem Ready.good {B sl : Int} {dep : Int → Int} {rs : List Row} (h : Ready B sl dep rs) (h1 : 1 ≤ sl) (hB : B ≤ 100) : GoodCode 1 sl dep rs := by
  have hh : ∀ k r, rs[k]? = some r → RowAt B sl rs.length dep k r := fun k r e => by have := h.rows k r e; rwa [Nat.zero_add] at this
  have h2 := h.short
  exact ⟨by decide, h1, h.any, by omega, fun k r e => (hh k r e).good, fun k r e => (hh k r e).dep, h.start⟩
theorem rch_up {B sl : Int} {dep : Int → Int} {rs : List Row} {more : Nat} {below : Int} (h : Ready B sl dep rs) (k : Nat) : Rch (wholeOf rs more below) (k + more) ↔ Rch rs k := by
  have fa : ∀ j, fol aheadRow j = [(j : Int) + 1] := fun j => fol_run (by decide +kernel) rfl
  constructor
  · intro hr
    have gen : ∀ j, Rch (wholeOf rs more below) j → ∀ k, j = k + more → Rch rs k := by
      intro j hj
      induction hj with
      | zero => intro k e; rw [show k = 0 by omega]; exact .zero
      | @step j g r hj e hg ih =>
        intro k ek
        by_cases hlt : j < more
        · rw [whole_low hlt] at e
          cases e
          rw [fa, List.mem_singleton] at hg
          rw [show k = 0 by omega]
          exact .zero
        · obtain ⟨i, rfl⟩ : ∃ i, j = i + more := ⟨j - more, by omega⟩
          rw [whole_up] at e
          obtain ⟨r0, e0, rfl⟩ := Option.map_eq_some_iff.mp e
          rw [fol_turn] at hg
          obtain ⟨y, hy, hyg⟩ := List.mem_map.mp hg
          exact .step (ih i rfl) e0 (by rw [show (k : Int) = y by omega]; exact hy)
    exact gen _ hr k rfl
  · intro hr
    induction hr with
    | zero =>
      rw [Nat.zero_add]
      have : ∀ i, i ≤ more → Rch (wholeOf rs more below) i := by
        intro i
        induction i with
        | zero => intro _; exact .zero
        | succ i ih => intro hi; exact .step (ih (by omega)) (whole_low (by omega)) (by rw [fa, List.mem_singleton]; omega)
      exact this more (Nat.le_refl _)
    | @step k g r hk e hg ih =>
      refine .step ih (by rw [whole_up, e]; rfl) ?_
      rw [fol_turn]
      exact List.mem_map.mpr ⟨g, hg, by omega⟩
theorem dep_pair {B sl : Int} {dep : Int → Int} {rs : List Row} {more : Nat} {below : Int} {kvs kvs' : List (Int × Value)} (h : Ready B sl dep rs) (d : DepD rs dep kvs) (d' : DepD (wholeOf rs more below) (depUp dep more) kvs') (k : Nat) :
    (∃ n t t', valueAt kvs k = some (.int n t) ∧ valueAt kvs' ((k : Int) + more) = some (.int n t')) ∨ (valueAt kvs k = none ∧ valueAt kvs' ((k : Int) + more) = none) := by
  by_cases hk : Rch rs k
  · left
    have a := d.2 k hk
    have b := d'.2 (k + more) ((rch_up h k).mpr hk)
    rw [show ((k + more : Nat) : Int) = (k : Int) + more by omega] at b
    obtain ⟨v, hv⟩ := Option.isSome_iff_exists.mp a
    obtain ⟨v', hv'⟩ := Option.isSome_iff_exists.mp b
    obtain ⟨n, e, _, t, rfl⟩ := d.1 _ _ hv
    obtain ⟨n', e', _, t', rfl⟩ := d'.1 _ _ hv'
    rw [← e] at hv
    rw [← e', depUp_add (by omega)] at hv'
    exact ⟨_, _, _, hv, hv'⟩
  · right
    constructor
    · cases hv : valueAt kvs k with
      | none => rfl
      | some v =>
        obtain ⟨n, e, hr, _⟩ := d.1 _ _ hv
        rw [show n = k by omega] at hr
        exact absurd hr hk
    · cases hv : valueAt kvs' ((k : Int) + more) with
      | none => rfl
      | some v =>
        obtain ⟨n, e, hr, _⟩ := d'.1 _ _ hv
        rw [show n = k + more by omega] at hr
        exact absurd ((rch_up h k).mp hr) hk

theorem plain_lays {sl : Int} {r : Row} (h : Plain sl r) : r.data.canLay0 = true := by
  obtain ⟨x, y, z, hr, -⟩ := h
  unfold plainRows at hr
  simp only [List.mem_cons, List.not_mem_nil, or_false] at hr
  rcases hr with rfl | rfl | rfl | rfl | rfl | rfl | rfl | rfl | rfl | rfl | rfl | rfl | rfl | rfl
  all_goals (simp only [Row.data, Part.pay, Pay.data, At.data, List.map, PyData.canLay0, PyData.canLayAll0, Bool.and_true, Bool.true_and]; decide +kernel)
theorem lay_special (a b : Int) : (rUnless a b).data.canLay0 = true ∧ (rEnter a).data.canLay0 = true ∧ rLeave.data.canLay0 = true ∧ (rGoto a).data.canLay0 = true ∧ (rCaught a).data.canLay0 = true ∧ (rReturn a).data.canLay0 = true := by
  simp only [rUnless, rEnter, rLeave, rGoto, rCaught, rReturn, Row.data, Part.pay, Pay.data, At.data, List.map, PyData.canLay0, PyData.canLayAll0, Bool.and_true, Bool.true_and]
  decide +kernel
theorem built_lays {sl : Int} {rs : List Row} (h : Built sl rs) : ∀ r ∈ rs, r.data.canLay0 = true := by
  obtain ⟨so, ov, u, hh, e, rfl, -, -, p1, p2, -, hand, -⟩ := h.is
  have a1 : ∀ r ∈ rows1 so ov u, r.data.canLay0 = true := by
    intro r hr
    unfold rows1 at hr
    rcases List.mem_append.mp hr with hr | hr
    · rcases List.mem_append.mp hr with hr | hr
      · exact plain_lays (p1 r hr)
      · rw [List.mem_singleton.mp hr]; exact (lay_special _ _).1
    · exact plain_lays (p2 r hr)
  have a2 : ∀ r ∈ rows2 (rows1 so ov u) hh, r.data.canLay0 = true := by
    cases hh with
    | none => exact a1
    | some q =>
      obtain ⟨i, ca⟩ := q
      intro r hr
      rcases List.mem_append.mp hr with hr | hr
      · rcases List.mem_append.mp hr with hr | hr
        · rcases List.mem_append.mp hr with hr | hr
          · exact a1 r hr
          · rw [List.mem_singleton.mp hr]; exact (lay_special _ 0).2.1
        · rw [List.mem_singleton.mp hr]; exact plain_lays (hand.row i ca rfl)
      · exact allc (Q := fun r : Row => r.data.canLay0 = true) (lay_special 0 0).2.2.1 (allc (lay_special _ 0).2.2.2.1 (allc (lay_special _ 0).2.2.2.2.1 alln)) r hr
  intro r hr
  cases e with
  | none =>
    rcases List.mem_append.mp hr with hr | hr
    · exact a2 r hr
    · rw [List.mem_singleton.mp hr]; exact (lay_special _ 0).2.2.2.1
  | some z =>
    rcases List.mem_append.mp hr with hr | hr
    · exact a2 r hr
    · exact allc (Q := fun r : Row => r.data.canLay0 = true) (lay_special _ 0).2.2.2.1 (allc (lay_special _ 0).2.2.2.2.2 alln) r hr
theorem lays_all {α : Type} {f : α → PyData} (l : List α) (h : ∀ a ∈ l, (f a).canLay0 = true) : PyData.canLayAll0 (l.map f) = true := by
  induction l with
  | nil => rfl
  | cons a l ih => simp [PyData.canLayAll0, h a (.head _), ih fun b hb => h b (.tail _ hb)]
theorem deps_all {α : Type} {f : α → PyData} {d : Nat} (h : ∀ a, (f a).depth ≤ d) (l : List α) : PyData.depthAll (l.map f) ≤ d := by
  induction l with
  | nil => exact Nat.zero_le _
  | cons a l ih => simp only [List.map_cons, PyData.depthAll]; exact Nat.max_le.mpr ⟨h a, ih⟩
theorem row_deps (r : Row) : r.data.depth ≤ 3 := by
  have at' : ∀ a : At, a.data.depth ≤ 1 := fun a => by cases a <;> exact Nat.zero_le _
  have pay : ∀ p : Part, p.pay.data.depth ≤ 2 := fun p => by
    cases p.pay with
    | one a => exact Nat.le_trans (at' a) (by decide)
    | tup l => have q := deps_all at' l; simp only [Pay.data, PyData.depth]; omega
  have q := deps_all (f := fun p : Part => p.pay.data) pay r.parts
  simp only [Row.data, PyData.depth, PyData.depthAll]
  omega
theorem rows_shaped {rs : List Row} (h : ∀ r ∈ rs, r.data.canLay0 = true) : SeqAt.shaped (.list (rs.map Row.data)) = true ∧ PyData.eqv (.list (rs.map Row.data)) (.list (rs.map Row.data)) = true := by
  have k : (PyData.list (rs.map Row.data)).canLay0 = true := by simp [PyData.canLay0, lays_all rs h]
  have q := deps_all row_deps rs
  refine ⟨?_, SeqAt.eqv_refl _ k⟩
  unfold SeqAt.shaped
  simp only [k, PyData.depth, Bool.true_and]
  exact decide_eq_true (by omega)
/-- the law's own frame -/
theorem law_enter {w : World} {g : Heap} {s : Shared} {L sc : Addr} {m : Loc} {o1 o2 o3 o4 o5 : Obj} {loose : List Str} {mean : ExcName → Option Value} {mg mb : Str → Option Value} {p : Program} {body : List Stmt} {q : Str} {scope : Scope} {fa : Addr} {cd : Value} {Q : Flow → Shared → Prop} {E : Value → Shared → Prop}
    (X : (fr.heap_1 w.params).In g) (T : Top p loose mean mg mb g) (K : Below callerA g [] g) (F : Fr g L s.heap m) (N : News g L s.heap [(L + 1 + 1 + 1 + 1 + 1, o5), (L + 1 + 1 + 1 + 1, o4), (L + 1 + 1 + 1, o3), (L + 1 + 1, o2), (L + 1, o1), (184, tabObj #[])]) (l0 : @LT.lt Nat _ 184 L) (hS : g.NoSeer)
    (hm : m = bnd noLoc [("script", .ref sc)]) (h5 : o5.data = .cell none) (h4 : o4.data = .cell none) (h3 : o3.data = .cell none) (h2 : o2.data = .cell none) (h1 : o1.data = .cell none) (hk : scope.kind = .function) (hgen : scope.isGenerator = false) (hco : scope.isCoroutine = false)
    (h : ∀ (c : Cx) (o1 o2 o3 o4 o5 : Obj), Room c 120 → c.base = g → @LT.lt Nat _ 184 c.L → o1.data = .cell none → o2.data = .cell none → o3.data = .cell none → o4.data = .cell none → o5.data = .cell none → EV c (bnd noLoc [("script", .ref sc)]) [(c.L + 5, o5), (c.L + 4, o4), (c.L + 3, o3), (c.L + 2, o2), (c.L + 1, o1), (184, tabObj #[])] (execs body (envOfC q scope c.L fa cd)) (fun f _ ν' => f = .ret (.bool true) ∧ ∃ ps, (184, tabObj ps) ∈ ν') NoX)
    (hQ : ∀ m' ν' h' tk' ps, (184, tabObj ps) ∈ ν' → Fr g L h' m' → News g L h' ν' → Q (.ret (.bool true)) { s with heap := h', toks := tk' }) :
    wpAny (model Pg w) (callerA.deeper (envOfC q scope L fa cd)) (execs body (envOfC q scope L fa cd)) Q E s := by
  subst hm
  let c : Cx := ⟨w, L, callerA.deeper (envOfC q scope L fa cd), callerA, g, g, [], envOfC q scope L fa cd, p, loose, mean, mg, mb, K, X, T, rfl, rfl, hk, hgen, hco, rfl, rfl, hS, rfl, rfl, rfl⟩
  refine h c o1 o2 o3 o4 o5 ?_ rfl l0 h1 h2 h3 h4 h5 s Q E F N (fun v m' ν' h' tk' hp F' N' => ?_) (fun _ _ _ _ _ hx _ _ => hx.elim)
  · exact ⟨show callerA.depth + 1 + 120 < recursionLimit by decide, show callerA.units + 3 + 8 * 120 < cLine by decide⟩
  · obtain ⟨rfl, ps, hm⟩ := hp
    exact hQ m' ν' h' tk' ps hm F' N'

def head.tw6474009502463322548 : Unit := ()
def head.tw16286728725255211307 : Unit := ()
def head.tw13335025841360890868 : Unit := ()
def head.tw12436254711610605464 : Unit := ()
def head.tw12480992522654615295 : Unit := ()
def head.tw1329897990629837498 : Unit := ()
def head.tw11560791298762117392 : Unit := ()
def head.tw15296082917334920728 : Unit := ()
def head.tw4196546014268931301 : Unit := ()
def head.tw15117697008203913761 : Unit := ()
def head.tw16643138836878064090 : Unit := ()
def head.tw10381336112695272470 : Unit := ()
def head.tw9082462177598256812 : Unit := ()
def head.tw12903917746401883607 : Unit := ()
def head.tw10987702880554017565 : Unit := ()
def head.tw7661765248129044261 : Unit := ()
def head.tw10018764681926925449 : Unit := ()
def head.tw13942192884097748152 : Unit := ()
def head.tw11124970107338973260 : Unit := ()
def head.tw13896987355042952010 : Unit := ()
def head.tw5438144065070405397 : Unit := ()
def head.tw17411354535832351560 : Unit := ()
def head.tw11290360913936777911 : Unit := ()
def head.tw7658410731251134818 : Unit := ()
def head.tw3665506230870052707 : Unit := ()
def head.tw11308087075614649832 : Unit := ()
def head.tw8476099583838051002 : Unit := ()
def head.tw7090939061502383884 : Unit := ()
def head.tw587121490752477604 : Unit := ()
def head.tw12073923538612671061 : Unit := ()
def head.tw11484358847640170188 : Unit := ()
def head.tw7994106446794305319 : Unit := ()
def head.tw3083302935323014018 : Unit := ()
def head.tw7802898811600756450 : Unit := ()
def head.tw2355103038987944067 : Unit := ()
def head.tw14788773977795034992 : Unit := ()
def head.tw13294958713779813728 : Unit := ()
def head.tw3501597964444990463 : Unit := ()
def head.tw4415685298772064003 : Unit := ()
def head.tw6121141971511671821 : Unit := ()
def head.tw9984397402777080727 : Unit := ()
def head.tw18384547517478447814 : Unit := ()
def head.tw17142359554024780413 : Unit := ()
def head.tw9716329373054682134 : Unit := ()
def head.tw5508695066786827253 : Unit := ()
def head.tw14393718171448925343 : Unit := ()
def head.tw11005904730967762025 : Unit := ()
def head.tw17854896373637125580 : Unit := ()
def head.tw15410735652082386980 : Unit := ()
def head.tw3306014811536218513 : Unit := ()
def head.tw12773685731770592110 : Unit := ()
def head.tw2340069552987342377 : Unit := ()
def head.tw10533634037010066435 : Unit := ()
def head.tw10668533816033670360 : Unit := ()
def head.tw8715499118904818895 : Unit := ()
def head.tw1212124681294104184 : Unit := ()
def head.tw8097174177036852075 : Unit := ()
def head.tw18123143868385100064 : Unit := ()
def head.tw5331137831679937033 : Unit := ()
def head.tw14527164170590304321 : Unit := ()
def head.tw18332285231265401824 : Unit := ()
def head.tw12478146576626367362 : Unit := ()
def head.tw9062998866958442273 : Unit := ()
def head.tw5986637957666399235 : Unit := ()
def head.tw4964814941381164201 : Unit := ()
def head.tw8535708456716222715 : Unit := ()
def head.tw4023466491090337370 : Unit := ()
def head.tw8874674299285249911 : Unit := ()
def head.tw1463646239528298992 : Unit := ()
def head.tw15064752311394979489 : Unit := ()
def head.tw5797013207949663412 : Unit := ()
def head.tw17789423225533864492 : Unit := ()
def head.tw6889739017440866108 : Unit := ()
def head.tw9074772780463953568 : Unit := ()
def head.tw3746228215898030841 : Unit := ()
def head.tw4972248218790579157 : Unit := ()
def head.tw11975876845563090790 : Unit := ()
def head.tw5638995163158488052 : Unit := ()
def head.tw3547030090768783262 : Unit := ()
def head.tw15798066900824788120 : Unit := ()
def head.tw7313386461004707312 : Unit := ()
def head.tw14699756766385990792 : Unit := ()
def head.tw8812732774380208333 : Unit := ()
def head.tw2581250870941146908 : Unit := ()
def head.tw5944575059761466720 : Unit := ()
def head.tw16714887947964762639 : Unit := ()
def head.tw8159583801465064534 : Unit := ()
def head.tw13199516396595161752 : Unit := ()
def head.tw17782148633632673465 : Unit := ()
def head.tw12147184966966947637 : Unit := ()
def head.tw6857060684267632606 : Unit := ()
def head.tw17243387458012846398 : Unit := ()
def head.tw11105056867450500199 : Unit := ()
def head.tw10786079294511566085 : Unit := ()
def head.tw11194998557105285118 : Unit := ()
def head.tw5506250874072839755 : Unit := ()
def head.tw16572314662081343053 : Unit := ()
def head.tw6202090305015876224 : Unit := ()
def head.tw649443455394278489 : Unit := ()
def head.tw4381510469713062047 : Unit := ()
def head.tw7512725033676591148 : Unit := ()
def head.tw10261356005730403935 : Unit := ()
def head.tw1748456618969930982 : Unit := ()
def head.tw4433315090154635215 : Unit := ()
def head.tw13906610036690215845 : Unit := ()
def head.tw11426403942048686318 : Unit := ()
def head.tw2879759524354350568 : Unit := ()
def head.tw4709128311485490483 : Unit := ()
def head.tw11124748197601291601 : Unit := ()
def head.tw16111715859725283846 : Unit := ()
def head.tw1499353310998574721 : Unit := ()
def head.tw7876399200375917224 : Unit := ()
def head.tw16128420640991077102 : Unit := ()
def head.tw15148963937461231693 : Unit := ()
def head.tw14205479233844494046 : Unit := ()
def head.tw18007968972792079559 : Unit := ()
def head.tw8185714761375850791 : Unit := ()
def head.tw3615648651819825313 : Unit := ()
def head.tw1276956409769668328 : Unit := ()
def head.tw16847831306532103052 : Unit := ()
def head.tw17212568112599259466 : Unit := ()
def head.tw12310735299239354703 : Unit := ()
def head.tw17674571679781333832 : Unit := ()
def head.tw14842460003800876886 : Unit := ()
def head.tw2247321656115982877 : Unit := ()
def head.tw9592777112578238593 : Unit := ()
def head.tw1457377512435260902 : Unit := ()
def head.tw4063747431996464497 : Unit := ()
def head.tw5599997604879368025 : Unit := ()
def head.tw12892129938458570674 : Unit := ()
def head.tw15436542981012472205 : Unit := ()
def head.tw5629256929840616583 : Unit := ()
def head.tw5092371620264689978 : Unit := ()
def head.tw2393098407364606883 : Unit := ()
def head.tw6100774026682323163 : Unit := ()
def head.tw2249667046024356820 : Unit := ()
def head.tw14699528089545365996 : Unit := ()
def head.tw17700853532424174462 : Unit := ()
def head.tw6211381574409162282 : Unit := ()
def head.tw8534208459206503383 : Unit := ()
def head.tw3991279037241028524 : Unit := ()
def head.tw4746297304354101679 : Unit := ()
def head.tw8101760021730824546 : Unit := ()
def head.tw6846597200999610202 : Unit := ()
def head.tw11770459041652445329 : Unit := ()
def head.tw8773370040425892893 : Unit := ()
def head.tw15112835437128306455 : Unit := ()
def head.tw14512941343882779238 : Unit := ()
def head.tw11862927689305589065 : Unit := ()
def head.tw4693820183103290663 : Unit := ()
def head.tw10366927770000222440 : Unit := ()
def head.tw14877080517539528568 : Unit := ()
def head.tw13086575352542018947 : Unit := ()
def head.tw9101448428047585222 : Unit := ()
def head.tw14643560169476415855 : Unit := ()
def head.tw3581614266968435656 : Unit := ()
def head.tw10010264046613662565 : Unit := ()
def head.tw6388477656530123435 : Unit := ()
def head.tw3089916443595474862 : Unit := ()
def head.tw17508272824862286709 : Unit := ()
def head.tw12032222614953749359 : Unit := ()
def head.tw15782939476341012554 : Unit := ()
def head.tw9515422150858430662 : Unit := ()
def head.tw11714945338242495837 : Unit := ()
def head.tw9325057278558614444 : Unit := ()
def head.tw8382746154173761051 : Unit := ()
def head.tw3986194592780655508 : Unit := ()
def head.tw11821203517306503961 : Unit := ()
def head.tw4009957668330374740 : Unit := ()
def head.tw12604462930493870256 : Unit := ()
def head.tw16817119741492734445 : Unit := ()
def head.tw12775505166333009402 : Unit := ()
def head.tw7712916153251135833 : Unit := ()
def head.tw13988103294471073821 : Unit := ()
def head.tw9658139154387788515 : Unit := ()
def head.tw12352672977532951062 : Unit := ()
def head.tw8866670633112419022 : Unit := ()
def head.tw10865165270600546614 : Unit := ()
def head.tw7758381527925395934 : Unit := ()
def head.tw18051680202136193954 : Unit := ()
def head.tw17332727794074296334 : Unit := ()
def head.tw11692735721529064706 : Unit := ()
def head.tw7494366503370351645 : Unit := ()
def head.tw9746458257258439470 : Unit := ()
def head.tw10356212845559719233 : Unit := ()
theorem codeIs_mk {δ2 δ : Led} {L x rt st cp mk : Addr} {nm : Str} {ar sl : Int} {rs : List Row} {vs : List Value} {t1 t2 t3 : Tok} {ν1 ν2 ν3 : Led} (hat : CodeAt δ2 x nm ar sl rt st cp mk) (hin : (rt, tupO vs) ∈ δ2) (_ : Above cp ((st, tupO [.str "T.1" t1]) :: ν1)) (_ : Above mk ((cp, tupO [.str "x" t2]) :: ν2)) (_ : ∀ p ∈ δ2, Above p.1 ((mk, tupO [.str "m" t3]) :: ν3)) (hrs : RowsV δ rs vs)
    (h2 : ∀ p ∈ δ2, @LT.lt Nat _ L p.1) (a : @LT.lt Nat _ L st) (b : @LT.lt Nat _ L cp) (d : @LT.lt Nat _ L mk) (h1 : ∀ p ∈ δ, @LT.lt Nat _ L p.1) :
    ∃ S, CodeIs S x nm ar sl rt st cp mk rs vs ∧ (∀ p ∈ S, @LT.lt Nat _ L p.1) ∧ ∀ X : Led, (∀ p ∈ δ2, p ∈ X) → (mk, tupO [.str "m" t3]) ∈ X → (cp, tupO [.str "x" t2]) ∈ X → (st, tupO [.str "T.1" t1]) ∈ X → (∀ p ∈ δ, p ∈ X) → ∀ p ∈ S, p ∈ X := by
  refine ⟨δ2 ++ ((mk, tupO [.str "m" t3]) :: (cp, tupO [.str "x" t2]) :: (st, tupO [.str "T.1" t1]) :: δ), ⟨hat.mono fun p hp => List.mem_append_left _ hp, ⟨_, List.mem_append_left _ hin, tupO_mk⟩, hrs.mono fun _ _ y => y.mono (KeepT.of fun p hp => List.mem_append_right _ (.tail _ (.tail _ (.tail _ hp)))), ⟨_, _, List.mem_append_right _ (.tail _ (.tail _ (.head _))), tupO_mk⟩, ⟨_, _, List.mem_append_right _ (.tail _ (.head _)), tupO_mk⟩, ⟨_, _, List.mem_append_right _ (.head _), tupO_mk⟩⟩, fun p hp => ?_, fun X x1 x2 x3 x4 x5 => sub_app x1 (sub_cons x2 (sub_cons x3 (sub_cons x4 x5)))⟩
  rcases List.mem_append.mp hp with hp | hp
  · exact h2 p hp
  · rcases hp with _ | ⟨_, _ | ⟨_, _ | ⟨_, hp⟩⟩⟩
    · exact d
    · exact b
    · exact a
    · exact h1 p hp
theorem ahead_mk {S : Led} {L lr N1 N2 la lh : Addr} {olr olh : Obj} {t1 t2 t3 : Tok} {ν1 ν2 ν3 : Led} (hS : ∀ p ∈ S, @LT.lt Nat _ L p.1) (h1 : Above lr ν1) (h2 : Above N1 ν2) (_ : Above la ((N2, tupO [.str "const" t2, .int 0 t3, .ref N1]) :: (N1, tupO [.str "nothing" t1]) :: ν3)) (a : @LT.lt Nat _ L lr) (b : @LT.lt Nat _ L N1) (d : @LT.lt Nat _ L N2) (e : @LT.lt Nat _ L lh) :
    ∃ S', (∀ p ∈ S, p ∈ S') ∧ (lr, olr) ∈ S' ∧ (lh, olh) ∈ S' ∧ RowV S' aheadRow (.ref N2) ∧ (∀ p ∈ S', @LT.lt Nat _ L p.1) ∧ ∀ X : Led, (∀ p ∈ S, p ∈ X) → (lr, olr) ∈ X → (lh, olh) ∈ X → (N1, tupO [.str "nothing" t1]) ∈ X → (N2, tupO [.str "const" t2, .int 0 t3, .ref N1]) ∈ X → ∀ p ∈ S', p ∈ X := by
  refine ⟨(lr, olr) :: (lh, olh) :: (N1, tupO [.str "nothing" t1]) :: (N2, tupO [.str "const" t2, .int 0 t3, .ref N1]) :: S, fun p hp => .tail _ (.tail _ (.tail _ (.tail _ hp))), .head _, .tail _ (.head _), ⟨N2, _, t2, _, rfl, .tail _ (.tail _ (.tail _ (.head _))), tupO_mk, .cons pv_d (.cons (pv_xt (.tail _ (.tail _ (.head _))) tupO_mk (.cons av_s .nil)) .nil)⟩, fun p hp => ?_, fun X x1 x2 x3 x4 x5 => sub_cons x2 (sub_cons x3 (sub_cons x4 (sub_cons x5 x1)))⟩
  rcases hp with _ | ⟨_, _ | ⟨_, _ | ⟨_, _ | ⟨_, hp⟩⟩⟩⟩
  · exact a
  · exact e
  · exact b
  · exact d
  · exact hS p hp
theorem rows_rep {ν : Led} {r : Row} {v : Value} (h : RowV ν r v) : ∀ n : Nat, RowsV ν (List.replicate n r) (List.replicate n [v]).flatten
  | 0 => .nil
  | n + 1 => .cons h (rows_rep h n)
theorem Ready.shape {B sl : Int} {dep : Int → Int} {rs : List Row} (h : Ready B sl dep rs) : ∀ r ∈ rs, Shaped r ∧ ∀ l, Part.m l ∈ r.parts → l.length ≤ 1000 := fun r hr => by
  obtain ⟨k, hk⟩ := List.getElem?_of_mem hr
  have q := h.rows k r hk
  exact ⟨q.good.shaped, fun l hl => Nat.le_trans (q.parts _ hl).1 (by decide)⟩
theorem LamC.keep {q : Str} {a : Addr} {ν σ : Led} (h : LamC q a ν) (hs : ∀ p ∈ ν, (∃ v, p.2.data = .cell v) ∨ p ∈ σ) : LamC q a σ := by
  obtain ⟨o, vs, t, hm, hd, hv⟩ := h
  rcases hs _ hm with ⟨v, e⟩ | hm'
  · rw [hd] at e; cases e
  · exact ⟨o, vs, t, hm', hd, hv⟩
theorem TabOk.keep {q : Str} {ps : Array Value} {ν σ : Led} (h : TabOk q ps ν) (hs : ∀ p ∈ ν, (∃ v, p.2.data = .cell v) ∨ p ∈ σ) : TabOk q ps σ :=
  ⟨h.1, fun pos => (h.2 pos).imp id fun ⟨a, x, y⟩ => ⟨a, x, y.keep hs⟩⟩
theorem RowsV.keep {ν σ : Led} {rs : List Row} {vs : List Value} (h : RowsV ν rs vs) (hs : ∀ p ∈ ν, (∃ v, p.2.data = .cell v) ∨ p ∈ σ) : RowsV σ rs vs :=
  h.mono fun _ _ y => y.mono fun p hp ht => by
    rcases hs p hp with ⟨v, e⟩ | hm
    · exact absurd ht (notT_cell e)
    · exact hm
def rowF : Row := ⟨"f", [.x (.one (.int 1)), .x (.tup [.str "T.1"]), .x (.tup [.str "x"]), .x (.tup [.str "m"])]⟩
theorem eqF : PyData.eqv rowF.data rowF.data = true := by decide +kernel
theorem shF : SeqAt.shaped rowF.data = true := by decide +kernel
theorem ev_locals {α : Type} {c : Cx} {m : Loc} {ν : Led} {R : RX} {t : Sem α} {P : α → Loc → Led → Prop} (h : ∀ m', m' = m → EV c m' ν t P R) : EV c m ν t P R := h m rfl
theorem strs_len {vs : List Value} {l : List Str} (h : StrsAre vs l) : vs.length = l.length := by
  induction h with
  | nil => rfl
  | cons => simp [*]
theorem strs_all {vs : List Value} {l : List Str} (h : StrsAre vs l) : AllV StrV l vs := by
  induction h with
  | nil => exact .nil
  | cons y t _ ih => exact .cons ⟨t, rfl⟩ ih
theorem starts_app {x y z : Str} : Txt.startswith (x ++ (y ++ z)) (x ++ y) = true := by
  unfold Txt.startswith
  rw [Bool.and_eq_true]
  refine ⟨decide_eq_true (by rw [app_len, app_len, app_len]; omega), ?_⟩
  rw [PySem.StrLaws.subAt_eq]
  show ((((x.cps ++ (y.cps ++ z.cps)).toList.drop 0).take (x.cps ++ y.cps).size) == (x.cps ++ y.cps).toList) = true
  simp
  rw [← List.append_assoc]
  exact List.take_left' (by simp)
theorem whole_drop {rs : List Row} {more : Nat} {below : Int} : (wholeOf rs more below).drop more = rs.map (Row.turn (· + below) (· + (more : Int))) := by
  unfold wholeOf
  rw [List.drop_append_of_le_length (by simp)]
  simp
theorem back_rows {rs : List Row} {more : Nat} {below : Int} : ((wholeOf rs more below).drop more).map (Row.turn (· + -below) (· + -(more : Int))) = rs := by
  rw [whole_drop, List.map_map]
  refine (List.map_congr_left fun r _ => ?_).trans (List.map_id _)
  exact turn_turn (fun n => by omega) (fun n => by omega)
theorem nl_eq : ("\n" : Str) = ⟨#[10]⟩ := by decide +kernel
theorem ne_same {α : Type} [DecidableEq α] {l : α} : (!decide (l = l)) = false := by simp
theorem ev_neGet {c : Cx} {m : Loc} {ν : Led} {R : RX} {P : Value → Loc → Led → Prop} {a b : Option Value} (h : (∃ n t t', a = some (.int n t) ∧ b = some (.int n t')) ∨ (a = none ∧ b = none)) (k : P (.bool false) m ν) : EV c m ν (compareOp .NotEq (b.getD .none) (a.getD .none)) P R := by
  rcases h with ⟨n, t, t', rfl, rfl⟩ | ⟨rfl, rfl⟩
  · exact ev_ne (by rw [bne_self_eq_false]; exact k)
  · exact ev_neNone k
theorem ev_neOpt {c : Cx} {m : Loc} {ν : Led} {R : RX} {P : Value → Loc → Led → Prop} {o : Option Int} {a b : Value} (ha : OptV o a) (hb : OptV o b) (k : P (.bool false) m ν) : EV c m ν (compareOp .NotEq a b) P R := by
  cases o with
  | none => cases ha; cases hb; exact ev_neNone k
  | some n => obtain ⟨t, rfl⟩ := ha; obtain ⟨t', rfl⟩ := hb; exact ev_ne (by rw [bne_self_eq_false]; exact k)
set_option Elab.async true in
theorem head : PySem.Challenge.rw_pc0191_02.Holds := by
  w_on
  o_law
  k_head
  (case hw => w_witness2)
  k_go0
  rename PySem.W.Frag.In _ (ghostOf _ _) => X0
  have X1 : (Mine.fr.heap_1 _).In (ghostOf _ _) := X0
  rename Below callerA _ _ _ => K1
  rename Top topProg _ _ _ _ (ghostOf _ _) => T1
  rename Top _ (looseW _ _) _ _ _ _ => T0
  rename TabsAt _ _ => hT
  rename Fr _ _ _ _ => F1
  rename News _ _ _ _ => N1
  rename CodeHd _ _ _ => hC
  rename IntsAre _ _ => hI
  rename @LT.lt Addr _ 184 _ => l0
  rename PySem.Heap.IsList (ghostOf _ _) _ _ => hl1
  refine Mine.law_enter X1 T1 K1 F1 N1 l0 (ghost_noSeer hT (T0.seer (by decide +kernel))) rfl (by assumption) (by assumption) (by assumption) (by assumption) (by assumption) rfl rfl rfl ?_ ?_
  · clear F1 N1 T1 X1 K1 T0 hT
    intro c o1 o2 o3 o4 o5 hr hb h184 h1 h2 h3 h4 h5
    rw [← hb] at hC hl1
    clear hb
    replace hI := ints_of hI
    have hlen := hI.length
    dsimp only
    with_reducible refine ev_cons ?_
    ((with_reducible refine' ev_Assign ?_ ?qs); (case qs => with_unfolding_all rfl))
    ((with_reducible refine' ev_Call ?_ ?qe); (case qe => with_unfolding_all rfl))
    ((with_reducible refine' ev_glob ?qez ?_ ?qg ?qk ?qx ?qd); (case qg => with_unfolding_all rfl); (case qk => with_unfolding_all rfl); (case qx => with_unfolding_all rfl); (case qd => decide); (case qez => k_is))
    ((with_reducible refine' ev_cwF_0 ?qk ?_ ?qe ?qp); (case qe => with_unfolding_all rfl); (case qp => with_unfolding_all rfl); (case qk => k_is))
    ((with_reducible refine' ev_spl ?_ ?qe); (case qe => with_unfolding_all rfl))
    ((with_reducible refine' ev_local ?qvz ?_ ?qL ?qk ?qx ?qd); (case qL => with_unfolding_all rfl); (case qk => with_unfolding_all rfl); (case qx => with_unfolding_all rfl); (case qd => decide); (case qvz => walk_at "zlk"))
    with_reducible refine ev_spl0 ?_
    refine c_tank (by walk_at "zroom") hl1 hI (by omega) fun t o g k u1 u2 hab ho g0 k0 k1 => ?_
    have hO : TankO o := ⟨g, k, u1, u2, ho, g0, k0, k1⟩
    ((with_reducible refine' ev_store ?_ ?qL ?qk ?qx); (case qL => with_unfolding_all rfl); (case qk => with_unfolding_all rfl); (case qx => with_unfolding_all rfl))
    with_reducible refine then_next ?_
    with_reducible refine ev_cons ?_
    ((with_reducible refine' ev_AssignTup ?_ ?qs ?qw); (case qs => with_unfolding_all rfl); (case qw => with_unfolding_all rfl))
    with_reducible refine ev_Tuple ?_
    ((with_reducible refine' ev_spl ?_ ?qe); (case qe => with_unfolding_all rfl))
    with_reducible refine ev_BinOp ?_
    ((with_reducible refine ev_int ?_); intro _)
    ((with_reducible refine' ev_Call ?_ ?qe); (case qe => with_unfolding_all rfl))
    ((with_reducible refine' ev_glob ?qez ?_ ?qg ?qk ?qx ?qd); (case qg => with_unfolding_all rfl); (case qk => with_unfolding_all rfl); (case qx => with_unfolding_all rfl); (case qd => decide); (case qez => k_is))
    ((with_reducible refine' ev_cwF_0 ?qk ?_ ?qe ?qp); (case qe => with_unfolding_all rfl); (case qp => with_unfolding_all rfl); (case qk => k_is))
    ((with_reducible refine' ev_spl ?_ ?qe); (case qe => with_unfolding_all rfl))
    ((with_reducible refine' ev_local ?qvz ?_ ?qL ?qk ?qx ?qd); (case qL => with_unfolding_all rfl); (case qk => with_unfolding_all rfl); (case qx => with_unfolding_all rfl); (case qd => decide); (case qvz => walk_at "zlk"))
    ((with_reducible refine' ev_spl ?_ ?qe); (case qe => with_unfolding_all rfl))
    ((with_reducible refine ev_int ?_); intro _)
    with_reducible refine ev_spl0 ?_
    refine c_flowT (ν₁ := [(c.L + 5, o5), (c.L + 4, o4), (c.L + 3, o3), (c.L + 2, o2), (c.L + 1, o1), (184, tabObj #[])]) (by walk_at "zroom") hO (by walk_at "zsub") hab.ne (by decide) fun a ta oA a0 a1 hoA => ?_
    ((with_reducible refine ev_add ?_); intro _)
    ((with_reducible refine' ev_spl ?_ ?qe); (case qe => with_unfolding_all rfl))
    with_reducible refine ev_BinOp ?_
    ((with_reducible refine ev_int ?_); intro _)
    ((with_reducible refine' ev_Call ?_ ?qe); (case qe => with_unfolding_all rfl))
    ((with_reducible refine' ev_glob ?qez ?_ ?qg ?qk ?qx ?qd); (case qg => with_unfolding_all rfl); (case qk => with_unfolding_all rfl); (case qx => with_unfolding_all rfl); (case qd => decide); (case qez => k_is))
    ((with_reducible refine' ev_cwF_0 ?qk ?_ ?qe ?qp); (case qe => with_unfolding_all rfl); (case qp => with_unfolding_all rfl); (case qk => k_is))
    ((with_reducible refine' ev_spl ?_ ?qe); (case qe => with_unfolding_all rfl))
    ((with_reducible refine' ev_local ?qvz ?_ ?qL ?qk ?qx ?qd); (case qL => with_unfolding_all rfl); (case qk => with_unfolding_all rfl); (case qx => with_unfolding_all rfl); (case qd => decide); (case qvz => walk_at "zlk"))
    ((with_reducible refine' ev_spl ?_ ?qe); (case qe => with_unfolding_all rfl))
    ((with_reducible refine ev_int ?_); intro _)
    with_reducible refine ev_spl0 ?_
    refine c_flowT (ν₁ := [(c.L + 5, o5), (c.L + 4, o4), (c.L + 3, o3), (c.L + 2, o2), (c.L + 1, o1), (184, tabObj #[])]) (by walk_at "zroom") hoA (by walk_at "zsub") hab.ne (by decide) fun b tb oB b0 b1 hoB => ?_
    ((with_reducible refine ev_add ?_); intro _)
    ((with_reducible refine' ev_spl ?_ ?qe); (case qe => with_unfolding_all rfl))
    ((with_reducible refine' ev_Call ?_ ?qe); (case qe => with_unfolding_all rfl))
    ((with_reducible refine' ev_glob ?qez ?_ ?qg ?qk ?qx ?qd); (case qg => with_unfolding_all rfl); (case qk => with_unfolding_all rfl); (case qx => with_unfolding_all rfl); (case qd => decide); (case qez => k_is))
    ((with_reducible refine' ev_cwF_0 ?qk ?_ ?qe ?qp); (case qe => with_unfolding_all rfl); (case qp => with_unfolding_all rfl); (case qk => k_is))
    ((with_reducible refine' ev_spl ?_ ?qe); (case qe => with_unfolding_all rfl))
    ((with_reducible refine' ev_local ?qvz ?_ ?qL ?qk ?qx ?qd); (case qL => with_unfolding_all rfl); (case qk => with_unfolding_all rfl); (case qx => with_unfolding_all rfl); (case qd => decide); (case qvz => walk_at "zlk"))
    ((with_reducible refine' ev_spl ?_ ?qe); (case qe => with_unfolding_all rfl))
    ((with_reducible refine ev_int ?_); intro _)
    with_reducible refine ev_spl0 ?_
    refine c_flowT (ν₁ := [(c.L + 5, o5), (c.L + 4, o4), (c.L + 3, o3), (c.L + 2, o2), (c.L + 1, o1), (184, tabObj #[])]) (by walk_at "zroom") hoB (by walk_at "zsub") hab.ne (by decide) fun below td oD d0 d1 hoD => ?_
    with_reducible refine ev_spl0 ?_
    refine ev_newTuple (fun T hT => ?_) (by simp [sizeLine])
    have tNe : ∀ p ∈ [(c.L + 5, o5), (c.L + 4, o4), (c.L + 3, o3), (c.L + 2, o2), (c.L + 1, o1), (184, tabObj #[])], p.1 ≠ t := hab.ne
    have cNe : ∀ j k : Nat, j ≠ k → c.L + j ≠ c.L + k := fun j k h e => h (Nat.add_left_cancel e)
    have c184 : ∀ j : Nat, (184 : Addr) ≠ c.L + j := fun j e => Nat.lt_irrefl _ (Nat.lt_of_lt_of_le h184 (e ▸ Nat.le_add_right c.L j))
    obtain ⟨more, hmore⟩ : ∃ n : Nat, 1 + b = n := ⟨(1 + b).toNat, by omega⟩
    refine ev_assignT3 (.head _) tupO_mk ?_
    ((with_reducible refine' ev_store ?_ ?qL ?qk ?qx); (case qL => with_unfolding_all rfl); (case qk => with_unfolding_all rfl); (case qx => with_unfolding_all rfl))
    refine ev_storeCell (ν₁ := [(t, oD), (c.L + 5, o5), (c.L + 4, o4), (c.L + 3, o3), (c.L + 2, o2), (184, tabObj #[])]) (by with_unfolding_all rfl) h1 (by walk_at "zsub") (ne_cons (Ne.symm (tNe (c.L + 1, o1) (by walk_at "zmem"))) (ne_cons (cNe 5 1 (by decide)) (ne_cons (cNe 4 1 (by decide)) (ne_cons (cNe 3 1 (by decide)) (ne_cons (cNe 2 1 (by decide)) (ne_cons (c184 1) ne_nil)))))) (fun o1' h1' => ?_) (by rfl) (by with_unfolding_all rfl)
    rw [hmore] at h1'
    refine ev_storeCell (ν₁ := [(c.L + 1, o1'), (t, oD), (c.L + 5, o5), (c.L + 4, o4), (c.L + 3, o3), (184, tabObj #[])]) (by with_unfolding_all rfl) h2 (by walk_at "zsub") (ne_cons (cNe 1 2 (by decide)) (ne_cons (Ne.symm (tNe (c.L + 2, o2) (by walk_at "zmem"))) (ne_cons (cNe 5 2 (by decide)) (ne_cons (cNe 4 2 (by decide)) (ne_cons (cNe 3 2 (by decide)) (ne_cons (c184 2) ne_nil)))))) (fun o2' h2' => ?_) (by rfl) (by with_unfolding_all rfl)
    with_reducible refine then_next ?_
    with_reducible refine ev_cons ?_
    ((with_reducible refine' ev_Assign ?_ ?qs); (case qs => with_unfolding_all rfl))
    ((with_reducible refine' ev_Call ?_ ?qe); (case qe => with_unfolding_all rfl))
    ((with_reducible refine' ev_glob ?qez ?_ ?qg ?qk ?qx ?qd); (case qg => with_unfolding_all rfl); (case qk => with_unfolding_all rfl); (case qx => with_unfolding_all rfl); (case qd => decide); (case qez => k_is))
    ((with_reducible refine' ev_cwF_0 ?qk ?_ ?qe ?qp); (case qe => with_unfolding_all rfl); (case qp => with_unfolding_all rfl); (case qk => k_is))
    ((with_reducible refine' ev_spl ?_ ?qe); (case qe => with_unfolding_all rfl))
    ((with_reducible refine' ev_Call ?_ ?qe); (case qe => with_unfolding_all rfl))
    ((with_reducible refine' ev_glob ?qez ?_ ?qg ?qk ?qx ?qd); (case qg => with_unfolding_all rfl); (case qk => with_unfolding_all rfl); (case qx => with_unfolding_all rfl); (case qd => decide); (case qez => k_is))
    ((with_reducible refine' ev_cwF_0 ?qk ?_ ?qe ?qp); (case qe => with_unfolding_all rfl); (case qp => with_unfolding_all rfl); (case qk => k_is))
    ((with_reducible refine' ev_spl ?_ ?qe); (case qe => with_unfolding_all rfl))
    ((with_reducible refine ev_str ?_); intro _)
    ((with_reducible refine' ev_spl ?_ ?qe); (case qe => with_unfolding_all rfl))
    ((with_reducible refine ev_int ?_); intro _)
    ((with_reducible refine' ev_spl ?_ ?qe); (case qe => with_unfolding_all rfl))
    ((with_reducible refine' ev_local ?qvz ?_ ?qL ?qk ?qx ?qd); (case qL => with_unfolding_all rfl); (case qk => with_unfolding_all rfl); (case qx => with_unfolding_all rfl); (case qd => decide); (case qvz => walk_at "zlk"))
    ((with_reducible refine' ev_spl ?_ ?qe); (case qe => with_unfolding_all rfl))
    ((with_reducible refine' ev_Call ?_ ?qe); (case qe => with_unfolding_all rfl))
    ((with_reducible refine' ev_glob ?qez ?_ ?qg ?qk ?qx ?qd); (case qg => with_unfolding_all rfl); (case qk => with_unfolding_all rfl); (case qx => with_unfolding_all rfl); (case qd => decide); (case qez => k_is))
    ((with_reducible refine' ev_cwF_0 ?qk ?_ ?qe ?qp); (case qe => with_unfolding_all rfl); (case qp => with_unfolding_all rfl); (case qk => k_is))
    ((with_reducible refine' ev_spl ?_ ?qe); (case qe => with_unfolding_all rfl))
    ((with_reducible refine' ev_local ?qvz ?_ ?qL ?qk ?qx ?qd); (case qL => with_unfolding_all rfl); (case qk => with_unfolding_all rfl); (case qx => with_unfolding_all rfl); (case qd => decide); (case qvz => walk_at "zlk"))
    ((with_reducible refine' ev_spl ?_ ?qe); (case qe => with_unfolding_all rfl))
    ((with_reducible refine' ev_local ?qvz ?_ ?qL ?qk ?qx ?qd); (case qL => with_unfolding_all rfl); (case qk => with_unfolding_all rfl); (case qx => with_unfolding_all rfl); (case qd => decide); (case qvz => walk_at "zlk"))
    with_reducible refine ev_spl0 ?_
    refine c_law_rows (ν₁ := [(c.L + 2, o2'), (c.L + 1, o1'), (c.L + 5, o5), (c.L + 4, o4), (c.L + 3, o3), (184, tabObj #[])]) (by walk_at "zroom") hoD (by walk_at "zsub") (ne_cons (tNe (c.L + 2, o2) (by walk_at "zmem")) (ne_cons (tNe (c.L + 1, o1) (by walk_at "zmem")) (ne_cons (tNe (c.L + 5, o5) (by walk_at "zmem")) (ne_cons (tNe (c.L + 4, o4) (by walk_at "zmem")) (ne_cons (tNe (c.L + 3, o3) (by walk_at "zmem")) (ne_cons (tNe (184, tabObj #[]) (by walk_at "zmem")) ne_nil)))))) (by omega) fun l ol vs rs oT δ hoT hol hrs hbt hδ hlne => ?_
    obtain ⟨dep, rdy⟩ := built_ready (B := 13) hbt (by omega) (by decide)
    have hl13 := rdy.short
    have lay1 := built_lays hbt
    have hvl := hrs.length
    ((with_reducible refine' ev_spl ?_ ?qe); (case qe => with_unfolding_all rfl))
    with_reducible refine ev_Tuple ?_
    ((with_reducible refine' ev_spl ?_ ?qe); (case qe => with_unfolding_all rfl))
    ((with_reducible refine ev_str ?_); intro _)
    with_reducible refine ev_spl0 ?_
    refine ev_newTuple (fun st hst => ?_) (by simp [sizeLine])
    ((with_reducible refine' ev_spl ?_ ?qe); (case qe => with_unfolding_all rfl))
    with_reducible refine ev_Tuple ?_
    ((with_reducible refine' ev_spl ?_ ?qe); (case qe => with_unfolding_all rfl))
    ((with_reducible refine ev_str ?_); intro _)
    with_reducible refine ev_spl0 ?_
    refine ev_newTuple (fun cp hcp => ?_) (by simp [sizeLine])
    ((with_reducible refine' ev_spl ?_ ?qe); (case qe => with_unfolding_all rfl))
    with_reducible refine ev_Tuple ?_
    ((with_reducible refine' ev_spl ?_ ?qe); (case qe => with_unfolding_all rfl))
    ((with_reducible refine ev_str ?_); intro _)
    with_reducible refine ev_spl0 ?_
    refine ev_newTuple (fun mk hmk => ?_) (by simp [sizeLine])
    with_reducible refine ev_spl0 ?_
    refine c_Code (by walk_at "zroom") (by walk_at "zmem") hol (by omega) (by walk_at "zmem") tupO_mk (by walk_at "zmem") tupO_mk (.head _) tupO_mk fun x rt δ2 hδ2 hrt hin hat => ?_
    have fr2 : ∀ p ∈ δ2, @LT.lt Nat _ (c.L + 5) p.1 := fun p hp => hδ2 p hp (c.L + 5, o5) (by walk_at "zmem")
    have fr1 : ∀ p ∈ δ, @LT.lt Nat _ (c.L + 5) p.1 := fun p hp => hδ p hp (c.L + 5, o5) (by walk_at "zmem")
    obtain ⟨S, code1, frS, subS⟩ := codeIs_mk (L := c.L + 5) hat hin hcp hmk hδ2 hrs fr2 (hst (c.L + 5, o5) (by walk_at "zmem")) (hcp (c.L + 5, o5) (by walk_at "zmem")) (hmk (c.L + 5, o5) (by walk_at "zmem")) fr1
    with_reducible refine ev_spl0 ?_
    refine ev_sub (ν' := S ++ [(c.L + 1, o1'), (c.L + 2, o2'), (c.L + 3, o3), (c.L + 4, o4), (c.L + 5, o5), (184, tabObj #[])]) ?_ (sub_app (subS _ (by walk_at "zsub") (by walk_at "zmem") (by walk_at "zmem") (by walk_at "zmem") (by walk_at "zsub")) (by walk_at "zsub"))
    refine c_checked_code (by walk_at "zroom") (code1.mono (by walk_at "zsub")) (rdy.good (by omega) (by decide)) ?_
    obtain ⟨dx, es, nn, hx1, hx2, hD⟩ := code1.code
    obtain ⟨ort, hrt1, hrt2⟩ := code1.rows
    have hD1 := hD.rows
    ((with_reducible refine' ev_store ?_ ?qL ?qk ?qx); (case qL => with_unfolding_all rfl); (case qk => with_unfolding_all rfl); (case qx => with_unfolding_all rfl))
    with_reducible refine then_next ?_
    with_reducible refine ev_cons ?_
    ((with_reducible refine' ev_AssignSwap2 ?_ ?qs ?qw); (case qs => with_unfolding_all rfl); (case qw => with_unfolding_all rfl))
    with_reducible refine ev_Tuple ?_
    ((with_reducible refine' ev_spl ?_ ?qe); (case qe => with_unfolding_all rfl))
    ((with_reducible refine' ev_Call ?_ ?qe); (case qe => with_unfolding_all rfl))
    ((with_reducible refine' ev_bltn ?qez ?qv ?_ ?qn ?qg ?qb ?qk ?qx ?qd); (case qg => with_unfolding_all rfl); (case qb => with_unfolding_all rfl); (case qk => with_unfolding_all rfl); (case qx => with_unfolding_all rfl); (case qd => decide); (case qn => decide); (case qez => k_is); (case qv => first | boot_fast | boot_by_name))
    ((with_reducible refine' ev_cwT_0 ?_ ?qe ?qp); (case qe => with_unfolding_all rfl); (case qp => with_unfolding_all rfl))
    ((with_reducible refine' ev_spl ?_ ?qe); (case qe => with_unfolding_all rfl))
    ((with_reducible refine' ev_Attr ?_ ?qe); (case qe => with_unfolding_all rfl))
    ((with_reducible refine' ev_local ?qvz ?_ ?qL ?qk ?qx ?qd); (case qL => with_unfolding_all rfl); (case qk => with_unfolding_all rfl); (case qx => with_unfolding_all rfl); (case qd => decide); (case qvz => walk_at "zlk"))
    ((with_reducible refine' ev_getAttr ?qx ?qdx ?qg ?qh ?qa ?qn ?ql ?qv ?_); (case qx => walk_at "zmem"); (case qdx => walk_at "zmem"); (case ql => assumption); (case qg => k_is); (case qh => k_is); (case qa => k_is); (case qn => k_is); (case qv => exact rfl))
    with_reducible refine ev_spl0 ?_
    refine ev_listOfT (by walk_at "zmem") hrt2 (by unfold sizeLine; omega) fun lr olr hlr holr => ?_
    ((with_reducible refine' ev_spl ?_ ?qe); (case qe => with_unfolding_all rfl))
    with_reducible refine ev_BinOp ?_
    with_reducible refine ev_List ?_
    ((with_reducible refine' ev_spl ?_ ?qe); (case qe => with_unfolding_all rfl))
    with_reducible refine ev_Tuple ?_
    ((with_reducible refine' ev_spl ?_ ?qe); (case qe => with_unfolding_all rfl))
    ((with_reducible refine ev_str ?_); intro _)
    ((with_reducible refine' ev_spl ?_ ?qe); (case qe => with_unfolding_all rfl))
    ((with_reducible refine ev_int ?_); intro _)
    ((with_reducible refine' ev_spl ?_ ?qe); (case qe => with_unfolding_all rfl))
    with_reducible refine ev_Tuple ?_
    ((with_reducible refine' ev_spl ?_ ?qe); (case qe => with_unfolding_all rfl))
    ((with_reducible refine ev_str ?_); intro _)
    with_reducible refine ev_spl0 ?_
    refine ev_newTuple (fun N1 hN1 => ?_) (by simp [sizeLine])
    with_reducible refine ev_spl0 ?_
    refine ev_newTuple (fun N2 hN2 => ?_) (by simp [sizeLine])
    with_reducible refine ev_spl0 ?_
    refine ev_newList (fun la hla => ?_) (by simp [sizeLine])
    ((with_reducible refine' ev_cell ?qc ?qm ?qo ?_ ?qk ?qx ?qd); (case qk => with_unfolding_all rfl); (case qx => with_unfolding_all rfl); (case qd => decide); (case qc => with_unfolding_all rfl); (case qm => walk_at "zmem"); (case qo => assumption))
    refine ev_mulL (.head _) lstO_mk (by omega) (by omega) (by simp; omega) fun lh olh hlh holh => ?_
    with_reducible refine ev_spl0 ?_
    refine ev_newTuple (fun T2 hT2 => ?_) (by simp [sizeLine])
    refine ⟨T2, _, _, _, rfl, .head _, tupO_mk, ?_⟩
    obtain ⟨S1, sS1, hlr1, hlh1, hah1, frS1, subS1⟩ := ahead_mk (L := c.L + 5) (olr := olr) (olh := olh) frS hlr hN1 hla (hlr (c.L + 5, o5) (by walk_at "zmem")) (hN1 (c.L + 5, o5) (by walk_at "zmem")) (hN2 (c.L + 5, o5) (by walk_at "zmem")) (hlh (c.L + 5, o5) (by walk_at "zmem"))
    refine ev_sub (ν' := S1 ++ [(c.L + 1, o1'), (c.L + 2, o2'), (c.L + 3, o3), (c.L + 4, o4), (c.L + 5, o5), (184, tabObj #[])]) ?_ (sub_app (subS1 _ (by walk_at "zsub") (by walk_at "zmem") (by walk_at "zmem") (by walk_at "zmem") (by walk_at "zmem")) (by walk_at "zsub"))
    clear subS1 subS hlr hN1 hla hN2 hlh hT2
    replace code1 := code1.mono sS1
    replace hx1 := sS1 _ hx1
    replace hx2 := sS1 _ hx2
    replace hrt1 := sS1 _ hrt1
    clear sS1 frS
    ((with_reducible refine' ev_store ?_ ?qL ?qk ?qx); (case qL => with_unfolding_all rfl); (case qk => with_unfolding_all rfl); (case qx => with_unfolding_all rfl))
    ((with_reducible refine' ev_store ?_ ?qL ?qk ?qx); (case qL => with_unfolding_all rfl); (case qk => with_unfolding_all rfl); (case qx => with_unfolding_all rfl))
    with_reducible refine then_next ?_
    with_reducible refine ev_cons ?_
    ((with_reducible refine' ev_Assign ?_ ?qs); (case qs => with_unfolding_all rfl))
    ((with_reducible refine' ev_CallM ?_ ?qe); (case qe => with_unfolding_all rfl))
    ((with_reducible refine' ev_local ?qvz ?_ ?qL ?qk ?qx ?qd); (case qL => with_unfolding_all rfl); (case qk => with_unfolding_all rfl); (case qx => with_unfolding_all rfl); (case qd => decide); (case qvz => walk_at "zlk"))
    refine' ev_getMeth ?hx ?hdx ?hg ?hf ?ht ?hl9 ?_
    case hx => walk_at "zmem"
    case hdx => walk_at "zmem"
    case hg => k_is
    case hf => k_is
    case ht => k_is
    case hl9 => exact hD.meth
    ((with_reducible refine' ev_cwF_1 ?qk ?_ ?qe ?qp); (case qe => with_unfolding_all rfl); (case qp => with_unfolding_all rfl); (case qk => k_is))
    ((with_reducible refine' ev_spl ?_ ?qe); (case qe => with_unfolding_all rfl))
    with_reducible refine ev_BinOp ?_
    ((with_reducible refine' ev_local ?qvz ?_ ?qL ?qk ?qx ?qd); (case qL => with_unfolding_all rfl); (case qk => with_unfolding_all rfl); (case qx => with_unfolding_all rfl); (case qd => decide); (case qvz => walk_at "zlk"))
    ((with_reducible refine' ev_Call ?_ ?qe); (case qe => with_unfolding_all rfl))
    ((with_reducible refine' ev_glob ?qez ?_ ?qg ?qk ?qx ?qd); (case qg => with_unfolding_all rfl); (case qk => with_unfolding_all rfl); (case qx => with_unfolding_all rfl); (case qd => decide); (case qez => k_is))
    ((with_reducible refine' ev_cwF_0 ?qk ?_ ?qe ?qp); (case qe => with_unfolding_all rfl); (case qp => with_unfolding_all rfl); (case qk => k_is))
    ((with_reducible refine' ev_spl ?_ ?qe); (case qe => with_unfolding_all rfl))
    ((with_reducible refine' ev_local ?qvz ?_ ?qL ?qk ?qx ?qd); (case qL => with_unfolding_all rfl); (case qk => with_unfolding_all rfl); (case qx => with_unfolding_all rfl); (case qd => decide); (case qvz => walk_at "zlk"))
    ((with_reducible refine' ev_spl ?_ ?qe); (case qe => with_unfolding_all rfl))
    ((with_reducible refine' ev_cell ?qc ?qm ?qo ?_ ?qk ?qx ?qd); (case qk => with_unfolding_all rfl); (case qx => with_unfolding_all rfl); (case qd => decide); (case qc => with_unfolding_all rfl); (case qm => walk_at "zmem"); (case qo => assumption))
    ((with_reducible refine' ev_spl ?_ ?qe); (case qe => with_unfolding_all rfl))
    ((with_reducible refine' ev_cell ?qc ?qm ?qo ?_ ?qk ?qx ?qd); (case qk => with_unfolding_all rfl); (case qx => with_unfolding_all rfl); (case qd => decide); (case qc => with_unfolding_all rfl); (case qm => walk_at "zmem"); (case qo => assumption))
    with_reducible refine ev_spl0 ?_
    have fr184 : ∀ n : Addr, @LT.lt Nat _ (c.L + 5) n → n ≠ 184 := fun n h e => by rw [e] at h; exact Nat.lt_irrefl _ (Nat.lt_of_lt_of_le h184 (Nat.le_trans (Nat.le_add_right c.L 5) (Nat.le_of_lt h)))
    refine c_law_moved (ν₁ := S1 ++ [(c.L + 1, o1'), (c.L + 2, o2'), (c.L + 3, o3), (c.L + 4, o4), (c.L + 5, o5)]) (ps := #[]) (by walk_at "zroom") hC (by walk_at "zsub") (ne_app (fun p hp => fr184 _ (frS1 p hp)) (ne_cons (Ne.symm (c184 1)) (ne_cons (Ne.symm (c184 2)) (ne_cons (Ne.symm (c184 3)) (ne_cons (Ne.symm (c184 4)) (ne_cons (Ne.symm (c184 5)) ne_nil)))))) ⟨trivial, fun _ => .inl rfl⟩ (by walk_at "zmem") (.inl holr) (code1.each.mono fun _ _ y => y.mono (KeepT.of (by walk_at "zbase"))) (by omega) rdy.shape fun D3 oD3 ws ps δ3 hD3 hoD3 hws hTb hδ3 => ?_
    have keep3 : ∀ p ∈ δ3 ++ (S1 ++ [(c.L + 1, o1'), (c.L + 2, o2'), (c.L + 3, o3), (c.L + 4, o4), (c.L + 5, o5)]), (∃ v, p.2.data = .cell v) ∨ p ∈ δ3 ++ S1 := by
      intro p hp
      rcases List.mem_append.mp hp with hp | hp
      · exact .inr (List.mem_append_left _ hp)
      · rcases List.mem_append.mp hp with hp | hp
        · exact .inr (List.mem_append_right _ hp)
        · rcases hp with _ | ⟨_, _ | ⟨_, _ | ⟨_, _ | ⟨_, _ | ⟨_, hp⟩⟩⟩⟩⟩
          · exact .inl ⟨_, h1'⟩
          · exact .inl ⟨_, h2'⟩
          · exact .inl ⟨_, h3⟩
          · exact .inl ⟨_, h4⟩
          · exact .inl ⟨_, h5⟩
          · cases hp
    replace hws := hws.keep keep3
    replace hTb := hTb.keep keep3
    have fr3 : ∀ p ∈ δ3, @LT.lt Nat _ (c.L + 5) p.1 := fun p hp => (hδ3 p hp).1 (c.L + 5, o5) (by walk_at "zmem")
    have frD3 : @LT.lt Nat _ (c.L + 5) D3 := hD3 (c.L + 5, o5) (by walk_at "zmem")
    clear keep3
    refine ev_addL (a := lh) (b := D3) (by walk_at "zmem") holh (by walk_at "zmem") hoD3 (by simp [hws.length, sizeLine]; omega) fun l5 ol5 hl5 hol5 => ?_
    ((with_reducible refine' ev_spl ?_ ?qe); (case qe => with_unfolding_all rfl))
    with_reducible refine ev_BinOp ?_
    ((with_reducible refine' ev_local ?qvz ?_ ?qL ?qk ?qx ?qd); (case qL => with_unfolding_all rfl); (case qk => with_unfolding_all rfl); (case qx => with_unfolding_all rfl); (case qd => decide); (case qvz => walk_at "zlk"))
    ((with_reducible refine' ev_cell ?qc ?qm ?qo ?_ ?qk ?qx ?qd); (case qk => with_unfolding_all rfl); (case qx => with_unfolding_all rfl); (case qd => decide); (case qc => with_unfolding_all rfl); (case qm => walk_at "zmem"); (case qo => assumption))
    ((with_reducible refine ev_add ?_); intro _)
    with_reducible refine ev_spl0 ?_
    have sub1 : ∀ p ∈ S1, p ∈ δ3 ++ S1 := fun p hp => List.mem_append_right _ hp
    replace code1 := code1.mono sub1
    replace hx1 := sub1 _ hx1
    replace hx2 := sub1 _ hx2
    replace hrt1 := sub1 _ hrt1
    replace hlr1 := sub1 _ hlr1
    replace hah1 := hah1.mono (KeepT.of sub1)
    have frS2 : ∀ p ∈ δ3 ++ S1, @LT.lt Nat _ (c.L + 5) p.1 := fun p hp => (List.mem_append.mp hp).elim (fr3 p) (frS1 p)
    have frl5 : @LT.lt Nat _ (c.L + 5) l5 := hl5 (c.L + 5, o5) (by walk_at "zmem")
    refine ev_sub (ν' := (l5, ol5) :: ((δ3 ++ S1) ++ [(c.L + 1, o1'), (c.L + 2, o2'), (c.L + 3, o3), (c.L + 4, o4), (c.L + 5, o5), (184, tabObj ps)])) ?_ (by walk_at "zsub")
    clear hl5 hδ3 fr3 frS1 hD3 sub1 hlh1
    generalize δ3 ++ S1 = S2 at code1 hx1 hx2 hrt1 hlr1 hah1 frS2 hws hTb ⊢
    have hw2 : RowsV S2 (wholeOf rs more below) ((List.replicate (more : Int).toNat [Value.ref N2]).flatten ++ ws) := (rows_rep hah1 more).app hws
    have hwl := hw2.length
    rw [whole_len] at hwl
    refine c_with_rows (σ := S2) (by walk_at "zroom") (by walk_at "zbase") code1 (.head _) hol5 hw2 (by omega) fun x2 rt2 δ4 hδ4 code2 => ?_
    have fr4 : ∀ p ∈ δ4, @LT.lt Nat _ (c.L + 5) p.1 := fun p hp => hδ4 p hp (c.L + 5, o5) (by walk_at "zmem")
    have sub2 : ∀ p ∈ S2, p ∈ δ4 ++ S2 := fun p hp => List.mem_append_right _ hp
    replace code1 := code1.mono sub2
    replace hx1 := sub2 _ hx1
    replace hx2 := sub2 _ hx2
    replace hrt1 := sub2 _ hrt1
    replace hlr1 := sub2 _ hlr1
    replace hTb := hTb.mono sub2
    have frS3 : ∀ p ∈ δ4 ++ S2, @LT.lt Nat _ (c.L + 5) p.1 := fun p hp => (List.mem_append.mp hp).elim (fr4 p) (frS2 p)
    refine ev_sub (ν' := (c.L + 3, o3) :: ((δ4 ++ S2) ++ [(c.L + 1, o1'), (c.L + 2, o2'), (c.L + 4, o4), (c.L + 5, o5), (184, tabObj ps)])) ?_ (by walk_at "zsub")
    clear hδ4 fr4 frS2 sub2 hw2 hws hah1
    generalize δ4 ++ S2 = S3 at code1 hx1 hx2 hrt1 hlr1 hTb frS3 code2 ⊢
    have frN : ∀ j : Nat, j ≤ 5 → ∀ n : Addr, @LT.lt Nat _ (c.L + 5) n → n ≠ c.L + j := fun j hj n h e => by rw [e] at h; exact Nat.lt_irrefl _ (Nat.lt_of_lt_of_le h (Nat.add_le_add_left hj _))
    refine ev_storeCell (ν₁ := S3 ++ [(c.L + 1, o1'), (c.L + 2, o2'), (c.L + 4, o4), (c.L + 5, o5), (184, tabObj ps)]) (by with_unfolding_all rfl) h3 (fun _ x => x) (ne_app (fun p hp => frN 3 (by decide) _ (frS3 p hp)) (ne_cons (cNe 1 3 (by decide)) (ne_cons (cNe 2 3 (by decide)) (ne_cons (cNe 4 3 (by decide)) (ne_cons (cNe 5 3 (by decide)) (ne_cons (c184 3) ne_nil)))))) (fun o3' h3' => ?_) (by rfl) (by with_unfolding_all rfl)
    with_reducible refine then_next ?_
    with_reducible refine ev_cons ?_
    with_reducible refine ev_If ?_
    with_reducible refine ev_isOr ?_
    ((with_reducible refine' ev_isCompare ?_ ?qs); (case qs => with_unfolding_all rfl))
    ((with_reducible refine' ev_Call ?_ ?qe); (case qe => with_unfolding_all rfl))
    ((with_reducible refine' ev_glob ?qez ?_ ?qg ?qk ?qx ?qd); (case qg => with_unfolding_all rfl); (case qk => with_unfolding_all rfl); (case qx => with_unfolding_all rfl); (case qd => decide); (case qez => k_is))
    ((with_reducible refine' ev_cwF_0 ?qk ?_ ?qe ?qp); (case qe => with_unfolding_all rfl); (case qp => with_unfolding_all rfl); (case qk => k_is))
    ((with_reducible refine' ev_spl ?_ ?qe); (case qe => with_unfolding_all rfl))
    ((with_reducible refine' ev_cell ?qc ?qm ?qo ?_ ?qk ?qx ?qd); (case qk => with_unfolding_all rfl); (case qx => with_unfolding_all rfl); (case qd => decide); (case qc => with_unfolding_all rfl); (case qm => walk_at "zmem"); (case qo => assumption))
    with_reducible refine ev_spl0 ?_
    refine c_checked_code (by walk_at "zroom") (code2.mono (by walk_at "zsub")) ((rdy.whole (by omega) d0 (by omega) (by omega)).good (by omega) (by decide)) ?_
    ((with_reducible refine' ev_cell ?qc ?qm ?qo ?_ ?qk ?qx ?qd); (case qk => with_unfolding_all rfl); (case qx => with_unfolding_all rfl); (case qd => decide); (case qc => with_unfolding_all rfl); (case qm => walk_at "zmem"); (case qo => assumption))
    refine ev_isNotSelf ?_
    generalize (List.replicate (more : Int).toNat [Value.ref N2]).flatten ++ ws = vs2 at code2 hwl hol5
    obtain ⟨dy, es2, n2', hy1, hy2, hE⟩ := code2.code
    obtain ⟨ort2, hrt3, hrt4⟩ := code2.rows
    obtain ⟨tn, hnm⟩ := hE.name
    obtain ⟨ta2, har⟩ := hE.arity
    obtain ⟨ts2, hsl⟩ := hE.slots
    have e1 := hE.rows
    have e2 := hE.static
    have e3 := hE.captures
    have e4 := hE.marks
    obtain ⟨ost, tst, hst1, hst2⟩ := code2.static
    obtain ⟨ocp, tcp, hcp1, hcp2⟩ := code2.captures
    obtain ⟨omk, tmk, hmk1, hmk2⟩ := code2.marks
    with_reducible refine ev_truthyB ?_
    with_reducible refine ite_F ?_
    with_reducible refine ev_isOr ?_
    ((with_reducible refine' ev_isCompare ?_ ?qs); (case qs => with_unfolding_all rfl))
    with_reducible refine ev_Tuple ?_
    ((with_reducible refine' ev_spl ?_ ?qe); (case qe => with_unfolding_all rfl))
    ((with_reducible refine' ev_Attr ?_ ?qe); (case qe => with_unfolding_all rfl))
    ((with_reducible refine' ev_cell ?qc ?qm ?qo ?_ ?qk ?qx ?qd); (case qk => with_unfolding_all rfl); (case qx => with_unfolding_all rfl); (case qd => decide); (case qc => with_unfolding_all rfl); (case qm => walk_at "zmem"); (case qo => assumption))
    ((with_reducible refine' ev_getAttr ?qx ?qdx ?qg ?qh ?qa ?qn ?ql ?qv ?_); (case qx => walk_at "zmem"); (case qdx => walk_at "zmem"); (case ql => assumption); (case qg => k_is); (case qh => k_is); (case qa => k_is); (case qn => k_is); (case qv => exact rfl))
    ((with_reducible refine' ev_spl ?_ ?qe); (case qe => with_unfolding_all rfl))
    ((with_reducible refine' ev_Attr ?_ ?qe); (case qe => with_unfolding_all rfl))
    ((with_reducible refine' ev_cell ?qc ?qm ?qo ?_ ?qk ?qx ?qd); (case qk => with_unfolding_all rfl); (case qx => with_unfolding_all rfl); (case qd => decide); (case qc => with_unfolding_all rfl); (case qm => walk_at "zmem"); (case qo => assumption))
    ((with_reducible refine' ev_getAttr ?qx ?qdx ?qg ?qh ?qa ?qn ?ql ?qv ?_); (case qx => walk_at "zmem"); (case qdx => walk_at "zmem"); (case ql => assumption); (case qg => k_is); (case qh => k_is); (case qa => k_is); (case qn => k_is); (case qv => exact rfl))
    ((with_reducible refine' ev_spl ?_ ?qe); (case qe => with_unfolding_all rfl))
    ((with_reducible refine' ev_Attr ?_ ?qe); (case qe => with_unfolding_all rfl))
    ((with_reducible refine' ev_cell ?qc ?qm ?qo ?_ ?qk ?qx ?qd); (case qk => with_unfolding_all rfl); (case qx => with_unfolding_all rfl); (case qd => decide); (case qc => with_unfolding_all rfl); (case qm => walk_at "zmem"); (case qo => assumption))
    ((with_reducible refine' ev_getAttr ?qx ?qdx ?qg ?qh ?qa ?qn ?ql ?qv ?_); (case qx => walk_at "zmem"); (case qdx => walk_at "zmem"); (case ql => assumption); (case qg => k_is); (case qh => k_is); (case qa => k_is); (case qn => k_is); (case qv => exact rfl))
    ((with_reducible refine' ev_spl ?_ ?qe); (case qe => with_unfolding_all rfl))
    ((with_reducible refine' ev_Attr ?_ ?qe); (case qe => with_unfolding_all rfl))
    ((with_reducible refine' ev_cell ?qc ?qm ?qo ?_ ?qk ?qx ?qd); (case qk => with_unfolding_all rfl); (case qx => with_unfolding_all rfl); (case qd => decide); (case qc => with_unfolding_all rfl); (case qm => walk_at "zmem"); (case qo => assumption))
    ((with_reducible refine' ev_getAttr ?qx ?qdx ?qg ?qh ?qa ?qn ?ql ?qv ?_); (case qx => walk_at "zmem"); (case qdx => walk_at "zmem"); (case ql => assumption); (case qg => k_is); (case qh => k_is); (case qa => k_is); (case qn => k_is); (case qv => exact rfl))
    ((with_reducible refine' ev_spl ?_ ?qe); (case qe => with_unfolding_all rfl))
    ((with_reducible refine' ev_Attr ?_ ?qe); (case qe => with_unfolding_all rfl))
    ((with_reducible refine' ev_cell ?qc ?qm ?qo ?_ ?qk ?qx ?qd); (case qk => with_unfolding_all rfl); (case qx => with_unfolding_all rfl); (case qd => decide); (case qc => with_unfolding_all rfl); (case qm => walk_at "zmem"); (case qo => assumption))
    ((with_reducible refine' ev_getAttr ?qx ?qdx ?qg ?qh ?qa ?qn ?ql ?qv ?_); (case qx => walk_at "zmem"); (case qdx => walk_at "zmem"); (case ql => assumption); (case qg => k_is); (case qh => k_is); (case qa => k_is); (case qn => k_is); (case qv => exact rfl))
    with_reducible refine ev_spl0 ?_
    refine ev_newTuple (fun A1 hA1 => ?_) (by simp [sizeLine])
    with_reducible refine ev_Tuple ?_
    ((with_reducible refine' ev_spl ?_ ?qe); (case qe => with_unfolding_all rfl))
    ((with_reducible refine ev_str ?_); intro _)
    ((with_reducible refine' ev_spl ?_ ?qe); (case qe => with_unfolding_all rfl))
    ((with_reducible refine ev_int ?_); intro _)
    ((with_reducible refine' ev_spl ?_ ?qe); (case qe => with_unfolding_all rfl))
    with_reducible refine ev_Tuple ?_
    ((with_reducible refine' ev_spl ?_ ?qe); (case qe => with_unfolding_all rfl))
    ((with_reducible refine ev_str ?_); intro _)
    with_reducible refine ev_spl0 ?_
    refine ev_newTuple (fun A2 hA2 => ?_) (by simp [sizeLine])
    ((with_reducible refine' ev_spl ?_ ?qe); (case qe => with_unfolding_all rfl))
    with_reducible refine ev_Tuple ?_
    ((with_reducible refine' ev_spl ?_ ?qe); (case qe => with_unfolding_all rfl))
    ((with_reducible refine ev_str ?_); intro _)
    with_reducible refine ev_spl0 ?_
    refine ev_newTuple (fun A3 hA3 => ?_) (by simp [sizeLine])
    ((with_reducible refine' ev_spl ?_ ?qe); (case qe => with_unfolding_all rfl))
    with_reducible refine ev_Tuple ?_
    ((with_reducible refine' ev_spl ?_ ?qe); (case qe => with_unfolding_all rfl))
    ((with_reducible refine ev_str ?_); intro _)
    with_reducible refine ev_spl0 ?_
    refine ev_newTuple (fun A4 hA4 => ?_) (by simp [sizeLine])
    with_reducible refine ev_spl0 ?_
    refine ev_newTuple (fun A5 hA5 => ?_) (by simp [sizeLine])
    refine ev_neD (via_row rowF _ (row_mk (by walk_at "zmem") tupO_mk (.cons pv_xi (.cons (pv_xt (by walk_at "zmem") hst2 (.cons av_s .nil)) (.cons (pv_xt (by walk_at "zmem") hcp2 (.cons av_s .nil)) (.cons (pv_xt (by walk_at "zmem") hmk2 (.cons av_s .nil)) .nil))))))
      (via_row rowF _ (row_mk (.head _) tupO_mk (.cons pv_xi (.cons (pv_xt (by walk_at "zmem") tupO_mk (.cons av_s .nil)) (.cons (pv_xt (by walk_at "zmem") tupO_mk (.cons av_s .nil)) (.cons (pv_xt (by walk_at "zmem") tupO_mk (.cons av_s .nil)) .nil)))))) shF shF (by walk_at "zroom") ?_
    rw [eqF]
    with_reducible refine ev_truthyB ?_
    with_reducible refine ite_isF (b := !true) rfl ?_
    with_reducible refine ev_isOr ?_
    ((with_reducible refine' ev_isCompare ?_ ?qs); (case qs => with_unfolding_all rfl))
    ((with_reducible refine' ev_Attr ?_ ?qe); (case qe => with_unfolding_all rfl))
    ((with_reducible refine' ev_cell ?qc ?qm ?qo ?_ ?qk ?qx ?qd); (case qk => with_unfolding_all rfl); (case qx => with_unfolding_all rfl); (case qd => decide); (case qc => with_unfolding_all rfl); (case qm => walk_at "zmem"); (case qo => assumption))
    ((with_reducible refine' ev_getAttr ?qx ?qdx ?qg ?qh ?qa ?qn ?ql ?qv ?_); (case qx => walk_at "zmem"); (case qdx => walk_at "zmem"); (case ql => assumption); (case qg => k_is); (case qh => k_is); (case qa => k_is); (case qn => k_is); (case qv => exact rfl))
    with_reducible refine ev_BinOp ?_
    ((with_reducible refine' ev_local ?qvz ?_ ?qL ?qk ?qx ?qd); (case qL => with_unfolding_all rfl); (case qk => with_unfolding_all rfl); (case qx => with_unfolding_all rfl); (case qd => decide); (case qvz => walk_at "zlk"))
    ((with_reducible refine' ev_cell ?qc ?qm ?qo ?_ ?qk ?qx ?qd); (case qk => with_unfolding_all rfl); (case qx => with_unfolding_all rfl); (case qd => decide); (case qc => with_unfolding_all rfl); (case qm => walk_at "zmem"); (case qo => assumption))
    ((with_reducible refine ev_add ?_); intro _)
    with_reducible refine ev_ne ?_
    with_reducible refine ev_truthyB ?_
    refine ite_isF (bne_self_eq_false _) ?_
    with_reducible refine ev_isOr0 ?_
    with_reducible refine ite_F ?_
    with_reducible refine ev_nil ?_
    with_reducible refine then_next ?_
    with_reducible refine ev_cons ?_
    ((with_reducible refine' ev_AssignSwap2 ?_ ?qs ?qw); (case qs => with_unfolding_all rfl); (case qw => with_unfolding_all rfl))
    with_reducible refine ev_Tuple ?_
    ((with_reducible refine' ev_spl ?_ ?qe); (case qe => with_unfolding_all rfl))
    ((with_reducible refine' ev_Call ?_ ?qe); (case qe => with_unfolding_all rfl))
    ((with_reducible refine' ev_glob ?qez ?_ ?qg ?qk ?qx ?qd); (case qg => with_unfolding_all rfl); (case qk => with_unfolding_all rfl); (case qx => with_unfolding_all rfl); (case qd => decide); (case qez => k_is))
    ((with_reducible refine' ev_cwF_0 ?qk ?_ ?qe ?qp); (case qe => with_unfolding_all rfl); (case qp => with_unfolding_all rfl); (case qk => k_is))
    ((with_reducible refine' ev_spl ?_ ?qe); (case qe => with_unfolding_all rfl))
    ((with_reducible refine' ev_local ?qvz ?_ ?qL ?qk ?qx ?qd); (case qL => with_unfolding_all rfl); (case qk => with_unfolding_all rfl); (case qx => with_unfolding_all rfl); (case qd => decide); (case qvz => walk_at "zlk"))
    with_reducible refine ev_spl0 ?_
    refine ev_sub (ν' := S3 ++ [(c.L + 3, o3'), (c.L + 1, o1'), (c.L + 2, o2'), (c.L + 4, o4), (c.L + 5, o5), (184, tabObj ps)]) ?_ (by walk_at "zsub")
    refine ev_locals fun m7 hm7 => ?_
    have q1 : m7 "rows" = some (.ref lr) := by rw [hm7]; walk_at "zlk"
    have q2 : m7 "code" = some (.ref x) := by rw [hm7]; walk_at "zlk"
    clear hm7
    have h40 : vs.length < 2 ^ 40 := by omega
    have rowAt : ∀ k r, rs[k]? = some r → RowAt 13 (2 + a) rs.length dep k r := fun k r e => by have := rdy.rows k r e; rwa [Nat.zero_add] at this
    have rdy2 := rdy.whole (more := more) (below := below) (by omega) d0 (by omega) (by omega)
    have rowAt2 : ∀ k r, (wholeOf rs more below)[k]? = some r → RowAt (13 + 10) (2 + a + below) (wholeOf rs more below).length (depUp dep more) k r := fun k r e => by have := rdy2.rows k r e; rwa [Nat.zero_add] at this
    have hwo : (wholeOf rs more below).length = rs.length + more := whole_len
    refine c_depths_of (dep := dep) (by walk_at "zroom") (code1.code.mono (by walk_at "zbase")) (by walk_at "zmem") hrt2 (code1.each.mono fun _ _ y => y.mono (KeepT.of (by walk_at "zbase"))) (by omega) rdy.any (fun k r e => ⟨(rowAt k r e).good.shaped, (rowAt k r e).good.fols, (rowAt k r e).dep⟩) rdy.start fun E1 oE1 kv1 hE1 sE1 hdE1 hdd1 => ?_
    ((with_reducible refine' ev_spl ?_ ?qe); (case qe => with_unfolding_all rfl))
    ((with_reducible refine' ev_Call ?_ ?qe); (case qe => with_unfolding_all rfl))
    ((with_reducible refine' ev_glob ?qez ?_ ?qg ?qk ?qx ?qd); (case qg => with_unfolding_all rfl); (case qk => with_unfolding_all rfl); (case qx => with_unfolding_all rfl); (case qd => decide); (case qez => k_is))
    ((with_reducible refine' ev_cwF_0 ?qk ?_ ?qe ?qp); (case qe => with_unfolding_all rfl); (case qp => with_unfolding_all rfl); (case qk => k_is))
    ((with_reducible refine' ev_spl ?_ ?qe); (case qe => with_unfolding_all rfl))
    ((with_reducible refine' ev_cell ?qc ?qm ?qo ?_ ?qk ?qx ?qd); (case qk => with_unfolding_all rfl); (case qx => with_unfolding_all rfl); (case qd => decide); (case qc => with_unfolding_all rfl); (case qm => walk_at "zmem"); (case qo => assumption))
    with_reducible refine ev_spl0 ?_
    refine c_depths_of (dep := depUp dep more) (by walk_at "zroom") (code2.code.mono (by walk_at "zbase")) (by walk_at "zmem") hrt4 (code2.each.mono fun _ _ y => y.mono (KeepT.of (by walk_at "zbase"))) (by omega) (by omega) (fun k r e => ⟨(rowAt2 k r e).good.shaped, (rowAt2 k r e).good.fols, (rowAt2 k r e).dep⟩) rdy2.start fun E2 oE2 kv2 hE2 sE2 hdE2 hdd2 => ?_
    with_reducible refine ev_spl0 ?_
    refine ev_newTuple (fun T7 hT7 => ?_) (by simp [sizeLine])
    refine ⟨T7, _, _, _, rfl, .head _, tupO_mk, ?_⟩
    have frE1 : @LT.lt Nat _ (c.L + 5) E1 := hE1 (c.L + 5, o5) (by walk_at "zmem")
    have frE2 : @LT.lt Nat _ (c.L + 5) E2 := hE2 (c.L + 5, o5) (by walk_at "zmem")
    ((with_reducible refine' ev_store ?_ ?qL ?qk ?qx); (case qL => with_unfolding_all rfl); (case qk => with_unfolding_all rfl); (case qx => with_unfolding_all rfl))
    ((with_reducible refine' ev_store ?_ ?qL ?qk ?qx); (case qL => with_unfolding_all rfl); (case qk => with_unfolding_all rfl); (case qx => with_unfolding_all rfl))
    with_reducible refine then_next ?_
    with_reducible refine ev_cons ?_
    obtain ⟨N8, hN8⟩ : ∃ N, N = (E2, oE2) :: (E1, oE1) :: (S3 ++ [(c.L + 3, o3'), (c.L + 1, o1'), (c.L + 2, o2'), (c.L + 4, o4), (c.L + 5, o5), (184, tabObj ps)]) := ⟨_, rfl⟩
    have s8 : ∀ p ∈ S3, p ∈ N8 := by rw [hN8]; walk_at "zbase"
    have n1 : (E1, oE1) ∈ N8 := by rw [hN8]; walk_at "zmem"
    have n2 : (E2, oE2) ∈ N8 := by rw [hN8]; walk_at "zmem"
    have n3 : (c.L + 1, o1') ∈ N8 := by rw [hN8]; walk_at "zmem"
    have n4 : (c.L + 2, o2') ∈ N8 := by rw [hN8]; walk_at "zmem"
    have n5 : (c.L + 3, o3') ∈ N8 := by rw [hN8]; walk_at "zmem"
    have n6 := s8 _ hx1
    have n7 := s8 _ hx2
    have n8 := s8 _ hrt1
    have n9 := s8 _ hlr1
    have n10 := s8 _ hy1
    have n11 := s8 _ hy2
    have n12 := s8 _ hrt3
    have each1 : RowsV N8 rs vs := code1.each.mono fun _ _ y => y.mono (KeepT.of s8)
    have each2 : RowsV N8 (wholeOf rs more below) vs2 := code2.each.mono fun _ _ y => y.mono (KeepT.of s8)
    refine ev_sub (ν' := N8) ?_ (by rw [hN8]; walk_at "zsub")
    refine ev_For ?_ outNoX (Rb := NoX) (hs := fun _ => rfl)
    ((with_reducible refine' ev_Call ?_ ?qe); (case qe => with_unfolding_all rfl))
    ((with_reducible refine' ev_bltn ?qez ?qv ?_ ?qn ?qg ?qb ?qk ?qx ?qd); (case qg => with_unfolding_all rfl); (case qb => with_unfolding_all rfl); (case qk => with_unfolding_all rfl); (case qx => with_unfolding_all rfl); (case qd => decide); (case qn => decide); (case qez => k_is); (case qv => first | boot_fast | boot_by_name))
    ((with_reducible refine' ev_cwT_0 ?_ ?qe ?qp); (case qe => with_unfolding_all rfl); (case qp => with_unfolding_all rfl))
    ((with_reducible refine' ev_spl ?_ ?qe); (case qe => with_unfolding_all rfl))
    ((with_reducible refine' ev_Call ?_ ?qe); (case qe => with_unfolding_all rfl))
    ((with_reducible refine' ev_bltn ?qez ?qv ?_ ?qn ?qg ?qb ?qk ?qx ?qd); (case qg => with_unfolding_all rfl); (case qb => with_unfolding_all rfl); (case qk => with_unfolding_all rfl); (case qx => with_unfolding_all rfl); (case qd => decide); (case qn => decide); (case qez => k_is); (case qv => first | boot_fast | boot_by_name))
    ((with_reducible refine' ev_cwB_0 ?_ ?qe ?qp); (case qe => with_unfolding_all rfl); (case qp => with_unfolding_all rfl))
    ((with_reducible refine' ev_spl ?_ ?qe); (case qe => with_unfolding_all rfl))
    ((with_reducible refine' ev_local ?qvz ?_ ?qL ?qk ?qx ?qd); (case qL => with_unfolding_all rfl); (case qk => with_unfolding_all rfl); (case qx => with_unfolding_all rfl); (case qd => decide); (case qvz => walk_at "zlk"))
    with_reducible refine ev_spl0 ?_
    ((with_reducible refine' ev_lenL ?qm ?qo ?qf ?_); (case qm => walk_at "zmem"); (case qo => walk_at "zo"); (case qf => walk_at "zlen"); intro _)
    with_reducible refine ev_spl0 ?_
    refine ev_range1 fun r0 t1 t2 hr0 => ?_
    refine ev_iterR (.head _) (Int.natCast_nonneg _) (by omega) fun it oi hit hoi => ?_
    refine ev_forI (yldR (n := vs.length)) (fun j m₁ ν₁ => ν₁ = N8 ∧ m₁ "rows" = some (.ref lr) ∧ m₁ "code" = some (.ref x) ∧ m₁ "elder" = some (.ref E1) ∧ m₁ "later" = some (.ref E2)) (ν₀ := N8) ⟨oi, rfl, by simpa using hoi⟩ (fun p hp => ltN' (hit p (.tail _ hp))) trivial ⟨rfl, by walk_at "zlk", by walk_at "zlk", by walk_at "zlk", by walk_at "zlk"⟩ (by walk_at "zsub") ?_ ?_
    · rintro j m₁ ν₁ v0 δ0 b' hj ⟨hν1, w1, w2, w3, w4⟩ hcl _ ⟨⟨tj, rfl⟩, rfl⟩ _ ⟨oi2, rfl, hoi2⟩
      subst hν1
      obtain ⟨r, hjr⟩ : ∃ r, rs[j]? = some r := ⟨_, List.getElem?_eq_getElem (by omega)⟩
      obtain ⟨v, hjv, hrv⟩ := each1.get hjr
      have hjr2 : (wholeOf rs more below)[j + more]? = some (r.turn (· + below) (· + (more : Int))) := by rw [whole_up, hjr]; rfl
      obtain ⟨v2, hjv2, hrv2⟩ := each2.get hjr2
      have ra := rowAt j r hjr
      have sh := ra.good.shaped
      have sh2 : Shaped (r.turn (· + below) (· + (more : Int))) := turn_shaped sh
      with_reducible refine ev_assignName ?_
      ((with_reducible refine' ev_store ?_ ?qL ?qk ?qx); (case qL => with_unfolding_all rfl); (case qk => with_unfolding_all rfl); (case qx => with_unfolding_all rfl))
      with_reducible refine ev_cons ?_
      ((with_reducible refine' ev_AssignSwap2 ?_ ?qs ?qw); (case qs => with_unfolding_all rfl); (case qw => with_unfolding_all rfl))
      with_reducible refine ev_Tuple ?_
      ((with_reducible refine' ev_spl ?_ ?qe); (case qe => with_unfolding_all rfl))
      with_reducible refine ev_Sub ?_
      ((with_reducible refine' ev_local ?qvz ?_ ?qL ?qk ?qx ?qd); (case qL => with_unfolding_all rfl); (case qk => with_unfolding_all rfl); (case qx => with_unfolding_all rfl); (case qd => decide); (case qvz => walk_at "zlk"))
      ((with_reducible refine' ev_local ?qvz ?_ ?qL ?qk ?qx ?qd); (case qL => with_unfolding_all rfl); (case qk => with_unfolding_all rfl); (case qx => with_unfolding_all rfl); (case qd => decide); (case qvz => walk_at "zlk"))
      refine ev_itemL (by walk_at "zmem") holr (Int.natCast_nonneg _) (by omega) hjv ?_ (by with_unfolding_all rfl)
      ((with_reducible refine' ev_spl ?_ ?qe); (case qe => with_unfolding_all rfl))
      with_reducible refine ev_Sub ?_
      ((with_reducible refine' ev_Attr ?_ ?qe); (case qe => with_unfolding_all rfl))
      ((with_reducible refine' ev_cell ?qc ?qm ?qo ?_ ?qk ?qx ?qd); (case qk => with_unfolding_all rfl); (case qx => with_unfolding_all rfl); (case qd => decide); (case qc => with_unfolding_all rfl); (case qm => walk_at "zmem"); (case qo => assumption))
      ((with_reducible refine' ev_getAttr ?qx ?qdx ?qg ?qh ?qa ?qn ?ql ?qv ?_); (case qx => walk_at "zmem"); (case qdx => walk_at "zmem"); (case ql => assumption); (case qg => k_is); (case qh => k_is); (case qa => k_is); (case qn => k_is); (case qv => exact rfl))
      with_reducible refine ev_BinOp ?_
      ((with_reducible refine' ev_local ?qvz ?_ ?qL ?qk ?qx ?qd); (case qL => with_unfolding_all rfl); (case qk => with_unfolding_all rfl); (case qx => with_unfolding_all rfl); (case qd => decide); (case qvz => walk_at "zlk"))
      ((with_reducible refine' ev_cell ?qc ?qm ?qo ?_ ?qk ?qx ?qd); (case qk => with_unfolding_all rfl); (case qx => with_unfolding_all rfl); (case qd => decide); (case qc => with_unfolding_all rfl); (case qm => walk_at "zmem"); (case qo => assumption))
      ((with_reducible refine ev_add ?_); intro _)
      refine ev_itemTN (by walk_at "zmem") hrt4 (by omega) (by omega) (x := v2) (by rw [show ((j : Int) + more).toNat = j + more by omega]; exact hjv2) ?_ (by with_unfolding_all rfl)
      with_reducible refine ev_spl0 ?_
      refine ev_newTuple (fun T8 hT8 => ?_) (by simp [sizeLine])
      refine ⟨T8, _, _, _, rfl, .head _, tupO_mk, ?_⟩
      refine ev_sub (ν' := (it, oi2) :: ν₁) ?_ (by walk_at "zsub")
      ((with_reducible refine' ev_store ?_ ?qL ?qk ?qx); (case qL => with_unfolding_all rfl); (case qk => with_unfolding_all rfl); (case qx => with_unfolding_all rfl))
      ((with_reducible refine' ev_store ?_ ?qL ?qk ?qx); (case qL => with_unfolding_all rfl); (case qk => with_unfolding_all rfl); (case qx => with_unfolding_all rfl))
      with_reducible refine then_next ?_
      with_reducible refine ev_cons ?_
      with_reducible refine ev_If ?_
      ((with_reducible refine' ev_isCompare ?_ ?qs); (case qs => with_unfolding_all rfl))
      ((with_reducible refine' ev_Call ?_ ?qe); (case qe => with_unfolding_all rfl))
      ((with_reducible refine' ev_glob ?qez ?_ ?qg ?qk ?qx ?qd); (case qg => with_unfolding_all rfl); (case qk => with_unfolding_all rfl); (case qx => with_unfolding_all rfl); (case qd => decide); (case qez => k_is))
      ((with_reducible refine' ev_cwF_0 ?qk ?_ ?qe ?qp); (case qe => with_unfolding_all rfl); (case qp => with_unfolding_all rfl); (case qk => k_is))
      ((with_reducible refine' ev_spl ?_ ?qe); (case qe => with_unfolding_all rfl))
      ((with_reducible refine' ev_Attr ?_ ?qe); (case qe => with_unfolding_all rfl))
      ((with_reducible refine' ev_cell ?qc ?qm ?qo ?_ ?qk ?qx ?qd); (case qk => with_unfolding_all rfl); (case qx => with_unfolding_all rfl); (case qd => decide); (case qc => with_unfolding_all rfl); (case qm => walk_at "zmem"); (case qo => assumption))
      ((with_reducible refine' ev_getAttr ?qx ?qdx ?qg ?qh ?qa ?qn ?ql ?qv ?_); (case qx => walk_at "zmem"); (case qdx => walk_at "zmem"); (case ql => assumption); (case qg => k_is); (case qh => k_is); (case qa => k_is); (case qn => k_is); (case qv => exact rfl))
      ((with_reducible refine' ev_spl ?_ ?qe); (case qe => with_unfolding_all rfl))
      with_reducible refine ev_BinOp ?_
      ((with_reducible refine' ev_local ?qvz ?_ ?qL ?qk ?qx ?qd); (case qL => with_unfolding_all rfl); (case qk => with_unfolding_all rfl); (case qx => with_unfolding_all rfl); (case qd => decide); (case qvz => walk_at "zlk"))
      ((with_reducible refine' ev_cell ?qc ?qm ?qo ?_ ?qk ?qx ?qd); (case qk => with_unfolding_all rfl); (case qx => with_unfolding_all rfl); (case qd => decide); (case qc => with_unfolding_all rfl); (case qm => walk_at "zmem"); (case qo => assumption))
      ((with_reducible refine ev_add ?_); intro _)
      with_reducible refine ev_spl0 ?_
      refine c_followers (k := j + more) (by walk_at "zroom") (by walk_at "zmem") hrt4 (each2.mono fun _ _ y => y.mono (KeepT.of (by walk_at "zbase"))) hjr2 (by omega) sh2 fun D1 oD1 ws1 hD1 hoD1 hws1 => ?_
      rw [fol_turn] at hws1
      refine' ev_shift (oc := o1') h1' ?_ ?k1 ?k2 ?k3 ?k4 ?k5 ?k6 ?k7 ?k8 ?k9 ?k10
      case k1 => with_unfolding_all rfl
      case k2 => decide
      case k3 => rfl
      case k4 => decide
      case k5 => exact fun _ => rfl
      case k6 => exact fun _ => by with_unfolding_all rfl
      case k7 => exact fun _ => by with_unfolding_all rfl
      case k8 => with_unfolding_all rfl
      case k9 => decide
      case k10 => decide
      ((with_reducible refine' ev_Call ?_ ?qe); (case qe => with_unfolding_all rfl))
      ((with_reducible refine' ev_glob ?qez ?_ ?qg ?qk ?qx ?qd); (case qg => with_unfolding_all rfl); (case qk => with_unfolding_all rfl); (case qx => with_unfolding_all rfl); (case qd => decide); (case qez => k_is))
      ((with_reducible refine' ev_cwF_0 ?qk ?_ ?qe ?qp); (case qe => with_unfolding_all rfl); (case qp => with_unfolding_all rfl); (case qk => k_is))
      ((with_reducible refine' ev_spl ?_ ?qe); (case qe => with_unfolding_all rfl))
      ((with_reducible refine' ev_Attr ?_ ?qe); (case qe => with_unfolding_all rfl))
      ((with_reducible refine' ev_local ?qvz ?_ ?qL ?qk ?qx ?qd); (case qL => with_unfolding_all rfl); (case qk => with_unfolding_all rfl); (case qx => with_unfolding_all rfl); (case qd => decide); (case qvz => walk_at "zlk"))
      ((with_reducible refine' ev_getAttr ?qx ?qdx ?qg ?qh ?qa ?qn ?ql ?qv ?_); (case qx => walk_at "zmem"); (case qdx => walk_at "zmem"); (case ql => assumption); (case qg => k_is); (case qh => k_is); (case qa => k_is); (case qn => k_is); (case qv => exact rfl))
      ((with_reducible refine' ev_spl ?_ ?qe); (case qe => with_unfolding_all rfl))
      ((with_reducible refine' ev_local ?qvz ?_ ?qL ?qk ?qx ?qd); (case qL => with_unfolding_all rfl); (case qk => with_unfolding_all rfl); (case qx => with_unfolding_all rfl); (case qd => decide); (case qvz => walk_at "zlk"))
      with_reducible refine ev_spl0 ?_
      refine c_followers (k := j) (by walk_at "zroom") (by walk_at "zmem") hrt2 (each1.mono fun _ _ y => y.mono (KeepT.of (by walk_at "zbase"))) hjr (by omega) sh fun D2 oD2 ws2 hD2 hoD2 hws2 => ?_
      refine ⟨D2, oD2, ws2, _, rfl, .head _, hoD2, hws2, by rw [hws2.length]; exact Nat.le_trans (fol_len sh) (by decide), by walk_at "zmem", fun D3 oD3 ws3 hD3 hoD3 hws3 => ?_⟩
      refine ev_neI (by walk_at "zmem") hoD1 hws1 (.head _) hoD3 hws3 (by walk_at "zroom") ?_
      with_reducible refine ev_truthyB ?_
      refine ite_isF ne_same ?_
      with_reducible refine ev_nil ?_
      with_reducible refine then_next ?_
      with_reducible refine ev_cons ?_
      with_reducible refine ev_If ?_
      with_reducible refine ev_isOr ?_
      ((with_reducible refine' ev_isCompare ?_ ?qs); (case qs => with_unfolding_all rfl))
      ((with_reducible refine' ev_Call ?_ ?qe); (case qe => with_unfolding_all rfl))
      ((with_reducible refine' ev_glob ?qez ?_ ?qg ?qk ?qx ?qd); (case qg => with_unfolding_all rfl); (case qk => with_unfolding_all rfl); (case qx => with_unfolding_all rfl); (case qd => decide); (case qez => k_is))
      ((with_reducible refine' ev_cwF_0 ?qk ?_ ?qe ?qp); (case qe => with_unfolding_all rfl); (case qp => with_unfolding_all rfl); (case qk => k_is))
      ((with_reducible refine' ev_spl ?_ ?qe); (case qe => with_unfolding_all rfl))
      ((with_reducible refine' ev_local ?qvz ?_ ?qL ?qk ?qx ?qd); (case qL => with_unfolding_all rfl); (case qk => with_unfolding_all rfl); (case qx => with_unfolding_all rfl); (case qd => decide); (case qvz => walk_at "zlk"))
      with_reducible refine ev_spl0 ?_
      refine ev_sub (ν' := (it, oi2) :: ν₁) ?_ (by walk_at "zsub")
      have rv1 : RowV ((it, oi2) :: ν₁) r v := hrv.mono (KeepT.of (by walk_at "zbase"))
      have rv2 : RowV ((it, oi2) :: ν₁) (r.turn (· + below) (· + (more : Int))) v2 := hrv2.mono (KeepT.of (by walk_at "zbase"))
      refine c_goals_of (by walk_at "zroom") rv2 sh2 fun D4 oD4 ws4 hD4 hoD4 hws4 => ?_
      rw [turn_goals] at hws4
      refine' ev_shift (oc := o1') h1' ?_ ?k1 ?k2 ?k3 ?k4 ?k5 ?k6 ?k7 ?k8 ?k9 ?k10
      case k1 => with_unfolding_all rfl
      case k2 => decide
      case k3 => rfl
      case k4 => decide
      case k5 => exact fun _ => rfl
      case k6 => exact fun _ => by with_unfolding_all rfl
      case k7 => exact fun _ => by with_unfolding_all rfl
      case k8 => with_unfolding_all rfl
      case k9 => decide
      case k10 => decide
      ((with_reducible refine' ev_Call ?_ ?qe); (case qe => with_unfolding_all rfl))
      ((with_reducible refine' ev_glob ?qez ?_ ?qg ?qk ?qx ?qd); (case qg => with_unfolding_all rfl); (case qk => with_unfolding_all rfl); (case qx => with_unfolding_all rfl); (case qd => decide); (case qez => k_is))
      ((with_reducible refine' ev_cwF_0 ?qk ?_ ?qe ?qp); (case qe => with_unfolding_all rfl); (case qp => with_unfolding_all rfl); (case qk => k_is))
      ((with_reducible refine' ev_spl ?_ ?qe); (case qe => with_unfolding_all rfl))
      ((with_reducible refine' ev_local ?qvz ?_ ?qL ?qk ?qx ?qd); (case qL => with_unfolding_all rfl); (case qk => with_unfolding_all rfl); (case qx => with_unfolding_all rfl); (case qd => decide); (case qvz => walk_at "zlk"))
      with_reducible refine ev_spl0 ?_
      refine c_goals_of (by walk_at "zroom") (rv1.mono (KeepT.of (by walk_at "zbase"))) sh fun D5 oD5 ws5 hD5 hoD5 hws5 => ?_
      refine ⟨D5, oD5, ws5, _, rfl, .head _, hoD5, hws5, by rw [hws5.length]; exact Nat.le_trans (goals_len sh) (by decide), by walk_at "zmem", fun D6 oD6 ws6 hD6 hoD6 hws6 => ?_⟩
      refine ev_neI (by walk_at "zmem") hoD4 hws4 (.head _) hoD6 hws6 (by walk_at "zroom") ?_
      with_reducible refine ev_truthyB ?_
      refine ite_isF ne_same ?_
      with_reducible refine ev_isOr ?_
      ((with_reducible refine' ev_isCompare ?_ ?qs); (case qs => with_unfolding_all rfl))
      ((with_reducible refine' ev_CallM ?_ ?qe); (case qe => with_unfolding_all rfl))
      ((with_reducible refine' ev_local ?qvz ?_ ?qL ?qk ?qx ?qd); (case qL => with_unfolding_all rfl); (case qk => with_unfolding_all rfl); (case qx => with_unfolding_all rfl); (case qd => decide); (case qvz => walk_at "zlk"))
      refine ev_getDm (by walk_at "zmem") hdE2 ?_
      ((with_reducible refine' ev_cwB_1 ?_ ?qe ?qp); (case qe => with_unfolding_all rfl); (case qp => with_unfolding_all rfl))
      ((with_reducible refine' ev_spl ?_ ?qe); (case qe => with_unfolding_all rfl))
      with_reducible refine ev_BinOp ?_
      ((with_reducible refine' ev_local ?qvz ?_ ?qL ?qk ?qx ?qd); (case qL => with_unfolding_all rfl); (case qk => with_unfolding_all rfl); (case qx => with_unfolding_all rfl); (case qd => decide); (case qvz => walk_at "zlk"))
      ((with_reducible refine' ev_cell ?qc ?qm ?qo ?_ ?qk ?qx ?qd); (case qk => with_unfolding_all rfl); (case qx => with_unfolding_all rfl); (case qd => decide); (case qc => with_unfolding_all rfl); (case qm => walk_at "zmem"); (case qo => assumption))
      ((with_reducible refine ev_add ?_); intro _)
      with_reducible refine ev_spl0 ?_
      refine ev_get1I (by walk_at "zmem") hdE2 sE2 ?_
      ((with_reducible refine' ev_CallM ?_ ?qe); (case qe => with_unfolding_all rfl))
      ((with_reducible refine' ev_local ?qvz ?_ ?qL ?qk ?qx ?qd); (case qL => with_unfolding_all rfl); (case qk => with_unfolding_all rfl); (case qx => with_unfolding_all rfl); (case qd => decide); (case qvz => walk_at "zlk"))
      refine ev_getDm (by walk_at "zmem") hdE1 ?_
      ((with_reducible refine' ev_cwB_1 ?_ ?qe ?qp); (case qe => with_unfolding_all rfl); (case qp => with_unfolding_all rfl))
      ((with_reducible refine' ev_spl ?_ ?qe); (case qe => with_unfolding_all rfl))
      ((with_reducible refine' ev_local ?qvz ?_ ?qL ?qk ?qx ?qd); (case qL => with_unfolding_all rfl); (case qk => with_unfolding_all rfl); (case qx => with_unfolding_all rfl); (case qd => decide); (case qvz => walk_at "zlk"))
      with_reducible refine ev_spl0 ?_
      refine ev_get1I (by walk_at "zmem") hdE1 sE1 ?_
      refine ev_neGet (dep_pair rdy hdd1 hdd2 j) ?_
      with_reducible refine ev_truthyB ?_
      with_reducible refine ite_F ?_
      with_reducible refine ev_isOr0 ?_
      with_reducible refine ite_F ?_
      with_reducible refine ev_nil ?_
      with_reducible refine then_next ?_
      with_reducible refine ev_cons ?_
      ((with_reducible refine' ev_Assign ?_ ?qs); (case qs => with_unfolding_all rfl))
      ((with_reducible refine' ev_Call ?_ ?qe); (case qe => with_unfolding_all rfl))
      ((with_reducible refine' ev_glob ?qez ?_ ?qg ?qk ?qx ?qd); (case qg => with_unfolding_all rfl); (case qk => with_unfolding_all rfl); (case qx => with_unfolding_all rfl); (case qd => decide); (case qez => k_is))
      ((with_reducible refine' ev_cwF_0 ?qk ?_ ?qe ?qp); (case qe => with_unfolding_all rfl); (case qp => with_unfolding_all rfl); (case qk => k_is))
      ((with_reducible refine' ev_spl ?_ ?qe); (case qe => with_unfolding_all rfl))
      ((with_reducible refine' ev_local ?qvz ?_ ?qL ?qk ?qx ?qd); (case qL => with_unfolding_all rfl); (case qk => with_unfolding_all rfl); (case qx => with_unfolding_all rfl); (case qd => decide); (case qvz => walk_at "zlk"))
      with_reducible refine ev_spl0 ?_
      refine ev_sub (ν' := (it, oi2) :: ν₁) ?_ (by walk_at "zsub")
      refine c_sets_of (by walk_at "zroom") rv1 sh fun vS hS => ?_
      ((with_reducible refine' ev_store ?_ ?qL ?qk ?qx); (case qL => with_unfolding_all rfl); (case qk => with_unfolding_all rfl); (case qx => with_unfolding_all rfl))
      with_reducible refine then_next ?_
      with_reducible refine ev_cons ?_
      with_reducible refine ev_If ?_
      with_reducible refine ev_isOr ?_
      ((with_reducible refine' ev_isCompare ?_ ?qs); (case qs => with_unfolding_all rfl))
      ((with_reducible refine' ev_Call ?_ ?qe); (case qe => with_unfolding_all rfl))
      ((with_reducible refine' ev_glob ?qez ?_ ?qg ?qk ?qx ?qd); (case qg => with_unfolding_all rfl); (case qk => with_unfolding_all rfl); (case qx => with_unfolding_all rfl); (case qd => decide); (case qez => k_is))
      ((with_reducible refine' ev_cwF_0 ?qk ?_ ?qe ?qp); (case qe => with_unfolding_all rfl); (case qp => with_unfolding_all rfl); (case qk => k_is))
      ((with_reducible refine' ev_spl ?_ ?qe); (case qe => with_unfolding_all rfl))
      ((with_reducible refine' ev_local ?qvz ?_ ?qL ?qk ?qx ?qd); (case qL => with_unfolding_all rfl); (case qk => with_unfolding_all rfl); (case qx => with_unfolding_all rfl); (case qd => decide); (case qvz => walk_at "zlk"))
      with_reducible refine ev_spl0 ?_
      refine c_uses_of (by walk_at "zroom") rv2 sh2 (by rw [turn_uses, List.length_map]; exact Nat.le_trans ra.good.many (by decide)) fun D7 oD7 ws7 hD7 hoD7 hws7 => ?_
      rw [turn_uses] at hws7
      refine' ev_shift (oc := o2') h2' ?_ ?k1 ?k2 ?k3 ?k4 ?k5 ?k6 ?k7 ?k8 ?k9 ?k10
      case k1 => with_unfolding_all rfl
      case k2 => decide
      case k3 => rfl
      case k4 => decide
      case k5 => exact fun _ => rfl
      case k6 => exact fun _ => by with_unfolding_all rfl
      case k7 => exact fun _ => by with_unfolding_all rfl
      case k8 => with_unfolding_all rfl
      case k9 => decide
      case k10 => decide
      ((with_reducible refine' ev_Call ?_ ?qe); (case qe => with_unfolding_all rfl))
      ((with_reducible refine' ev_glob ?qez ?_ ?qg ?qk ?qx ?qd); (case qg => with_unfolding_all rfl); (case qk => with_unfolding_all rfl); (case qx => with_unfolding_all rfl); (case qd => decide); (case qez => k_is))
      ((with_reducible refine' ev_cwF_0 ?qk ?_ ?qe ?qp); (case qe => with_unfolding_all rfl); (case qp => with_unfolding_all rfl); (case qk => k_is))
      ((with_reducible refine' ev_spl ?_ ?qe); (case qe => with_unfolding_all rfl))
      ((with_reducible refine' ev_local ?qvz ?_ ?qL ?qk ?qx ?qd); (case qL => with_unfolding_all rfl); (case qk => with_unfolding_all rfl); (case qx => with_unfolding_all rfl); (case qd => decide); (case qvz => walk_at "zlk"))
      with_reducible refine ev_spl0 ?_
      refine c_uses_of (by walk_at "zroom") (rv1.mono (KeepT.of (by walk_at "zbase"))) sh (Nat.le_trans ra.good.many (by decide)) fun D8 oD8 ws8 hD8 hoD8 hws8 => ?_
      refine ⟨D8, oD8, ws8, _, rfl, .head _, hoD8, hws8, by rw [hws8.length]; exact Nat.le_trans ra.good.many (by decide), by walk_at "zmem", fun D9 oD9 ws9 hD9 hoD9 hws9 => ?_⟩
      refine ev_neI (by walk_at "zmem") hoD7 hws7 (.head _) hoD9 hws9 (by walk_at "zroom") ?_
      with_reducible refine ev_truthyB ?_
      refine ite_isF ne_same ?_
      with_reducible refine ev_isOr ?_
      ((with_reducible refine' ev_isCompare ?_ ?qs); (case qs => with_unfolding_all rfl))
      ((with_reducible refine' ev_Call ?_ ?qe); (case qe => with_unfolding_all rfl))
      ((with_reducible refine' ev_glob ?qez ?_ ?qg ?qk ?qx ?qd); (case qg => with_unfolding_all rfl); (case qk => with_unfolding_all rfl); (case qx => with_unfolding_all rfl); (case qd => decide); (case qez => k_is))
      ((with_reducible refine' ev_cwF_0 ?qk ?_ ?qe ?qp); (case qe => with_unfolding_all rfl); (case qp => with_unfolding_all rfl); (case qk => k_is))
      ((with_reducible refine' ev_spl ?_ ?qe); (case qe => with_unfolding_all rfl))
      ((with_reducible refine' ev_local ?qvz ?_ ?qL ?qk ?qx ?qd); (case qL => with_unfolding_all rfl); (case qk => with_unfolding_all rfl); (case qx => with_unfolding_all rfl); (case qd => decide); (case qvz => walk_at "zlk"))
      with_reducible refine ev_spl0 ?_
      refine c_sets_of (by walk_at "zroom") (rv2.mono (KeepT.of (by walk_at "zbase"))) sh2 fun vT hT9 => ?_
      rw [turn_sets] at hT9
      with_reducible refine ev_IfExp ?_
      ((with_reducible refine' ev_isCompare ?_ ?qs); (case qs => with_unfolding_all rfl))
      ((with_reducible refine' ev_local ?qvz ?_ ?qL ?qk ?qx ?qd); (case qL => with_unfolding_all rfl); (case qk => with_unfolding_all rfl); (case qx => with_unfolding_all rfl); (case qd => decide); (case qvz => walk_at "zlk"))
      with_reducible refine ev_none ?_
      with_reducible refine ev_isNone ?_
      with_reducible refine ev_truthyB ?_
      cases hs : r.sets with
      | none =>
        rw [hs] at hS hT9
        cases hS
        with_reducible refine ite_isT vn_none ?_
        with_reducible refine ev_none ?_
        refine ev_neOpt (o := none) hT9 rfl ?_
        with_reducible refine ev_truthyB ?_
        with_reducible refine ite_F ?_
        with_reducible refine ev_isOr0 ?_
        with_reducible refine ite_F ?_
        with_reducible refine ev_nil ?_
        with_reducible refine then_next ?_
        with_reducible refine ev_nil ?_
        exact ⟨ν₁, by walk_at "zsub", hcl, trivial, rfl, by walk_at "zlk", by walk_at "zlk", by walk_at "zlk", by walk_at "zlk"⟩
      | some n =>
        rw [hs] at hS hT9
        obtain ⟨tS, rfl⟩ := hS
        with_reducible refine ite_isF vn_int ?_
        with_reducible refine ev_BinOp ?_
        ((with_reducible refine' ev_local ?qvz ?_ ?qL ?qk ?qx ?qd); (case qL => with_unfolding_all rfl); (case qk => with_unfolding_all rfl); (case qx => with_unfolding_all rfl); (case qd => decide); (case qvz => walk_at "zlk"))
        ((with_reducible refine' ev_cell ?qc ?qm ?qo ?_ ?qk ?qx ?qd); (case qk => with_unfolding_all rfl); (case qx => with_unfolding_all rfl); (case qd => decide); (case qc => with_unfolding_all rfl); (case qm => walk_at "zmem"); (case qo => assumption))
        ((with_reducible refine ev_add ?_); intro _)
        refine ev_neOpt (o := some (n + below)) hT9 ⟨_, rfl⟩ ?_
        with_reducible refine ev_truthyB ?_
        with_reducible refine ite_F ?_
        with_reducible refine ev_isOr0 ?_
        with_reducible refine ite_F ?_
        with_reducible refine ev_nil ?_
        with_reducible refine then_next ?_
        with_reducible refine ev_nil ?_
        exact ⟨ν₁, by walk_at "zsub", hcl, trivial, rfl, by walk_at "zlk", by walk_at "zlk", by walk_at "zlk", by walk_at "zlk"⟩
    · rintro m₁ ν₁ ⟨hν1, w1, w2, w3, w4⟩ _ _
      refine then_next (ev_sub (ν' := S3 ++ [(c.L + 3, o3'), (c.L + 1, o1'), (c.L + 2, o2'), (c.L + 4, o4), (c.L + 5, o5), (184, tabObj ps)]) ?_ (by rw [hν1, hN8]; walk_at "zsub"))
      with_reducible refine ev_cons ?_
      with_reducible refine ev_If ?_
      ((with_reducible refine' ev_isCompare ?_ ?qs); (case qs => with_unfolding_all rfl))
      ((with_reducible refine' ev_Call ?_ ?qe); (case qe => with_unfolding_all rfl))
      ((with_reducible refine' ev_glob ?qez ?_ ?qg ?qk ?qx ?qd); (case qg => with_unfolding_all rfl); (case qk => with_unfolding_all rfl); (case qx => with_unfolding_all rfl); (case qd => decide); (case qez => k_is))
      ((with_reducible refine' ev_cwF_0 ?qk ?_ ?qe ?qp); (case qe => with_unfolding_all rfl); (case qp => with_unfolding_all rfl); (case qk => k_is))
      ((with_reducible refine' ev_spl ?_ ?qe); (case qe => with_unfolding_all rfl))
      ((with_reducible refine' ev_FromA ?_ ?qs); (case qs => intro _ _; with_unfolding_all rfl))
      ((with_reducible refine' ev_Attr ?_ ?qe); (case qe => with_unfolding_all rfl))
      ((with_reducible refine' ev_cell ?qc ?qm ?qo ?_ ?qk ?qx ?qd); (case qk => with_unfolding_all rfl); (case qx => with_unfolding_all rfl); (case qd => decide); (case qc => with_unfolding_all rfl); (case qm => walk_at "zmem"); (case qo => assumption))
      ((with_reducible refine' ev_getAttr ?qx ?qdx ?qg ?qh ?qa ?qn ?ql ?qv ?_); (case qx => walk_at "zmem"); (case qdx => walk_at "zmem"); (case ql => assumption); (case qg => k_is); (case qh => k_is); (case qa => k_is); (case qn => k_is); (case qv => exact rfl))
      ((with_reducible refine' ev_cell ?qc ?qm ?qo ?_ ?qk ?qx ?qd); (case qk => with_unfolding_all rfl); (case qx => with_unfolding_all rfl); (case qd => decide); (case qc => with_unfolding_all rfl); (case qm => walk_at "zmem"); (case qo => assumption))
      refine ⟨rt2, ort2, vs2, more, _, rfl, rfl, by walk_at "zmem", hrt4, by omega, by omega, by omega, fun D1 hD1 => ?_⟩
      ((with_reducible refine' ev_spl ?_ ?qe); (case qe => with_unfolding_all rfl))
      with_reducible refine ev_UnaryOp ?_
      ((with_reducible refine' ev_cell ?qc ?qm ?qo ?_ ?qk ?qx ?qd); (case qk => with_unfolding_all rfl); (case qx => with_unfolding_all rfl); (case qd => decide); (case qc => with_unfolding_all rfl); (case qm => walk_at "zmem"); (case qo => assumption))
      ((with_reducible refine ev_neg ?_); intro _)
      ((with_reducible refine' ev_spl ?_ ?qe); (case qe => with_unfolding_all rfl))
      with_reducible refine ev_UnaryOp ?_
      ((with_reducible refine' ev_cell ?qc ?qm ?qo ?_ ?qk ?qx ?qd); (case qk => with_unfolding_all rfl); (case qx => with_unfolding_all rfl); (case qd => decide); (case qc => with_unfolding_all rfl); (case qm => walk_at "zmem"); (case qo => assumption))
      ((with_reducible refine ev_neg ?_); intro _)
      with_reducible refine ev_spl0 ?_
      have frD1 : @LT.lt Nat _ (c.L + 5) D1 := hD1 (c.L + 5, o5) (by walk_at "zmem")
      have sub9 : ∀ p ∈ S3, p ∈ (D1, tupO (vs2.drop more)) :: (S3 ++ [(c.L + 3, o3'), (c.L + 1, o1'), (c.L + 2, o2'), (c.L + 4, o4), (c.L + 5, o5)]) := by walk_at "zbase"
      refine c_law_moved (rs := (wholeOf rs more below).drop more) (ν₁ := (D1, tupO (vs2.drop more)) :: (S3 ++ [(c.L + 3, o3'), (c.L + 1, o1'), (c.L + 2, o2'), (c.L + 4, o4), (c.L + 5, o5)])) (ps := ps) (by walk_at "zroom") hC (by walk_at "zsub") (ne_cons (fr184 _ frD1) (ne_app (fun p hp => fr184 _ (frS3 p hp)) (ne_cons (Ne.symm (c184 3)) (ne_cons (Ne.symm (c184 1)) (ne_cons (Ne.symm (c184 2)) (ne_cons (Ne.symm (c184 4)) (ne_cons (Ne.symm (c184 5)) ne_nil))))))) (hTb.mono sub9) (.head _) (.inr tupO_mk) ((code2.each.drop more).mono fun _ _ y => y.mono (KeepT.of sub9)) (by rw [List.length_drop]; omega) (fun r hr => rdy2.shape r (List.mem_of_mem_drop hr)) fun D2 oD2 ws2 ps2 δ5 hD2 hoD2 hws2 _ hδ5 => ?_
      rw [back_rows] at hws2
      ((with_reducible refine' ev_local ?qvz ?_ ?qL ?qk ?qx ?qd); (case qL => with_unfolding_all rfl); (case qk => with_unfolding_all rfl); (case qx => with_unfolding_all rfl); (case qd => decide); (case qvz => walk_at "zlk"))
      refine ev_neD (via_lst (.head _) hoD2 (via_all via_row (hws2.mono fun _ _ y => y.mono (KeepT.of (by walk_at "zbase"))))) (via_lst (by walk_at "zmem") holr (via_all via_row (code1.each.mono fun _ _ y => y.mono (KeepT.of (by walk_at "zbase"))))) (rows_shaped lay1).1 (rows_shaped lay1).1 (by walk_at "zroom") ?_
      rw [(rows_shaped lay1).2]
      with_reducible refine ev_truthyB ?_
      with_reducible refine ite_isF (b := !true) rfl ?_
      with_reducible refine ev_nil ?_
      with_reducible refine then_next ?_
      with_reducible refine ev_cons ?_
      ((with_reducible refine' ev_Assign ?_ ?qs); (case qs => with_unfolding_all rfl))
      ((with_reducible refine' ev_CallM ?_ ?qe); (case qe => with_unfolding_all rfl))
      ((with_reducible refine' ev_Call ?_ ?qe); (case qe => with_unfolding_all rfl))
      ((with_reducible refine' ev_glob ?qez ?_ ?qg ?qk ?qx ?qd); (case qg => with_unfolding_all rfl); (case qk => with_unfolding_all rfl); (case qx => with_unfolding_all rfl); (case qd => decide); (case qez => k_is))
      ((with_reducible refine' ev_cwF_0 ?qk ?_ ?qe ?qp); (case qe => with_unfolding_all rfl); (case qp => with_unfolding_all rfl); (case qk => k_is))
      ((with_reducible refine' ev_spl ?_ ?qe); (case qe => with_unfolding_all rfl))
      ((with_reducible refine' ev_cell ?qc ?qm ?qo ?_ ?qk ?qx ?qd); (case qk => with_unfolding_all rfl); (case qx => with_unfolding_all rfl); (case qd => decide); (case qc => with_unfolding_all rfl); (case qm => walk_at "zmem"); (case qo => assumption))
      with_reducible refine ev_spl0 ?_
      refine ev_sub (ν' := S3 ++ [(c.L + 3, o3'), (c.L + 1, o1'), (c.L + 2, o2'), (c.L + 4, o4), (c.L + 5, o5), (184, tabObj ps2)]) ?_ (by walk_at "zsub")
      refine c_code_text (by walk_at "zroom") (code2.mono (by walk_at "zbase")) (by omega) ⟨by unfold NoNL; decide +kernel, by decide +kernel⟩ (by decide) (by omega) (fun r hr => ?_) fun X head Xs tX hX hnl hXl hline hXs => ?_
      · obtain ⟨k, hk⟩ := List.getElem?_of_mem hr
        have q := rowAt2 k r hk
        exact ⟨q.five, fun p hp => (q.parts p hp).txt (by decide), q.name⟩
      with_reducible refine ev_getSplit ?_
      ((with_reducible refine' ev_cwB_1 ?_ ?qe ?qp); (case qe => with_unfolding_all rfl); (case qp => with_unfolding_all rfl))
      ((with_reducible refine' ev_spl ?_ ?qe); (case qe => with_unfolding_all rfl))
      ((with_reducible refine' ev_Call ?_ ?qe); (case qe => with_unfolding_all rfl))
      ((with_reducible refine' ev_bltn ?qez ?qv ?_ ?qn ?qg ?qb ?qk ?qx ?qd); (case qg => with_unfolding_all rfl); (case qb => with_unfolding_all rfl); (case qk => with_unfolding_all rfl); (case qx => with_unfolding_all rfl); (case qd => decide); (case qn => decide); (case qez => k_is); (case qv => first | boot_fast | boot_by_name))
      ((with_reducible refine' ev_cwB_0 ?_ ?qe ?qp); (case qe => with_unfolding_all rfl); (case qp => with_unfolding_all rfl))
      ((with_reducible refine' ev_spl ?_ ?qe); (case qe => with_unfolding_all rfl))
      ((with_reducible refine ev_int ?_); intro _)
      with_reducible refine ev_spl0 ?_
      refine ev_chr (by decide) (by decide) fun kc => ?_
      with_reducible refine ev_spl0 ?_
      refine ev_split rfl hXs fun D3 oD3 ll hD3 hll hoD3 hst3 => ?_
      rw [hX, nl_eq] at hll
      rw [show Txt.split (Str.join ⟨#[10]⟩ (head :: Xs)) ⟨#[(10 : Int).toNat]⟩ = head :: Xs from split_join (by simp) hnl] at hll
      rw [hll] at hst3
      have frD3 : @LT.lt Nat _ (c.L + 5) D3 := hD3 (c.L + 5, o5) (by walk_at "zmem")
      refine ev_sub (ν' := (c.L + 4, o4) :: (D3, oD3) :: (S3 ++ [(c.L + 3, o3'), (c.L + 1, o1'), (c.L + 2, o2'), (c.L + 5, o5), (184, tabObj ps2)])) ?_ (by walk_at "zsub")
      refine ev_storeCell (ν₁ := (D3, oD3) :: (S3 ++ [(c.L + 3, o3'), (c.L + 1, o1'), (c.L + 2, o2'), (c.L + 5, o5), (184, tabObj ps2)])) (by with_unfolding_all rfl) h4 (fun _ x => x) (ne_cons (frN 4 (by decide) _ frD3) (ne_app (fun p hp => frN 4 (by decide) _ (frS3 p hp)) (ne_cons (cNe 3 4 (by decide)) (ne_cons (cNe 1 4 (by decide)) (ne_cons (cNe 2 4 (by decide)) (ne_cons (cNe 5 4 (by decide)) (ne_cons (c184 4) ne_nil))))))) (fun o4' h4' => ?_) (by rfl) (by with_unfolding_all rfl)
      have h240 : vs2.length < 2 ^ 40 := by omega
      with_reducible refine then_next ?_
      with_reducible refine ev_cons ?_
      ((with_reducible refine' ev_Assign ?_ ?qs); (case qs => with_unfolding_all rfl))
      refine' ev_ListComp (cl := [("whole", c.L + 3)]) (Rb := NoX) ?_ outCompNoX ?h1 ?h2 ?h3 ?h4 ?h5
      case h1 => with_unfolding_all rfl
      case h2 => decide
      case h3 => rfl
      case h4 => decide
      case h5 => exact fun _ => rfl
      ((with_reducible refine' ev_Call ?_ ?qe); (case qe => with_unfolding_all rfl))
      ((with_reducible refine' ev_bltn ?qez ?qv ?_ ?qn ?qg ?qb ?qk ?qx ?qd); (case qg => with_unfolding_all rfl); (case qb => with_unfolding_all rfl); (case qk => with_unfolding_all rfl); (case qx => with_unfolding_all rfl); (case qd => decide); (case qn => decide); (case qez => k_is); (case qv => first | boot_fast | boot_by_name))
      ((with_reducible refine' ev_cwT_0 ?_ ?qe ?qp); (case qe => with_unfolding_all rfl); (case qp => with_unfolding_all rfl))
      ((with_reducible refine' ev_spl ?_ ?qe); (case qe => with_unfolding_all rfl))
      ((with_reducible refine' ev_Call ?_ ?qe); (case qe => with_unfolding_all rfl))
      ((with_reducible refine' ev_bltn ?qez ?qv ?_ ?qn ?qg ?qb ?qk ?qx ?qd); (case qg => with_unfolding_all rfl); (case qb => with_unfolding_all rfl); (case qk => with_unfolding_all rfl); (case qx => with_unfolding_all rfl); (case qd => decide); (case qn => decide); (case qez => k_is); (case qv => first | boot_fast | boot_by_name))
      ((with_reducible refine' ev_cwB_0 ?_ ?qe ?qp); (case qe => with_unfolding_all rfl); (case qp => with_unfolding_all rfl))
      ((with_reducible refine' ev_spl ?_ ?qe); (case qe => with_unfolding_all rfl))
      ((with_reducible refine' ev_Attr ?_ ?qe); (case qe => with_unfolding_all rfl))
      ((with_reducible refine' ev_cell ?qc ?qm ?qo ?_ ?qk ?qx ?qd); (case qk => with_unfolding_all rfl); (case qx => with_unfolding_all rfl); (case qd => decide); (case qc => with_unfolding_all rfl); (case qm => walk_at "zmem"); (case qo => assumption))
      ((with_reducible refine' ev_getAttr ?qx ?qdx ?qg ?qh ?qa ?qn ?ql ?qv ?_); (case qx => walk_at "zmem"); (case qdx => walk_at "zmem"); (case ql => assumption); (case qg => k_is); (case qh => k_is); (case qa => k_is); (case qn => k_is); (case qv => exact rfl))
      with_reducible refine ev_spl0 ?_
      ((with_reducible refine' ev_lenT ?qm ?qo ?qf ?_); (case qm => walk_at "zmem"); (case qo => walk_at "zo"); (case qf => walk_at "zlen"); intro _)
      with_reducible refine ev_spl0 ?_
      refine ev_range1 fun r0 t1 t2 hr0 => ?_
      refine ev_iterR (.head _) (Int.natCast_nonneg _) (by omega) fun it oi hit hoi => ?_
      have each9 : RowsV S3 (wholeOf rs more below) vs2 := code2.each
      refine ev_compI (yldR (n := vs2.length)) (by unfold sizeLine; omega) (fun k acc ν₂ => ν₂ = (c.L + 4, o4') :: (D3, oD3) :: (S3 ++ [(c.L + 3, o3'), (c.L + 1, o1'), (c.L + 2, o2'), (c.L + 5, o5), (184, tabObj ps2)]) ∧ ∃ Hs, AllV StrV Hs acc ∧ Hs.length = k ∧ ∀ j r, j < k → (wholeOf rs more below)[j]? = some r → Hs[j]? = some (Str.ofString (toString (j : Int)) ++ ": " ++ r.name)) ⟨oi, rfl, by simpa using hoi⟩ (fun p hp => ltN' (hit p (.tail _ hp))) trivial ⟨rfl, [], .nil, rfl, fun j r hj => absurd hj (Nat.not_lt_zero _)⟩ (by walk_at "zsub") (fun a ha => ⟨_, .head _, ha.symm⟩) (fun k b hb p hp => by obtain ⟨oi', rfl, _⟩ := hb; cases hp with | head => rfl | tail _ h => cases h) (fun L q h => trivial) ?_ ?_
      · rintro k acc ν₂ v δ2 b3 C oC mC D9 oD9 hk hal ⟨rfl, Hs, hHs, hHl, hHd⟩ hne9 hsr9 ⟨⟨tk, rfl⟩, rfl⟩ hδ9 hB9 hNs hoD9 hab9 hDC hbCD hneC
        obtain ⟨r, hkr⟩ : ∃ r, (wholeOf rs more below)[k]? = some r := ⟨_, List.getElem?_eq_getElem (by omega)⟩
        obtain ⟨v, hkv, hrv⟩ := each9.get hkr
        obtain ⟨bb, obb, tbb, pvs, rfl, hbb, hob, -⟩ := hrv
        have q9 := (rowAt2 k r hkr).name
        have lk := len_str_of_int (k : Int)
        with_reducible refine ev_assignName ?_
        ((with_reducible refine' ev_storeC ?qC (fun _ h => h) ?qn ?_ ?qL ?qk ?qx); (case qL => with_unfolding_all rfl); (case qk => with_unfolding_all rfl); (case qx => with_unfolding_all rfl); (case qC => assumption); (case qn => walk_at "zne"); intro _ _)
        with_reducible refine ev_tests0 ?_
        with_reducible refine ite_T ?_
        with_reducible refine ev_BinOp ?_
        with_reducible refine ev_BinOp ?_
        ((with_reducible refine' ev_Call ?_ ?qe); (case qe => with_unfolding_all rfl))
        ((with_reducible refine' ev_bltn ?qez ?qv ?_ ?qn ?qg ?qb ?qk ?qx ?qd); (case qg => with_unfolding_all rfl); (case qb => with_unfolding_all rfl); (case qk => with_unfolding_all rfl); (case qx => with_unfolding_all rfl); (case qd => decide); (case qn => decide); (case qez => k_is); (case qv => first | boot_fast | boot_by_name))
        ((with_reducible refine' ev_cwT_0 ?_ ?qe ?qp); (case qe => with_unfolding_all rfl); (case qp => with_unfolding_all rfl))
        ((with_reducible refine' ev_spl ?_ ?qe); (case qe => with_unfolding_all rfl))
        ((with_reducible refine' ev_localC ?qm ?qC ?qv ?_ ?qL ?qk ?qx ?qd); (case qL => with_unfolding_all rfl); (case qk => with_unfolding_all rfl); (case qx => with_unfolding_all rfl); (case qd => decide); (case qm => walk_at "zmem"); (case qC => assumption); (case qv => walk_at "zlk"))
        with_reducible refine ev_spl0 ?_
        refine ev_strI (Nat.lt_of_le_of_lt (Nat.log2_le_self _) (by omega)) fun _ => ?_
        ((with_reducible refine ev_str ?_); intro _)
        refine ev_addS (by rw [show (": " : Str).length = 2 from rfl]; omega) fun _ => ?_
        with_reducible refine ev_Sub ?_
        with_reducible refine ev_Sub ?_
        ((with_reducible refine' ev_Attr ?_ ?qe); (case qe => with_unfolding_all rfl))
        ((with_reducible refine' ev_cell ?qc ?qm ?qo ?_ ?qk ?qx ?qd); (case qk => with_unfolding_all rfl); (case qx => with_unfolding_all rfl); (case qd => decide); (case qc => with_unfolding_all rfl); (case qm => walk_at "zmem"); (case qo => assumption))
        ((with_reducible refine' ev_getAttr ?qx ?qdx ?qg ?qh ?qa ?qn ?ql ?qv ?_); (case qx => walk_at "zmem"); (case qdx => walk_at "zmem"); (case ql => assumption); (case qg => k_is); (case qh => k_is); (case qa => k_is); (case qn => k_is); (case qv => exact rfl))
        ((with_reducible refine' ev_localC ?qm ?qC ?qv ?_ ?qL ?qk ?qx ?qd); (case qL => with_unfolding_all rfl); (case qk => with_unfolding_all rfl); (case qx => with_unfolding_all rfl); (case qd => decide); (case qm => walk_at "zmem"); (case qC => assumption); (case qv => walk_at "zlk"))
        ((with_reducible refine' ev_itemTK ?qm ?qo ?q1 ?qx ?_ ?qs); (case qs => with_unfolding_all rfl); (case qm => walk_at "zmem"); (case qo => walk_at "zo"); (case q1 => omega); (case qx => assumption))
        ((with_reducible refine ev_int ?_); intro _)
        ((with_reducible refine' ev_itemTN ?qm ?qo ?q0 ?q1 ?qx ?_ ?qs); (case qs => with_unfolding_all rfl); (case qm => walk_at "zmem"); (case qo => walk_at "zo"); (case q0 => decide); (case q1 => decide); (case qx => exact rfl))
        refine ev_addS (by rw [app_len, show (": " : Str).length = 2 from rfl]; omega) fun _ => ?_
        refine' comp_done ?sub ?ns hne9 hsr9 ⟨rfl, _, hHs.snoc ⟨_, rfl⟩, by rw [List.length_append, hHl]; rfl, ?_⟩
        case sub => walk_at "zsub"
        case ns => assumption
        intro j r' hj hr'
        by_cases hjk : j = k
        · subst hjk
          rw [hkr] at hr'
          cases hr'
          rw [List.getElem?_append_right (by omega), hHl, Nat.sub_self]
          rfl
        · rw [List.getElem?_append_left (by omega)]
          exact hHd j r' (by omega) hr'
      · rintro D9 oD9 acc ν₂ hal ⟨rfl, Hs, hHs, hHl, hHd⟩ hoD9 hab9 hne9 hsr9
        have frD9 : @LT.lt Nat _ (c.L + 5) D9 := hab9 (c.L + 5, o5) (by walk_at "zmem")
        refine ev_sub (ν' := (c.L + 5, o5) :: (D9, oD9) :: (c.L + 4, o4') :: (D3, oD3) :: (S3 ++ [(c.L + 3, o3'), (c.L + 1, o1'), (c.L + 2, o2'), (184, tabObj ps2)])) ?_ (by walk_at "zsub")
        refine ev_storeCell (ν₁ := (D9, oD9) :: (c.L + 4, o4') :: (D3, oD3) :: (S3 ++ [(c.L + 3, o3'), (c.L + 1, o1'), (c.L + 2, o2'), (184, tabObj ps2)])) (by with_unfolding_all rfl) h5 (fun _ x => x) (ne_cons (frN 5 (by decide) _ frD9) (ne_cons (cNe 4 5 (by decide)) (ne_cons (frN 5 (by decide) _ frD3) (ne_app (fun p hp => frN 5 (by decide) _ (frS3 p hp)) (ne_cons (cNe 3 5 (by decide)) (ne_cons (cNe 1 5 (by decide)) (ne_cons (cNe 2 5 (by decide)) (ne_cons (c184 5) ne_nil)))))))) (fun o5' h5' => ?_) (by rfl) (by with_unfolding_all rfl)
        have hal9 : acc.length = vs2.length := by rw [hHs.length, hHl]
        have hls9 : (strValues ll).length = vs2.length + 1 := by rw [strs_len hst3, List.length_cons, hXl]; omega
        have hlt1 : acc.length < 2 ^ 40 := by omega
        have hlt2 : (strValues ll).length < 2 ^ 40 := by omega
        with_reducible refine then_next ?_
        with_reducible refine ev_cons ?_
        with_reducible refine ev_Return ?_
        with_reducible refine ev_BoolAnd ?_
        ((with_reducible refine' ev_Compare ?_ ?qs); (case qs => with_unfolding_all rfl))
        ((with_reducible refine' ev_Call ?_ ?qe); (case qe => with_unfolding_all rfl))
        ((with_reducible refine' ev_bltn ?qez ?qv ?_ ?qn ?qg ?qb ?qk ?qx ?qd); (case qg => with_unfolding_all rfl); (case qb => with_unfolding_all rfl); (case qk => with_unfolding_all rfl); (case qx => with_unfolding_all rfl); (case qd => decide); (case qn => decide); (case qez => k_is); (case qv => first | boot_fast | boot_by_name))
        ((with_reducible refine' ev_cwB_0 ?_ ?qe ?qp); (case qe => with_unfolding_all rfl); (case qp => with_unfolding_all rfl))
        ((with_reducible refine' ev_spl ?_ ?qe); (case qe => with_unfolding_all rfl))
        ((with_reducible refine' ev_cell ?qc ?qm ?qo ?_ ?qk ?qx ?qd); (case qk => with_unfolding_all rfl); (case qx => with_unfolding_all rfl); (case qd => decide); (case qc => with_unfolding_all rfl); (case qm => walk_at "zmem"); (case qo => assumption))
        with_reducible refine ev_spl0 ?_
        ((with_reducible refine' ev_lenL ?qm ?qo ?qf ?_); (case qm => walk_at "zmem"); (case qo => walk_at "zo"); (case qf => walk_at "zlen"); intro _)
        with_reducible refine ev_BinOp ?_
        ((with_reducible refine' ev_Call ?_ ?qe); (case qe => with_unfolding_all rfl))
        ((with_reducible refine' ev_bltn ?qez ?qv ?_ ?qn ?qg ?qb ?qk ?qx ?qd); (case qg => with_unfolding_all rfl); (case qb => with_unfolding_all rfl); (case qk => with_unfolding_all rfl); (case qx => with_unfolding_all rfl); (case qd => decide); (case qn => decide); (case qez => k_is); (case qv => first | boot_fast | boot_by_name))
        ((with_reducible refine' ev_cwB_0 ?_ ?qe ?qp); (case qe => with_unfolding_all rfl); (case qp => with_unfolding_all rfl))
        ((with_reducible refine' ev_spl ?_ ?qe); (case qe => with_unfolding_all rfl))
        ((with_reducible refine' ev_cell ?qc ?qm ?qo ?_ ?qk ?qx ?qd); (case qk => with_unfolding_all rfl); (case qx => with_unfolding_all rfl); (case qd => decide); (case qc => with_unfolding_all rfl); (case qm => walk_at "zmem"); (case qo => assumption))
        with_reducible refine ev_spl0 ?_
        ((with_reducible refine' ev_lenL ?qm ?qo ?qf ?_); (case qm => walk_at "zmem"); (case qo => walk_at "zo"); (case qf => walk_at "zlen"); intro _)
        ((with_reducible refine ev_int ?_); intro _)
        ((with_reducible refine ev_add ?_); intro _)
        with_reducible refine ev_eq ?_
        with_reducible refine ev_truthyB ?_
        refine ite_isT (beq_iff_eq.mpr (by omega)) ?_
        have lns := strs_all hst3
        ((with_reducible refine' ev_Compare ?_ ?qs); (case qs => with_unfolding_all rfl))
        refine' ev_ListComp (cl := [("lines", c.L + 4), ("heads", c.L + 5)]) (Rb := NoX) ?_ outCompNoX ?h1 ?h2 ?h3 ?h4 ?h5
        case h1 => with_unfolding_all rfl
        case h2 => decide
        case h3 => rfl
        case h4 => decide
        case h5 => exact fun _ => rfl
        ((with_reducible refine' ev_Call ?_ ?qe); (case qe => with_unfolding_all rfl))
        ((with_reducible refine' ev_bltn ?qez ?qv ?_ ?qn ?qg ?qb ?qk ?qx ?qd); (case qg => with_unfolding_all rfl); (case qb => with_unfolding_all rfl); (case qk => with_unfolding_all rfl); (case qx => with_unfolding_all rfl); (case qd => decide); (case qn => decide); (case qez => k_is); (case qv => first | boot_fast | boot_by_name))
        ((with_reducible refine' ev_cwT_0 ?_ ?qe ?qp); (case qe => with_unfolding_all rfl); (case qp => with_unfolding_all rfl))
        ((with_reducible refine' ev_spl ?_ ?qe); (case qe => with_unfolding_all rfl))
        ((with_reducible refine' ev_Call ?_ ?qe); (case qe => with_unfolding_all rfl))
        ((with_reducible refine' ev_bltn ?qez ?qv ?_ ?qn ?qg ?qb ?qk ?qx ?qd); (case qg => with_unfolding_all rfl); (case qb => with_unfolding_all rfl); (case qk => with_unfolding_all rfl); (case qx => with_unfolding_all rfl); (case qd => decide); (case qn => decide); (case qez => k_is); (case qv => first | boot_fast | boot_by_name))
        ((with_reducible refine' ev_cwB_0 ?_ ?qe ?qp); (case qe => with_unfolding_all rfl); (case qp => with_unfolding_all rfl))
        ((with_reducible refine' ev_spl ?_ ?qe); (case qe => with_unfolding_all rfl))
        ((with_reducible refine' ev_cell ?qc ?qm ?qo ?_ ?qk ?qx ?qd); (case qk => with_unfolding_all rfl); (case qx => with_unfolding_all rfl); (case qd => decide); (case qc => with_unfolding_all rfl); (case qm => walk_at "zmem"); (case qo => assumption))
        with_reducible refine ev_spl0 ?_
        ((with_reducible refine' ev_lenL ?qm ?qo ?qf ?_); (case qm => walk_at "zmem"); (case qo => walk_at "zo"); (case qf => walk_at "zlen"); intro _)
        with_reducible refine ev_spl0 ?_
        refine ev_range1 fun r0 t1 t2 hr0 => ?_
        refine ev_iterR (.head _) (Int.natCast_nonneg _) (by omega) fun it oi hit hoi => ?_
        refine ev_compI (yldR (n := acc.length)) (by unfold sizeLine; omega) (fun k acc2 ν₂ => ν₂ = (c.L + 5, o5') :: (D9, oD9) :: (c.L + 4, o4') :: (D3, oD3) :: (S3 ++ [(c.L + 3, o3'), (c.L + 1, o1'), (c.L + 2, o2'), (184, tabObj ps2)]) ∧ acc2 = []) ⟨oi, rfl, by simpa using hoi⟩ (fun p hp => ltN' (hit p (.tail _ hp))) trivial ⟨rfl, rfl⟩ (by walk_at "zsub") (fun a ha => ⟨_, .head _, ha.symm⟩) (fun k b hb p hp => by obtain ⟨oi', rfl, _⟩ := hb; cases hp with | head => rfl | tail _ h => cases h) (fun L q h => trivial) ?_ ?_
        · rintro k acc2 ν₂ v δ2 b3 C oC mC DA oDA hk hal2 ⟨rfl, rfl⟩ hneA hsrA ⟨⟨tk, rfl⟩, rfl⟩ hδA hBA hNs hoDA habA hDC hbCD hneC
          obtain ⟨r, hkr⟩ : ∃ r, (wholeOf rs more below)[k]? = some r := ⟨_, List.getElem?_eq_getElem (by omega)⟩
          obtain ⟨tail, htl⟩ := hline k r (by omega) hkr
          have hdk := hHd k r (by omega) hkr
          obtain ⟨vl, hvl1, tl, rfl⟩ := lns.get (k := k + 1) (a := Str.ofString (toString (k : Int)) ++ ": " ++ (r.name ++ tail)) (by rw [List.getElem?_cons_succ]; exact htl)
          obtain ⟨vh, hvh1, th, rfl⟩ := hHs.get hdk
          with_reducible refine ev_assignName ?_
          ((with_reducible refine' ev_storeC ?qC (fun _ h => h) ?qn ?_ ?qL ?qk ?qx); (case qL => with_unfolding_all rfl); (case qk => with_unfolding_all rfl); (case qx => with_unfolding_all rfl); (case qC => assumption); (case qn => walk_at "zne"); intro _ _)
          with_reducible refine ev_tests1 ?_
          with_reducible refine ev_isNot ?_
          ((with_reducible refine' ev_isPlain ?_ ?qe); (case qe => with_unfolding_all rfl))
          ((with_reducible refine' ev_CallM ?_ ?qe); (case qe => with_unfolding_all rfl))
          with_reducible refine ev_Sub ?_
          ((with_reducible refine' ev_cell ?qc ?qm ?qo ?_ ?qk ?qx ?qd); (case qk => with_unfolding_all rfl); (case qx => with_unfolding_all rfl); (case qd => decide); (case qc => with_unfolding_all rfl); (case qm => walk_at "zmem"); (case qo => assumption))
          with_reducible refine ev_BinOp ?_
          ((with_reducible refine' ev_localC ?qm ?qC ?qv ?_ ?qL ?qk ?qx ?qd); (case qL => with_unfolding_all rfl); (case qk => with_unfolding_all rfl); (case qx => with_unfolding_all rfl); (case qd => decide); (case qm => walk_at "zmem"); (case qC => assumption); (case qv => walk_at "zlk"))
          ((with_reducible refine ev_int ?_); intro _)
          ((with_reducible refine ev_add ?_); intro _)
          refine ev_itemL (by walk_at "zmem") hoD3 (by omega) (by omega) (x := .str (Str.ofString (toString (k : Int)) ++ ": " ++ (r.name ++ tail)) tl) (by rw [show ((k : Int) + 1).toNat = k + 1 by omega]; exact hvl1) ?_ (by with_unfolding_all rfl)
          with_reducible refine ev_getStarts ?_
          ((with_reducible refine' ev_cwB_1 ?_ ?qe ?qp); (case qe => with_unfolding_all rfl); (case qp => with_unfolding_all rfl))
          ((with_reducible refine' ev_spl ?_ ?qe); (case qe => with_unfolding_all rfl))
          with_reducible refine ev_Sub ?_
          ((with_reducible refine' ev_cell ?qc ?qm ?qo ?_ ?qk ?qx ?qd); (case qk => with_unfolding_all rfl); (case qx => with_unfolding_all rfl); (case qd => decide); (case qc => with_unfolding_all rfl); (case qm => walk_at "zmem"); (case qo => assumption))
          ((with_reducible refine' ev_localC ?qm ?qC ?qv ?_ ?qL ?qk ?qx ?qd); (case qL => with_unfolding_all rfl); (case qk => with_unfolding_all rfl); (case qx => with_unfolding_all rfl); (case qd => decide); (case qm => walk_at "zmem"); (case qC => assumption); (case qv => walk_at "zlk"))
          refine ev_itemL (by walk_at "zmem") hoD9 (Int.natCast_nonneg _) (by omega) hvh1 ?_ (by with_unfolding_all rfl)
          with_reducible refine ev_spl0 ?_
          with_reducible refine ev_starts ?_
          with_reducible refine ev_truthyB ?_
          rw [show Txt.startswith (Str.ofString (toString (k : Int)) ++ ": " ++ (r.name ++ tail)) (Str.ofString (toString (k : Int)) ++ ": " ++ r.name) = true from starts_app]
          with_reducible refine ite_isF (b := !true) rfl ?_
          refine' comp_done ?sub ?ns hneA hsrA ⟨rfl, rfl⟩
          case sub => walk_at "zsub"
          case ns => assumption
        · rintro DA oDA acc2 ν₂ hal2 ⟨rfl, rfl⟩ hoDA habA hneA hsrA
          with_reducible refine ev_List ?_
          with_reducible refine ev_spl0 ?_
          refine ev_newList (fun DB hDB => ?_) (by simp [sizeLine])
          refine ev_eqD (da := .list []) (db := .list []) (via_lst (by walk_at "zmem") hoDA .nil) (via_lst (.head _) lstO_mk .nil) rfl rfl (by walk_at "zroom") ?_
          rw [show PyData.eqv (.list []) (.list []) = true from rfl]
          with_reducible refine then_ret ?_
          exact ⟨rfl, ps2, by walk_at "zmem"⟩
  · intro m' ν' h' tk' ps hm F N
    refine ⟨goodW_bool F (by assumption) (raisesW_false ?_) ?_, GrownAt.of N hm, trivial⟩
    · wrow_none_raised
    · wrow_post

end Mine
theorem PySem.Challenge.cw_pc0191_02_holds : PySem.Challenge.rw_pc0191_02.Holds :=
  Mine.head
