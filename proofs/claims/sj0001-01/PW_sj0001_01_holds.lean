import PyProof.Rows.All
import Wide.All
import OpenK.AllK
import Wide.FinOn
import KE.LcSums
import KE.LcTurns
import KE.KEqDat
import PySem.Challenge.RW_sj0001_01
open PySem PySem.W PyProof.Rows PySem.Calls PyProof.V
set_option Elab.async false
set_option maxRecDepth 100000
set_option linter.unusedVariables false
namespace Mine
/-! Fw -/
abbrev Ld := List (Addr × Obj)
abbrev Bs := List (Str × Value)

structure Wd where
  prog : Program
  w : World
  K : Frag
  p : Program
  loose : List Str
  mg : Str → Option Value
  mb : Str → Option Value

structure FI where
  name : Str
  scope : Scope
  L : Addr
  f : Addr
  cd : Value
  cl : List (Str × Addr)
abbrev FI.env (F : FI) : Env := envX F.name F.scope F.L F.f F.cd F.cl

/-- the frame and the ledger, newest first -/
structure Led (h₀ : Heap) (L : Addr) (l : Bs) (h : Heap) (n : Ld) : Prop where
  fr : Fr h₀ L h (fun y => l.lookup y)
  nw : News h₀ L h n
  od : (n.map (·.1)).Pairwise (· > ·)

structure Sit (W : Wd) (env : Env) (d : Nat) (A A₀ : Around) (base h₀ : Heap) (outer : List Env) : Prop where
  below : Below A₀ base outer h₀
  kin : W.K.In h₀
  top : TopRead W.p W.loose W.mg W.mb h₀
  frs : A.frames = some (env :: outer)
  hnd : A.handled = none
  dep : A.depth + d < recursionLimit
  uni : A.units + 10 * d + 200 < cLine

def no : Value → Shared → Prop := fun _ _ => False

def Rn (W : Wd) (F : FI) (d : Nat) (l : Bs) (n : Ld) {α : Type} (t : Env → Sem α) (k : α → Bs → Ld → Prop) : Prop :=
  ∀ (A A₀ : Around) (base h₀ : Heap) (outer : List Env) (s : Shared) (Q : α → Shared → Prop), Sit W F.env d A A₀ base h₀ outer → Led h₀ F.L l s.heap n →
    (∀ a l' n' h tk, Led h₀ F.L l' h n' → k a l' n' → Q a { s with heap := h, toks := tk }) → wpAny (model W.prog W.w) A (t F.env) Q no s

section
variable {W : Wd} {F : FI} {d : Nat} {l : Bs} {n : Ld} {α β : Type} {k k' : α → Bs → Ld → Prop}

theorem Rn.mono {t : Env → Sem α} (h : Rn W F d l n t k) (hk : ∀ a l' n', k a l' n' → k' a l' n') : Rn W F d l n t k' :=
  fun A A₀ base h₀ outer s Q S D kQ => h A A₀ base h₀ outer s Q S D fun a l' n' h tk D' x => kQ a l' n' h tk D' (hk a l' n' x)

/-- go on from a later state -/
theorem Rn.go {t : Env → Sem α} {A A₀ : Around} {base h₀ : Heap} {outer : List Env} {s : Shared} {Q : α → Shared → Prop} {h : Heap} {tk : Nat} (x : Rn W F d l n t k)
    (S : Sit W F.env d A A₀ base h₀ outer) (D : Led h₀ F.L l h n) (kQ : ∀ a l' n' h tk, Led h₀ F.L l' h n' → k a l' n' → Q a { s with heap := h, toks := tk }) :
    wpAny (model W.prog W.w) A (t F.env) Q no { s with heap := h, toks := tk } := x A A₀ base h₀ outer { s with heap := h, toks := tk } Q S D kQ

/-- the flow of statements -/
theorem r_nil {k : Flow → Bs → Ld → Prop} (h : k .next l n) : Rn W F d l n (execs []) k :=
  fun _ _ _ _ _ s _ _ D kQ => wpAny_execs_nil (kQ _ _ _ s.heap s.toks D h)

def andThen (W : Wd) (F : FI) (d : Nat) (rest : List Stmt) (k : Flow → Bs → Ld → Prop) : Flow → Bs → Ld → Prop
  | .next, l, n => Rn W F d l n (execs rest) k
  | f, l, n => k f l n

theorem r_cons {st : Stmt} {rest : List Stmt} {k : Flow → Bs → Ld → Prop} (h : Rn W F d l n (exec st) (andThen W F d rest k)) : Rn W F d l n (execs (st :: rest)) k :=
  fun A A₀ base h₀ outer s Q S D kQ => wpAny_execs_cons (h A A₀ base h₀ outer s _ S D fun f l' n' h tk D' x => by
    cases f with
    | next => exact x.go S D' kQ
    | _ => exact kQ _ _ _ _ _ D' x)

theorem r_return {e : Expr} {pos : Pos} {k : Flow → Bs → Ld → Prop} (h : Rn W F d l n (eval e) fun v => k (.ret v)) : Rn W F d l n (exec (.Return (some e) pos)) k :=
  fun A A₀ base h₀ outer s Q S D kQ => wpAny_Return_some (h A A₀ base h₀ outer s _ S D fun v l' n' h tk D' x => kQ _ _ _ _ _ D' x)
theorem r_continue {pos : Pos} {k : Flow → Bs → Ld → Prop} (h : k .cont l n) : Rn W F d l n (exec (.Continue pos)) k :=
  fun _ _ _ _ _ s _ _ D kQ => wpAny_Continue (kQ _ _ _ s.heap s.toks D h)
theorem r_expr {e : Expr} {pos : Pos} {k : Flow → Bs → Ld → Prop} (h : Rn W F d l n (eval e) fun _ => k .next)
    (hi : interactive F.env = false := by rfl) (hs : swapsWith e none pos.line F.env = pure false := by rfl) : Rn W F d l n (exec (.Expr e pos)) k :=
  fun A A₀ base h₀ outer s Q S D kQ => wpAny_Expr_any (h A A₀ base h₀ outer s _ S D fun v l' n' h tk D' x => kQ _ _ _ _ _ D' x) hi hs

abbrev tst (e : Expr) : Env → Sem Bool := fun env => isTrue e env (eval e env)

theorem r_if {test : Expr} {body orelse : List Stmt} {pos : Pos} {k : Flow → Bs → Ld → Prop}
    (h : Rn W F d l n (tst test) fun b l' n' => if b = true then Rn W F d l' n' (execs body) k else Rn W F d l' n' (execs orelse) k) : Rn W F d l n (exec (.If test body orelse pos)) k :=
  fun A A₀ base h₀ outer s Q S D kQ => wpAny_If (h A A₀ base h₀ outer s _ S D fun b l' n' h tk D' x => by
    cases b with
    | true => rw [if_pos rfl] at x ⊢; exact x.go S D' kQ
    | false => rw [if_neg Bool.false_ne_true] at x ⊢; exact x.go S D' kQ)

/-- names -/
def sto (x : Str) (v : Value) : Bs → Bs
  | [] => [(x, v)]
  | (y, u) :: l => if y = x then (x, v) :: l else (y, u) :: sto x v l
theorem sto_lookup (x : Str) (v : Value) : ∀ (l : Bs) (y : Str), (sto x v l).lookup y = if y = x then some v else l.lookup y
  | [], y => by
    unfold sto
    by_cases h : y = x
    · subst h; simp
    · have e : (y == x) = false := by simpa using h
      simp [List.lookup, h, e]
  | (z, u) :: l, y => by
    unfold sto
    by_cases hz : z = x
    · subst hz
      rw [if_pos rfl]
      by_cases h : y = z
      · subst h; simp
      · have e : (y == z) = false := by simpa using h
        rw [if_neg h, List.lookup_cons, List.lookup_cons, e]
    · rw [if_neg hz]
      by_cases h : y = x
      · subst h
        have e : (y == z) = false := by simpa using Ne.symm hz
        rw [List.lookup_cons, e, if_pos rfl]
        simpa using sto_lookup y v l y
      · rw [if_neg h]
        rw [List.lookup_cons, List.lookup_cons]
        cases (y == z) with
        | true => rfl
        | false => simpa [h] using sto_lookup x v l y
theorem Led.sto {h₀ h : Heap} {L : Addr} {l : Bs} {n : Ld} {x : Str} {v : Value} (F : Fr h₀ L h (fun y => if y = x then some v else l.lookup y)) (N : News h₀ L h n) (od : (n.map (·.1)).Pairwise (· > ·)) : Led h₀ L (Mine.sto x v l) h n :=
  ⟨by rw [show (fun y => (Mine.sto x v l).lookup y) = fun y => if y = x then some v else l.lookup y from funext (sto_lookup x v l)]; exact F, N, od⟩

theorem r_local {x : Str} {pos : Pos} {v : Value} {k : Value → Bs → Ld → Prop} (hv : l.lookup x = some v) (h : k v l n)
    (hk : F.scope.kind = .function := by rfl) (hx : F.env.kindOf x = some .local := by rfl) (hd : (x == ("__debug__" : Str)) = false := by decide) : Rn W F d l n (eval (.Name x pos)) k :=
  fun _ _ _ _ _ s _ _ D kQ => nameX_L D.fr hv (kQ _ _ _ s.heap s.toks D h) hk hx hd
theorem r_global {x : Str} {pos : Pos} {v : Value} {k : Value → Bs → Ld → Prop} (e : nsIn W.K mainGlobals x = some (some v)) (h : k v l n)
    (hk : F.scope.kind = .function := by rfl) (hx : F.env.kindOf x = some .globalImplicit := by rfl) (hd : (x == ("__debug__" : Str)) = false := by decide) : Rn W F d l n (eval (.Name x pos)) k :=
  fun _ _ _ _ _ s _ S D kQ => nameX_K D.fr S.kin S.top e (kQ _ _ _ s.heap s.toks D h) hk hx hd
theorem r_built {x : Str} {pos : Pos} {v : Value} {k : Value → Bs → Ld → Prop} (e : nsIn W.K mainGlobals x = some none) (hv : bootBuiltins x = some v) (h : k v l n)
    (hn : x ≠ "__name__" := by decide) (hk : F.scope.kind = .function := by rfl) (hx : F.env.kindOf x = some .globalImplicit := by rfl) (hd : (x == ("__debug__" : Str)) = false := by decide) : Rn W F d l n (eval (.Name x pos)) k :=
  fun _ _ _ _ _ s _ S D kQ => nameX_B D.fr S.kin S.top e hv hn (kQ _ _ _ s.heap s.toks D h) hk hx hd
theorem r_assign {x : Str} {px pos : Pos} {value : Expr} {k : Flow → Bs → Ld → Prop} (h : Rn W F d l n (eval value) fun v l' n' => k .next (sto x v l') n')
    (hk : F.scope.kind = .function := by rfl) (hx : F.env.kindOf x = some .local := by rfl) (hs : swapsWith value (some (.Name x px)) pos.line F.env = pure false := by rfl) :
    Rn W F d l n (exec (.Assign [.Name x px] value pos)) k :=
  fun A A₀ base h₀ outer s Q S D kQ => wpAny_Assign_Name (h A A₀ base h₀ outer s _ S D fun v l' n' h tk D' x => storeX_L D'.fr D'.nw (fun h' F' N' => kQ _ _ _ h' _ (Led.sto F' N' D'.od) x) hk hx) hs

/-- constants -/
theorem r_int {i : Int} {c : Nat} {pos : Pos} {k : Value → Bs → Ld → Prop} (h : ∀ t, k (.int i t) l n) : Rn W F d l n (eval (.Constant (.int i) c pos)) k :=
  fun _ _ _ _ _ s _ _ D kQ => wpAny_Constant_int (kQ _ _ _ s.heap _ D (h _))
theorem r_str {x : Str} {c : Nat} {pos : Pos} {k : Value → Bs → Ld → Prop} (h : ∀ t, k (.str x t) l n) : Rn W F d l n (eval (.Constant (.str x) c pos)) k :=
  fun _ _ _ _ _ s _ _ D kQ => Calls.Constant_str (kQ _ _ _ s.heap _ D (h _))
theorem r_none {c : Nat} {pos : Pos} {k : Value → Bs → Ld → Prop} (h : k .none l n) : Rn W F d l n (eval (.Constant .none c pos)) k :=
  fun _ _ _ _ _ s _ _ D kQ => wpAny_Constant_none (kQ _ _ _ s.heap s.toks D h)

/-- tests -/
theorem t_cmp {lhs rhs : Expr} {op : CmpOp} {pos : Pos} {k : Bool → Bs → Ld → Prop}
    (h : Rn W F d l n (eval lhs) fun a l1 n1 => Rn W F d l1 n1 (eval rhs) fun b l2 n2 => Rn W F d l2 n2 (fun _ => compareOp op a b) fun v l3 n3 => ∃ c, v = .bool c ∧ k c l3 n3)
    (hb : behindInMarks op rhs = false := by rfl) : Rn W F d l n (tst (.Compare lhs [op] [rhs] pos)) k :=
  fun A A₀ base h₀ outer s Q S D kQ => wpAny_isTrue_Compare1 (h A A₀ base h₀ outer s _ S D fun a l1 n1 h1 tk1 D1 x1 => x1.go S D1 fun b l2 n2 h2 tk2 D2 x2 => x2.go S D2 fun v l3 n3 h3 tk3 D3 x3 => by
    obtain ⟨c, rfl, x3⟩ := x3
    exact wpAny_truthy_bool (kQ _ _ _ _ _ D3 x3)) hb
theorem t_and0 {pos : Pos} {wh : Env → Sem Value} {k : Bool → Bs → Ld → Prop} (h : k true l n) : Rn W F d l n (fun env => isTrue (.BoolOp .And [] pos) env (wh env)) k :=
  fun _ _ _ _ _ s _ _ D kQ => isTrue_and_nil (kQ _ _ _ s.heap s.toks D h)
theorem t_or0 {pos : Pos} {wh : Env → Sem Value} {k : Bool → Bs → Ld → Prop} (h : k false l n) : Rn W F d l n (fun env => isTrue (.BoolOp .Or [] pos) env (wh env)) k :=
  fun _ _ _ _ _ s _ _ D kQ => isTrue_or_nil (kQ _ _ _ s.heap s.toks D h)
theorem t_and {e : Expr} {rest : List Expr} {pos : Pos} {wh : Env → Sem Value} {k : Bool → Bs → Ld → Prop}
    (h : Rn W F d l n (tst e) fun c l' n' => if c = true then Rn W F d l' n' (fun env => isTrue (.BoolOp .And rest pos) env (wh env)) k else k false l' n') :
    Rn W F d l n (fun env => isTrue (.BoolOp .And (e :: rest) pos) env (wh env)) k :=
  fun A A₀ base h₀ outer s Q S D kQ => isTrue_and (h A A₀ base h₀ outer s _ S D fun b l' n' h tk D' x => by
    cases b with
    | true => rw [if_pos rfl] at x ⊢; exact x.go S D' kQ
    | false => rw [if_neg Bool.false_ne_true] at x ⊢; exact kQ _ _ _ _ _ D' x)
theorem t_or {e : Expr} {rest : List Expr} {pos : Pos} {wh : Env → Sem Value} {k : Bool → Bs → Ld → Prop}
    (h : Rn W F d l n (tst e) fun c l' n' => if c = true then k true l' n' else Rn W F d l' n' (fun env => isTrue (.BoolOp .Or rest pos) env (wh env)) k) :
    Rn W F d l n (fun env => isTrue (.BoolOp .Or (e :: rest) pos) env (wh env)) k :=
  fun A A₀ base h₀ outer s Q S D kQ => isTrue_or (h A A₀ base h₀ outer s _ S D fun b l' n' h tk D' x => by
    cases b with
    | true => rw [if_pos rfl] at x ⊢; exact kQ _ _ _ _ _ D' x
    | false => rw [if_neg Bool.false_ne_true] at x ⊢; exact x.go S D' kQ)
theorem t_not {e : Expr} {pos : Pos} {k : Bool → Bs → Ld → Prop} (h : Rn W F d l n (tst e) fun c l' n' => k (!c) l' n') : Rn W F d l n (tst (.UnaryOp .Not e pos)) k :=
  fun A A₀ base h₀ outer s Q S D kQ => isTrue_not (h A A₀ base h₀ outer s _ S D fun b l' n' h tk D' x => kQ _ _ _ _ _ D' x)
/-- the truth of a value -/
def truth : Value → Option Bool
  | .bool b => some b
  | .int i _ => some (i != 0)
  | _ => none
theorem t_call {f : Expr} {as : List Expr} {ks : List Keyword} {pos : Pos} {k : Bool → Bs → Ld → Prop} (h : Rn W F d l n (eval (.Call f as ks pos)) fun v l' n' => ∃ c, truth v = some c ∧ k c l' n') : Rn W F d l n (tst (.Call f as ks pos)) k :=
  fun A A₀ base h₀ outer s Q S D kQ => isTrue_plain (h A A₀ base h₀ outer s _ S D fun v l' n' h tk D' x => by
    obtain ⟨c, e, x⟩ := x
    cases v <;> simp only [truth, Option.some.injEq, reduceCtorEq] at e
    · subst e; exact wpAny_truthy_bool (kQ _ _ _ _ _ D' x)
    · subst e; exact truthy_int (kQ _ _ _ _ _ D' x))
theorem t_name {y : Str} {pos : Pos} {k : Bool → Bs → Ld → Prop} (h : Rn W F d l n (eval (.Name y pos)) fun v l' n' => ∃ c, truth v = some c ∧ k c l' n') : Rn W F d l n (tst (.Name y pos)) k :=
  fun A A₀ base h₀ outer s Q S D kQ => isTrue_plain (h A A₀ base h₀ outer s _ S D fun v l' n' h tk D' x => by
    obtain ⟨c, e, x⟩ := x
    cases v <;> simp only [truth, Option.some.injEq, reduceCtorEq] at e
    · subst e; exact wpAny_truthy_bool (kQ _ _ _ _ _ D' x)
    · subst e; exact truthy_int (kQ _ _ _ _ _ D' x))

/-- expressions over others -/
theorem r_cmp {lhs rhs : Expr} {op : CmpOp} {pos : Pos} {k : Value → Bs → Ld → Prop}
    (h : Rn W F d l n (eval lhs) fun a l1 n1 => Rn W F d l1 n1 (eval rhs) fun b l2 n2 => Rn W F d l2 n2 (fun _ => compareOp op a b) k)
    (hb : behindInMarks op rhs = false := by rfl) : Rn W F d l n (eval (.Compare lhs [op] [rhs] pos)) k :=
  fun A A₀ base h₀ outer s Q S D kQ => wpAny_Compare1 (h A A₀ base h₀ outer s _ S D fun a l1 n1 h1 tk1 D1 x1 => x1.go S D1 fun b l2 n2 h2 tk2 D2 x2 => x2.go S D2 kQ) hb
theorem r_bin {lhs rhs : Expr} {op : Operator} {pos : Pos} {k : Value → Bs → Ld → Prop}
    (h : Rn W F d l n (eval lhs) fun a l1 n1 => Rn W F d l1 n1 (eval rhs) fun b l2 n2 => Rn W F d l2 n2 (fun _ => binaryOp op a b) k) : Rn W F d l n (eval (.BinOp lhs op rhs pos)) k :=
  fun A A₀ base h₀ outer s Q S D kQ => wpAny_BinOp (h A A₀ base h₀ outer s _ S D fun a l1 n1 h1 tk1 D1 x1 => x1.go S D1 fun b l2 n2 h2 tk2 D2 x2 => x2.go S D2 kQ)
theorem r_ifexp {test body orelse : Expr} {pos : Pos} {k : Value → Bs → Ld → Prop}
    (h : Rn W F d l n (tst test) fun b l' n' => if b = true then Rn W F d l' n' (eval body) k else Rn W F d l' n' (eval orelse) k) : Rn W F d l n (eval (.IfExp test body orelse pos)) k :=
  fun A A₀ base h₀ outer s Q S D kQ => wpAny_IfExp (h A A₀ base h₀ outer s _ S D fun b l' n' h tk D' x => by
    cases b with
    | true => rw [if_pos rfl] at x ⊢; exact x.go S D' kQ
    | false => rw [if_neg Bool.false_ne_true] at x ⊢; exact x.go S D' kQ)
theorem r_sub {value slice : Expr} {pos : Pos} {k : Value → Bs → Ld → Prop}
    (h : Rn W F d l n (eval value) fun a l1 n1 => Rn W F d l1 n1 (eval slice) fun b l2 n2 => Rn W F d l2 n2 (fun _ => subscriptTail value slice a b) k) : Rn W F d l n (eval (.Subscript value slice pos)) k :=
  fun A A₀ base h₀ outer s Q S D kQ => Subscript_ (h A A₀ base h₀ outer s _ S D fun a l1 n1 h1 tk1 D1 x1 => x1.go S D1 fun b l2 n2 h2 tk2 D2 x2 => x2.go S D2 kQ)
/-- a list of expressions -/
abbrev args (pos : Pos) (es : List Expr) : Env → Sem (List Value) := fun env => spliced (backTo pos (starEach es env))
theorem r_args0 {pos : Pos} {k : List Value → Bs → Ld → Prop} (h : k [] l n) : Rn W F d l n (args pos []) k :=
  fun _ _ _ _ _ s _ _ D kQ => args_nil (kQ _ _ _ s.heap s.toks D h)
theorem r_args {e : Expr} {rest : List Expr} {pos : Pos} {k : List Value → Bs → Ld → Prop} (h : Rn W F d l n (eval e) fun v l1 n1 => Rn W F d l1 n1 (args pos rest) fun vs => k (v :: vs))
    (he : starEach (e :: rest) F.env = (false, eval e F.env) :: starEach rest F.env := by rfl) : Rn W F d l n (args pos (e :: rest)) k :=
  fun A A₀ base h₀ outer s Q S D kQ => args_cons (h A A₀ base h₀ outer s _ S D fun a l1 n1 h1 tk1 D1 x1 => x1.go S D1 fun b l2 n2 h2 tk2 D2 x2 => kQ _ _ _ _ _ D2 x2) he
abbrev tup (vs : List Value) (m : Nat) : Obj := { cls := .type "tuple", data := .seq vs.toArray m }
theorem Led.cons {h₀ h : Heap} {L D : Addr} {l : Bs} {n : Ld} {o : Obj} (F : Fr h₀ L h (fun y => l.lookup y)) (N : News h₀ L h ((D, o) :: n)) (od : (n.map (·.1)).Pairwise (· > ·)) (lt : ∀ p ∈ n, p.1 < D) : Led h₀ L l h ((D, o) :: n) :=
  ⟨F, N, List.Pairwise.cons (fun b hb => by obtain ⟨p, hp, rfl⟩ := List.mem_map.mp hb; exact lt p hp) od⟩
theorem r_tuple {es : List Expr} {c : Nat} {pos : Pos} {k : Value → Bs → Ld → Prop} (h : Rn W F d l n (args pos es) fun vs l1 n1 => vs.length ≤ sizeLine ∧ ∀ D, k (.ref D) l1 ((D, tup vs 0) :: n1)) : Rn W F d l n (eval (.Tuple es c pos)) k :=
  fun A A₀ base h₀ outer s Q S D kQ => Tuple_ (h A A₀ base h₀ outer s _ S D fun vs l1 n1 h1 tk1 D1 x1 => kup_newTuple D1.fr D1.nw (fun D' h' F' N' lt => kQ _ _ _ _ _ (Led.cons F' N' D1.od lt) (x1.2 D')) x1.1)
theorem r_list {es : List Expr} {pos : Pos} {k : Value → Bs → Ld → Prop} (h : Rn W F d l n (args pos es) fun vs l1 n1 => vs.length ≤ sizeLine ∧ ∀ D, k (.ref D) l1 ((D, listOf vs.toArray 0) :: n1)) : Rn W F d l n (eval (.List es pos)) k :=
  fun A A₀ base h₀ outer s Q S D kQ => List_ (h A A₀ base h₀ outer s _ S D fun vs l1 n1 h1 tk1 D1 x1 => newList_K D1.fr D1.nw (fun D' h' F' N' lt => kQ _ _ _ _ _ (Led.cons F' N' D1.od lt) (x1.2 D')) x1.1)

/-- the operations -/
theorem o_eqI {a b : Int} {t u : Tok} {k : Value → Bs → Ld → Prop} (h : k (.bool (a == b)) l n) : Rn W F d l n (fun _ => compareOp .Eq (.int a t) (.int b u)) k :=
  fun _ _ _ _ _ s _ _ D kQ => eq_int (kQ _ _ _ s.heap s.toks D h)
theorem o_neI {a b : Int} {t u : Tok} {k : Value → Bs → Ld → Prop} (h : k (.bool (a != b)) l n) : Rn W F d l n (fun _ => compareOp .NotEq (.int a t) (.int b u)) k :=
  fun _ _ _ _ _ s _ _ D kQ => ne_int (kQ _ _ _ s.heap s.toks D h)
end

/-- the ledger turned at one place -/
inductive Chg (D : Addr) (o o' : Obj) : Ld → Ld → Prop
  | head {r : Ld} : Chg D o o' ((D, o) :: r) ((D, o') :: r)
  | tail {p : Addr × Obj} {r r' : Ld} : Chg D o o' r r' → Chg D o o' (p :: r) (p :: r')
theorem Chg.app {D : Addr} {o o' : Obj} {r r' : Ld} (h : Chg D o o' r r') : ∀ tl : Ld, Chg D o o' (tl ++ r) (tl ++ r')
  | [] => h
  | p :: tl => .tail (h.app tl)
theorem Chg.mem {D : Addr} {o o' : Obj} {r r' : Ld} (h : Chg D o o' r r') : (D, o) ∈ r := by
  induction h with
  | head => exact .head _
  | tail _ ih => exact .tail _ ih
theorem Chg.mem' {D : Addr} {o o' : Obj} {r r' : Ld} (h : Chg D o o' r r') : (D, o') ∈ r' := by
  induction h with
  | head => exact .head _
  | tail _ ih => exact .tail _ ih
theorem Chg.keys {D : Addr} {o o' : Obj} {r r' : Ld} (h : Chg D o o' r r') : r'.map (·.1) = r.map (·.1) := by
  induction h with
  | head => rfl
  | tail _ ih => simp only [List.map_cons, ih]
theorem Chg.keep {D : Addr} {o o' : Obj} {r r' : Ld} (h : Chg D o o' r r') {p : Addr × Obj} (hp : p ∈ r) (hn : p.1 ≠ D) : p ∈ r' := by
  induction h with
  | head =>
    rcases List.mem_cons.mp hp with rfl | hp
    · exact absurd rfl hn
    · exact .tail _ hp
  | tail _ ih =>
    rcases List.mem_cons.mp hp with rfl | hp
    · exact .head _
    · exact .tail _ (ih hp)
theorem Chg.upd {D : Addr} {o o' : Obj} {r r' : Ld} (h : Chg D o o' r r') (od : (r.map (·.1)).Pairwise (· > ·)) : Upd D o o' r r' := by
  induction h with
  | head =>
    rw [List.map_cons] at od
    exact .head fun p hp => Nat.ne_of_lt ((List.pairwise_cons.mp od).1 _ (List.mem_map_of_mem hp))
  | @tail p r r' h ih =>
    rw [List.map_cons] at od
    exact .tail (Nat.ne_of_gt ((List.pairwise_cons.mp od).1 _ (List.mem_map.mpr ⟨_, h.mem, rfl⟩))) (ih (List.pairwise_cons.mp od).2)

section
variable {W : Wd} {F : FI} {d : Nat} {l : Bs} {n : Ld} {α β : Type}

/-- items -/
theorem o_tupI {value slice : Expr} {a : Addr} {vs : List Value} {m : Nat} {i : Int} {u : Tok} {x : Value} {k : Value → Bs → Ld → Prop} (hm : (a, tup vs m) ∈ n) (h0 : 0 ≤ i) (hi : i < 2 ^ 63) (hx : vs[i.toNat]? = some x) (h : k x l n)
    (hs : subscripted slice false (.ref a) (.int i u) = operate [.ref a, .int i u] (getItem (.ref a) (.int i u)) := by with_unfolding_all rfl) : Rn W F d l n (fun _ => subscriptTail value slice (.ref a) (.int i u)) k :=
  fun _ _ _ _ _ s _ _ D kQ => by
    have hl := (List.getElem?_eq_some_iff.mp hx).1
    refine item_tupleT (D.nw.isTup hm) (by omega) hi (j := i.toNat) ?_ hx (kQ _ _ _ s.heap s.toks D h) hs
    unfold seqIndex?
    have e1 : ¬ i < 0 := by omega
    have e2 : i < (vs.length : Int) := by omega
    simp [e1, h0, e2]
theorem o_lstI {value slice : Expr} {a : Addr} {vs : List Value} {m : Nat} {i : Int} {u : Tok} {x : Value} {k : Value → Bs → Ld → Prop} (hm : (a, listOf vs.toArray m) ∈ n) (h0 : 0 ≤ i) (hi : i < 2 ^ 63) (hx : vs[i.toNat]? = some x) (h : k x l n)
    (hs : subscripted slice false (.ref a) (.int i u) = operate [.ref a, .int i u] (getItem (.ref a) (.int i u)) := by with_unfolding_all rfl) : Rn W F d l n (fun _ => subscriptTail value slice (.ref a) (.int i u)) k :=
  fun _ _ _ _ _ s _ _ D kQ => by
    have hl : s.heap.IsList a vs.toArray := ⟨_, D.nw.get hm, rfl, m, rfl⟩
    exact tail_any hl.typeIs slot_list_getitem.lookup (wpAny_getItem_list hl h0 hi (by simpa using hx) (kQ _ _ _ s.heap s.toks D h)) hs

/-- a call of a def of the text -/
def Cl (W : Wd) (d : Nat) (f : Addr) (vs : List Value) (n : Ld) (k : Value → Ld → Prop) : Prop :=
  ∀ (A A₀ : Around) (base h₀ : Heap) (outer : List Env) (env : Env) (L : Addr) (m : Str → Option Value) (s : Shared) (R : Result → Shared → Prop), Sit W env d A A₀ base h₀ outer → env.frame = some L → env.scope.kind = .function →
    Fr h₀ L s.heap m → News h₀ L s.heap n → (n.map (·.1)).Pairwise (· > ·) →
    (∀ v n' h tk, Fr h₀ L h m → News h₀ L h n' → (n'.map (·.1)).Pairwise (· > ·) → k v n' → R (.ok (.ret v)) { s with heap := h, toks := tk }) → codeAny (model W.prog W.w) A (.call (.ref f) ⟨vs, []⟩) R s
theorem Cl.mono {f : Addr} {vs : List Value} {k k' : Value → Ld → Prop} (h : Cl W d f vs n k) (hk : ∀ v n', k v n' → k' v n') : Cl W d f vs n k' :=
  fun A A₀ base h₀ outer env L m s R S e1 e2 F N od kR => h A A₀ base h₀ outer env L m s R S e1 e2 F N od fun v n' h tk F' N' od' x => kR v n' h tk F' N' od' (hk v n' x)
theorem o_call {f : Addr} {vs : List Value} {k : Value → Bs → Ld → Prop} (h : Cl W d f vs n fun v n' => k v l n') (hF : F.scope.kind = .function := by rfl) : Rn W F d l n (fun _ => call (.ref f) vs) k :=
  fun A A₀ base h₀ outer s Q S D kQ => wpAny_call (h A A₀ base h₀ outer F.env F.L _ s _ S rfl hF D.fr D.nw D.od fun v n' h' tk F' N' od' x => kQ _ _ _ h' tk ⟨F', N', od'⟩ x)
def back : Flow → Value
  | .ret v => v
  | _ => .none
theorem cl_def {f : Addr} {name qual : Str} {params : Arguments} {body : List Stmt} {scope : Scope} {dV kV doc pm cdv ct oc : Value} {an od : Option Addr} {osl : Array (Option Value)} {vs : List Value} (binds : List (Str × Value)) {k : Value → Ld → Prop}
    (ho : W.K.lookup f = some ⟨oc, od, .func (fnX name qual params body scope [] dV kV doc pm an cdv ct), osl⟩) (hcd : codeIn W.K cdv qual = true)
    (hbind : bindArgs (fnX name qual params body scope [] dV kV doc pm an cdv ct) ⟨vs, []⟩ = pure binds) (hloc : ∀ y ∈ binds, scope.names.lookup y.1 = some .local)
    (h : ∀ L, Rn W ⟨qual, scope, L, f, cdv, []⟩ d binds.reverse n (execs body) fun fl _ n' => k (back fl) n')
    (hcell : ∀ x ∈ scope.names, x.2 ≠ .cell) (hco : scope.isCoroutine = false := by rfl) (hgen : scope.isGenerator = false := by rfl) (hk : scope.kind = .function := by rfl) : Cl W (d + 1) f vs n k := by
  intro A A₀ base h₀ outer env L m s R S e1 e2 F N od kR
  refine callX_plain S.below F N S.top.nolimit S.frs e1 e2 ((S.kin.keeps F.keep) _ _ ho) rfl (codeRec_of (S.kin.keeps F.keep) hcd) (Nat.lt_of_le_of_lt (Nat.le_add_right _ _) S.dep) (BindsTo.of_eq hbind) hloc (fun g L' h₁ FG F' N' B' st _ => ?_) hcell hco hgen hk
  have S' : Sit W (FI.env ⟨qual, scope, L', f, cdv, []⟩) d (A.deeper (envX qual scope L' f cdv [])) A base g (env :: outer) :=
    ⟨B', S.kin.keeps st, S.top.keeps st, by show Option.map _ A.frames = _; rw [S.frs]; rfl, S.hnd, by have := S.dep; show A.depth + 1 + d < _; omega, by have := S.uni; show A.units + 3 + 10 * d + 200 < _; omega⟩
  refine wpAny_mono (h L' (A.deeper (envX qual scope L' f cdv [])) A base g (env :: outer) { s with heap := h₁, toks := s.toks + binds.length } _ S' ⟨F', N', od⟩ fun fl l' n' h' tk D' x => ?_) (fun fl s' y => y) (fun _ _ y => y.elim)
  refine ⟨L', _, n', D'.fr, D'.nw, fun FB NB => ?_⟩
  have z := kR _ _ h' tk FB NB D'.od x
  cases fl <;> exact z

/-- calls: the function's value, then its arguments -/
theorem r_call {func e : Expr} {rest : List Expr} {pos : Pos} {k : Value → Bs → Ld → Prop}
    (h : Rn W F d l n (eval func) fun f l1 n1 => keepIn W.K f = true ∧ Rn W F d l1 n1 (args pos (e :: rest)) fun vs l2 n2 => Rn W F d l2 n2 (fun _ => call f vs) k)
    (hc : eval (.Call func (e :: rest) [] pos) F.env = (do let f ← eval func F.env; callWith pos f [] (backTo pos (starEach (e :: rest) F.env)) (backToKw pos (keywordEach [] F.env))) := by rfl)
    (he : starEach (e :: rest) F.env = (false, eval e F.env) :: starEach rest F.env := by rfl) (hp : ((backTo pos (starEach rest F.env)).any fun x => x.1) = false := by rfl) : Rn W F d l n (eval (.Call func (e :: rest) [] pos)) k :=
  fun A A₀ base h₀ outer s Q S D kQ => Call_ (h A A₀ base h₀ outer s _ S D fun f l1 n1 h1 tk1 D1 x1 => callWith_K S.kin x1.1 (x1.2.go S D1 fun vs l2 n2 h2 tk2 D2 x2 => ⟨S.kin.keeps D2.fr.keep, x2.go S D2 kQ⟩) he hp) hc
theorem r_callB {func e : Expr} {rest : List Expr} {pos : Pos} {id : String} {k : Value → Bs → Ld → Prop}
    (h : Rn W F d l n (eval func) fun f l1 n1 => f = .builtin id ∧ Rn W F d l1 n1 (args pos (e :: rest)) fun vs l2 n2 => Rn W F d l2 n2 (fun _ => call (.builtin id) vs) k)
    (hc : eval (.Call func (e :: rest) [] pos) F.env = (do let f ← eval func F.env; callWith pos f [] (backTo pos (starEach (e :: rest) F.env)) (backToKw pos (keywordEach [] F.env))) := by rfl)
    (he : starEach (e :: rest) F.env = (false, eval e F.env) :: starEach rest F.env := by rfl) (hp : ((backTo pos (starEach rest F.env)).any fun x => x.1) = false := by rfl) : Rn W F d l n (eval (.Call func (e :: rest) [] pos)) k :=
  fun A A₀ base h₀ outer s Q S D kQ => Call_ (h A A₀ base h₀ outer s _ S D fun f l1 n1 h1 tk1 D1 x1 => by
    obtain ⟨rfl, x1⟩ := x1
    exact PyProof.Rows.callWith_builtin1 (x1.go S D1 fun vs l2 n2 h2 tk2 D2 x2 => x2.go S D2 kQ) he hp) hc
theorem r_callT {func e : Expr} {rest : List Expr} {pos : Pos} {T : String} {k : Value → Bs → Ld → Prop}
    (h : Rn W F d l n (eval func) fun f l1 n1 => f = .type T ∧ Rn W F d l1 n1 (args pos (e :: rest)) fun vs l2 n2 => Rn W F d l2 n2 (fun _ => call (.type T) vs) k)
    (hc : eval (.Call func (e :: rest) [] pos) F.env = (do let f ← eval func F.env; callWith pos f [] (backTo pos (starEach (e :: rest) F.env)) (backToKw pos (keywordEach [] F.env))) := by rfl)
    (he : starEach (e :: rest) F.env = (false, eval e F.env) :: starEach rest F.env := by rfl) (hp : ((backTo pos (starEach rest F.env)).any fun x => x.1) = false := by rfl) : Rn W F d l n (eval (.Call func (e :: rest) [] pos)) k :=
  fun A A₀ base h₀ outer s Q S D kQ => Call_ (h A A₀ base h₀ outer s _ S D fun f l1 n1 h1 tk1 D1 x1 => by
    obtain ⟨rfl, x1⟩ := x1
    exact PyProof.Rows.callWith_type1 (x1.go S D1 fun vs l2 n2 h2 tk2 D2 x2 => x2.go S D2 kQ) he hp) hc
/-- a method's call -/
theorem r_meth {o : Expr} {name : Str} {apos pos : Pos} {as : List Expr} {pl : Sem Bool} {k : Value → Bs → Ld → Prop}
    (h : Rn W F d l n (eval o) fun ov l1 n1 => Rn W F d l1 n1 (fun _ => getMethod ov name pl) fun fx l2 n2 => Rn W F d l2 n2 (fun env => callWith pos fx.1 fx.2 (backTo pos (starEach as env)) []) k)
    (hc : eval (.Call (.Attribute o name apos) as [] pos) F.env = (do
          let ov ← eval o F.env
          standAt apos.atName
          let __x ← holding [ov] (getMethod ov name pl)
          match __x with
            | (f, first) => callWith pos f first (backTo pos (starEach as F.env)) []) := by rfl) : Rn W F d l n (eval (.Call (.Attribute o name apos) as [] pos)) k :=
  fun A A₀ base h₀ outer s Q S D kQ => MethodCall_ (h A A₀ base h₀ outer s _ S D fun ov l1 n1 h1 tk1 D1 x1 => x1.go S D1 fun fx l2 n2 h2 tk2 D2 x2 => x2.go S D2 kQ) hc
theorem m_def {f : Value} {first : List Value} {e : Expr} {rest : List Expr} {pos : Pos} {k : Value → Bs → Ld → Prop} (hk : keepIn W.K f = true)
    (h : Rn W F d l n (args pos (e :: rest)) fun vs l2 n2 => Rn W F d l2 n2 (fun _ => call f (first ++ vs)) k)
    (he : starEach (e :: rest) F.env = (false, eval e F.env) :: starEach rest F.env := by rfl) (hp : ((backTo pos (starEach rest F.env)).any fun x => x.1) = false := by rfl) :
    Rn W F d l n (fun env => callWith pos f first (backTo pos (starEach (e :: rest) env)) []) k :=
  fun A A₀ base h₀ outer s Q S D kQ => callWith_K S.kin hk (h A A₀ base h₀ outer s _ S D fun vs l2 n2 h2 tk2 D2 x2 => ⟨S.kin.keeps D2.fr.keep, x2.go S D2 kQ⟩) he hp
theorem m_built {id : String} {first : List Value} {e : Expr} {rest : List Expr} {pos : Pos} {k : Value → Bs → Ld → Prop}
    (h : Rn W F d l n (args pos (e :: rest)) fun vs l2 n2 => Rn W F d l2 n2 (fun _ => call (.builtin id) (first ++ vs)) k)
    (he : starEach (e :: rest) F.env = (false, eval e F.env) :: starEach rest F.env := by rfl) (hp : ((backTo pos (starEach rest F.env)).any fun x => x.1) = false := by rfl) :
    Rn W F d l n (fun env => callWith pos (.builtin id) first (backTo pos (starEach (e :: rest) env)) []) k :=
  fun A A₀ base h₀ outer s Q S D kQ => callWith_method1 (h A A₀ base h₀ outer s _ S D fun vs l2 n2 h2 tk2 D2 x2 => x2.go S D2 kQ) he hp
theorem g_list {a : Addr} {vs : List Value} {m : Nat} {name : Str} {id : String} {pl : Sem Bool} {k : Value × List Value → Bs → Ld → Prop} (hm : (a, listOf vs.toArray m) ∈ n) (hs : Slot "list" name id) (ht : typeOf (.builtin id) = pure (.type "method_descriptor"))
    (h : k (.builtin id, [.ref a]) l n) : Rn W F d l n (fun _ => getMethod (.ref a) name pl) k :=
  fun _ _ _ _ _ s _ _ D kQ => listMethod_K D.nw hm hs ht (kQ _ _ _ s.heap s.toks D h)
theorem o_append {a : Addr} {vs : List Value} {m : Nat} {x : Value} {n' : Ld} {k : Value → Bs → Ld → Prop} (hc : Chg a (listOf vs.toArray m) (listOf (vs ++ [x]).toArray (m + 1)) n n') (hz : vs.length ≤ sizeLine) (h : k .none l n') :
    Rn W F d l n (fun _ => call (.builtin "list.append") [.ref a, x]) k :=
  fun _ _ _ _ _ s _ _ D kQ => append_K (its := vs.toArray) D.fr D.nw (by have := hc.upd D.od; simpa using this) (fun h' F' N' => kQ _ _ _ h' _ ⟨F', N', by rw [hc.keys]; exact D.od⟩ h) (by simpa using hz)
end

/-- a list or a tuple of the ledger -/
inductive Sq (a : Addr) (vs : List Value) : Ld → Prop
  | list {n : Ld} {m : Nat} : (a, listOf vs.toArray m) ∈ n → Sq a vs n
  | tup {n : Ld} {m : Nat} : (a, Mine.tup vs m) ∈ n → Sq a vs n

theorem passes_no {M : Model} {A : Around} {env : Env} : PassesOwn M A env no := fun _ _ h => h.elim

def turnEnd (k : Flow → Bs → Ld → Prop) (I : Addr) (it : Obj) (ks : List Addr) (J : Bs → Ld → Ld → Prop) : Flow → Bs → Ld → Prop
  | .ret v, l, n => k (.ret v) l n
  | .brk, l, n => k .next l n
  | _, l, n => ∃ tl n0, n = tl ++ (I, it) :: n0 ∧ n0.map (·.1) = ks ∧ J l tl n0

section
variable {W : Wd} {F : FI} {d : Nat} {l : Bs} {n : Ld}

/-- what a loop's iterator promises, abstractly: the walk of the kit, its one own object I above the ledger -/
theorem loop_at {prog : Program} {w : World} {A : Around} {h₀ : Heap} {env : Env} {x : Str} {body : List Stmt} {Q : Flow → Shared → Prop} {s₂ : Shared} {I : Addr} {fp : List Addr} {N : Nat} {P : Nat → Value → Prop} {St : Nat → Heap → Prop} {l : Bs} {n : Ld}
    (J : Nat → Bs → Ld → Ld → Prop) (src : Ld → Prop)
    (Wk : Walks prog w A I fp [I] N P St) (hfp : ∀ b ∈ fp, b = I ∨ ∃ o, ∀ n' : Ld, src n' → (b, o) ∈ n')
    (hIL : I ≠ env.locals) (hI0 : h₀.get? I = none) (hob : ∀ i h, St i h → ∃ o, h.get? I = some o) (hst : St 0 s₂.heap)
    (F : Fr h₀ env.locals s₂.heap (fun y => l.lookup y)) (N₀ : News h₀ env.locals s₂.heap n) (od : (n.map (·.1)).Pairwise (· > ·)) (lt : ∀ p ∈ n, p.1 < I) (hsrc : src n) (hj : J 0 l [] n)
    (turn : ∀ i v lt tl n0 it h tk, i < N → P i v → J i lt tl n0 → src n0 → n0.map (·.1) = n.map (·.1) → Fr h₀ env.locals h (fun y => (sto x v lt).lookup y) → News h₀ env.locals h (tl ++ (I, it) :: n0) → ((tl ++ (I, it) :: n0).map (·.1)).Pairwise (· > ·) →
      wpAny (model prog w) A (execs body env) (fun f s₃ => match f with
        | .ret v => Q (.ret v) s₃
        | .brk => Q .next s₃
        | _ => ∃ l' tl' n0' h' tk', s₃ = { s₂ with heap := h', toks := tk' } ∧ Fr h₀ env.locals h' (fun y => l'.lookup y) ∧ News h₀ env.locals h' (tl' ++ (I, it) :: n0') ∧ ((tl' ++ (I, it) :: n0').map (·.1)).Pairwise (· > ·) ∧ n0'.map (·.1) = n.map (·.1) ∧ src n0' ∧ J (i + 1) l' tl' n0') no { s₂ with heap := h, toks := tk })
    (done : ∀ lt tl n0 h tk, J N lt tl n0 → src n0 → n0.map (·.1) = n.map (·.1) → Fr h₀ env.locals h (fun y => lt.lookup y) → News h₀ env.locals h (tl ++ n0) → ((tl ++ n0).map (·.1)).Pairwise (· > ·) → Q .next { s₂ with heap := h, toks := tk }) :
    LoopAtV prog w A h₀ env x body Q no (.ref I) s₂ := by
  have offI : ∀ (tl n0 : Ld), ((tl ++ n0).map (·.1)).Pairwise (· > ·) → (∀ p ∈ tl, p.1 > I) → n0.map (·.1) = n.map (·.1) → ∀ p ∈ tl ++ n0, p.1 ∉ [I] := by
    intro tl n0 _ h1 h2 p hp hI
    have e : p.1 = I := List.mem_singleton.mp hI
    rcases List.mem_append.mp hp with hp | hp
    · exact Nat.lt_irrefl I (by have := h1 p hp; rw [e] at this; exact this)
    · have : p.1 ∈ n.map (·.1) := h2 ▸ List.mem_map_of_mem hp
      obtain ⟨q, hq, eq⟩ := List.mem_map.mp this
      exact Nat.lt_irrefl I (by have := lt q hq; rw [eq, e] at this; exact this)
  refine ⟨I, fp, [I], N, P, St, _, n, fun i m nx => ∃ lt tl n0, m = (fun y => lt.lookup y) ∧ nx = tl ++ n0 ∧ (∀ p ∈ tl, p.1 > I) ∧ ((tl ++ n0).map (·.1)).Pairwise (· > ·) ∧ n0.map (·.1) = n.map (·.1) ∧ src n0 ∧ J i lt tl n0, rfl, Wk, ?_, ?_, ?_, hst, F, N₀,
    ⟨l, [], n, rfl, rfl, fun _ hp => (nomatch hp), od, rfl, hsrc, hj⟩, ?_, ?_⟩
  · intro hL
    rcases hfp _ hL with e | ⟨o, ho⟩
    · exact hIL e.symm
    · exact (N₀ _ (ho n hsrc)).2.1 rfl
  · intro b hb
    rw [List.mem_singleton.mp hb]; exact hI0
  · intro p hp hI
    exact Nat.lt_irrefl I (by have := lt p hp; rw [List.mem_singleton.mp hI] at this; exact this)
  · rintro i v m₁ news₁ s₁ own ⟨hh', tk', rfl⟩ hin hP ⟨lt', tl, n0, rfl, rfl, habove, hod, hk, hsr, hJ⟩ hoff hown hget hfp' hst' F₁ N₁
    obtain ⟨oI, hoI⟩ := hob _ _ hst'
    have hIfp : I ∈ fp := Wk.sub I (.head _)
    have hIown : (I, oI) ∈ own := hfp' I hIfp hI0 oI hoI
    have Nm : News h₀ env.locals hh' (tl ++ (I, oI) :: n0) := by
      intro p hp
      rcases List.mem_append.mp hp with hp | hp
      · exact N₁ p (List.mem_append.mpr (.inr (List.mem_append.mpr (.inl hp))))
      · rcases List.mem_cons.mp hp with rfl | hp
        · exact N₁ _ (List.mem_append.mpr (.inl hIown))
        · exact N₁ p (List.mem_append.mpr (.inr (List.mem_append.mpr (.inr hp))))
    have odI : ((tl ++ (I, oI) :: n0).map (·.1)).Pairwise (· > ·) := by
      rw [List.map_append] at hod ⊢
      rw [List.pairwise_append] at hod ⊢
      refine ⟨hod.1, ?_, fun a ha b hb => ?_⟩
      · rw [List.map_cons]
        refine List.Pairwise.cons (fun b hb => ?_) hod.2.1
        rw [hk] at hb
        obtain ⟨q, hq, rfl⟩ := List.mem_map.mp hb
        exact lt q hq
      · rw [List.map_cons] at hb
        rcases List.mem_cons.mp hb with rfl | hb
        · obtain ⟨q, hq, rfl⟩ := List.mem_map.mp ha
          exact habove q hq
        · exact hod.2.2 a ha b hb
    have Fm : Fr h₀ env.locals hh' (fun y => (sto x v lt').lookup y) := by
      rw [show (fun y => (sto x v lt').lookup y) = fun y => if y = x then some v else lt'.lookup y from funext (sto_lookup x v lt')]
      exact F₁
    refine wpAny_mono (turn i v lt' tl n0 oI hh' tk' hin hP hJ hsr hk Fm Nm odI) (fun f s₃ p => ?_) fun _ _ e => e
    have fin : (∃ l' tl' n0' h' tk', s₃ = { s₂ with heap := h', toks := tk' } ∧ Fr h₀ env.locals h' (fun y => l'.lookup y) ∧ News h₀ env.locals h' (tl' ++ (I, oI) :: n0') ∧ ((tl' ++ (I, oI) :: n0').map (·.1)).Pairwise (· > ·) ∧ n0'.map (·.1) = n.map (·.1) ∧ src n0' ∧ J (i + 1) l' tl' n0') →
        LoopStepU h₀ env.locals [I] own (fun m nx => ∃ lt tl n0, m = (fun y => lt.lookup y) ∧ nx = tl ++ n0 ∧ (∀ p ∈ tl, p.1 > I) ∧ ((tl ++ n0).map (·.1)).Pairwise (· > ·) ∧ n0.map (·.1) = n.map (·.1) ∧ src n0 ∧ J (i + 1) lt tl n0) { s₂ with heap := hh', toks := tk' } .next s₃ := by
      rintro ⟨l', tl', n0', h', tk'', rfl, F', N', od', hk', hsr', hJ'⟩
      have od2 : (∀ p ∈ tl', p.1 > I) ∧ ((tl' ++ n0').map (·.1)).Pairwise (· > ·) := by
        rw [List.map_append, List.pairwise_append] at od'
        refine ⟨fun p hp => od'.2.2 _ (List.mem_map_of_mem hp) _ (.head _), ?_⟩
        rw [List.map_append, List.pairwise_append]
        refine ⟨od'.1, (List.pairwise_cons.mp od'.2.1).2, fun a ha b hb => od'.2.2 a ha b (.tail _ hb)⟩
      refine ⟨rfl, h', tk'', _, tl' ++ n0', rfl, F', fun p hp => ?_, offI tl' n0' od2.2 od2.1 hk', l', tl', n0', rfl, rfl, od2.1, od2.2, hk', hsr', hJ'⟩
      rcases List.mem_append.mp hp with hp | hp
      · rcases hfp _ (hown p hp) with e | ⟨o, ho⟩
        · have : p = (I, oI) := by
            have h1 := hget p hp
            have h1' : hh'.get? p.1 = some p.2 := h1
            rw [e] at h1'
            rw [hoI] at h1'
            exact Prod.ext e (Option.some.inj h1').symm
          rw [this]
          exact N' _ (List.mem_append.mpr (.inr (.head _)))
        · have h2 := (Nm _ (List.mem_append.mpr (.inr (.tail _ (ho n0 hsr))))).1
          have h1 : hh'.get? p.1 = some p.2 := hget p hp
          rw [h1] at h2
          have : p = (p.1, o) := Prod.ext rfl (Option.some.inj h2)
          rw [this]
          exact N' _ (List.mem_append.mpr (.inr (.tail _ (ho n0' hsr'))))
      · rcases List.mem_append.mp hp with hp | hp
        · exact N' p (List.mem_append.mpr (.inl hp))
        · exact N' p (List.mem_append.mpr (.inr (.tail _ hp)))
    cases f with
    | ret v => exact .ret p
    | brk => exact .brk p
    | next => exact .next (fin p)
    | cont => exact .cont (fin p)
  · rintro h' tk m' news' F' N' _ ⟨lt', tl, n0, rfl, rfl, _, hod, hk, hsr, hJ⟩
    exact done lt' tl n0 h' tk hJ hsr hk F' N' hod

theorem seq_walk {prog : Program} {w : World} {A : Around} {E : Value → Shared → Prop} {s : Shared} {h₀ : Heap} {L a : Addr} {vs : List Value} {n : Ld} {m : Str → Option Value} {Q : Value → Shared → Prop} (hh : A.handled = none) (hs : Sq a vs n) (F : Fr h₀ L s.heap m) (N : News h₀ L s.heap n)
    (h : ∀ St o h', Walks prog w A s.heap.objs.size [s.heap.objs.size, a] [s.heap.objs.size] vs.length (fun i v => vs[i]? = some v) St → (∀ i h, St i h → ∃ o, h.get? s.heap.objs.size = some o) → (∀ n' : Ld, (a, o) ∈ n' → Sq a vs n') → (a, o) ∈ n → St 0 h' → Fr h₀ L h' m → News h₀ L h' n → Q (.ref s.heap.objs.size) { s with heap := h' }) :
    wpAny (model prog w) A (pyIter (.ref a)) Q E s := by
  cases hs with
  | @list c hm =>
    have ho := N.get hm
    have hl : s.heap.IsList a vs.toArray := ⟨_, ho, rfl, c, rfl⟩
    refine wpAny_pyIter_list hl ?_
    have Wk := Walks.list (prog := prog) (w := w) hh s.heap.objs.size a (Nat.ne_of_lt (Heap.lt_size ho)) vs.toArray
    refine h (fun i h => h.IsListIter s.heap.objs.size a i ∧ h.IsList a vs.toArray) _ _ (by simpa using Wk) (fun i h hst => ⟨_, hst.1.choose_spec.1⟩) (fun n' hn => .list hn) hm ⟨⟨_, Heap.get?_push_size _ rfl, rfl, rfl⟩, hl.at fun o e => Heap.get?_push_of_some _ e⟩ (F.push _) fun p hp => ⟨Heap.get?_push_of_some _ (N p hp).1, (N p hp).2⟩
  | @tup c hm =>
    have ho := N.get hm
    have hl : s.heap.IsTuple a vs.toArray := ⟨_, ho, rfl, c, rfl⟩
    refine wpAny_pyIter_tuple hl ?_
    have Wk := Walks.tuple (prog := prog) (w := w) hh s.heap.objs.size a (Nat.ne_of_lt (Heap.lt_size ho)) vs.toArray
    refine h (fun i h => h.IsTupleIter s.heap.objs.size a i ∧ h.IsTuple a vs.toArray) _ _ (by simpa using Wk) (fun i h hst => ⟨_, hst.1.choose_spec.1⟩) (fun n' hn => .tup hn) hm ⟨⟨_, Heap.get?_push_size _ rfl, rfl, rfl⟩, ⟨_, Heap.get?_push_of_some _ ho, rfl, c, rfl⟩⟩ (F.push _) fun p hp => ⟨Heap.get?_push_of_some _ (N p hp).1, (N p hp).2⟩

theorem next_free {h₀ h : Heap} {L : Addr} {m : Str → Option Value} (F : Fr h₀ L h m) : h₀.get? h.objs.size = none := by
  cases q : h₀.get? h.objs.size with
  | none => rfl
  | some o => exact absurd (Heap.lt_size (F.keep _ _ q)) (Nat.lt_irrefl _)

/-- for over a list or a tuple of the ledger -/
theorem r_for {x : Str} {px pos : Pos} {iter : Expr} {body : List Stmt} {k : Flow → Bs → Ld → Prop}
    (h : Rn W F d l n (eval iter) fun v l' n' => ∃ (a : Addr) (vs : List Value) (J : Nat → Bs → Ld → Ld → Prop), v = .ref a ∧ Sq a vs n' ∧ J 0 l' [] n' ∧
      (∀ i v lt tl n0 I it, vs[i]? = some v → J i lt tl n0 → Sq a vs n0 → n0.map (·.1) = n'.map (·.1) →
        Rn W F d (sto x v lt) (tl ++ (I, it) :: n0) (execs body) (turnEnd k I it (n'.map (·.1)) fun l2 tl2 n2 => (∀ o, (a, o) ∈ n0 → (a, o) ∈ n2) ∧ J (i + 1) l2 tl2 n2)) ∧
      (∀ lt tl n0, J vs.length lt tl n0 → k .next lt (tl ++ n0)))
    (hx : F.env.kindOf x = some .local := by rfl) (hk : F.scope.kind = .function := by rfl) (hs : ∀ v, foldedSetIterable iter F.env v = pure v := by intro _; rfl) : Rn W F d l n (exec (.For (.Name x px) iter body [] pos)) k := by
  intro A A₀ base h₀ outer s Q S D kQ
  refine For_invVF D.fr hx (by show (F.scope.kind == .class || (F.scope.kind == .module && F.env.locals != F.env.globals)) = false; rw [hk]; rfl) (h A A₀ base h₀ outer s _ S D fun v l' n' h' tk' D' x => ?_) hs passes_no
  obtain ⟨a, vs, J, rfl, hsq, hj, turn, done⟩ := x
  refine seq_walk S.hnd hsq D'.fr D'.nw (fun St o h'' Wk hob hof hmem hst F' N' => ?_)
  refine loop_at (l := l') (n := n') J (fun n0 => (a, o) ∈ n0) Wk (fun b hb => ?_) (Ne.symm (Nat.ne_of_lt D'.fr.ns.lt)) (next_free D'.fr) hob hst F' N' D'.od (fun p hp => Heap.lt_size (D'.nw p hp).1) hmem hj ?_ ?_
  · rcases List.mem_cons.mp hb with e | hb
    · exact .inl e
    · exact .inr ⟨o, fun n0 h => by rw [List.mem_singleton.mp hb]; exact h⟩
  · intro i v lt tl n0 it hh tk hi hP hJ hsr hkeys Fm Nm odm
    refine turn i v lt tl n0 h'.objs.size it hP hJ (hof _ hsr) hkeys A A₀ base h₀ outer _ _ S ⟨Fm, Nm, odm⟩ fun f l2 n2 h2 tk2 D2 x2 => ?_
    cases f with
    | ret v => exact kQ _ _ _ _ _ D2 x2
    | brk => exact kQ _ _ _ _ _ D2 x2
    | next =>
      obtain ⟨tl', n0', rfl, hk', hm', hJ'⟩ := x2
      exact ⟨l2, tl', n0', h2, tk2, rfl, D2.fr, D2.nw, D2.od, hk', hm' _ hsr, hJ'⟩
    | cont =>
      obtain ⟨tl', n0', rfl, hk', hm', hJ'⟩ := x2
      exact ⟨l2, tl', n0', h2, tk2, rfl, D2.fr, D2.nw, D2.od, hk', hm' _ hsr, hJ'⟩
  · intro lt tl n0 hh tk hJ _ _ Fm Nm odm
    exact kQ _ _ _ _ _ ⟨Fm, Nm, odm⟩ (done lt tl n0 hJ)
end

section
variable {W : Wd} {F : FI} {d : Nat} {l : Bs} {n : Ld}
/-- and, or: the value of the last one asked -/
theorem v_and {a b : Expr} {rest : List Expr} {pos : Pos} {k : Value → Bs → Ld → Prop}
    (h : Rn W F d l n (eval a) fun v l' n' => ∃ c, truth v = some c ∧ if c = true then Rn W F d l' n' (eval (.BoolOp .And (b :: rest) pos)) k else k v l' n') : Rn W F d l n (eval (.BoolOp .And (a :: b :: rest) pos)) k :=
  fun A A₀ base h₀ outer s Q S D kQ => BoolOp_and (h A A₀ base h₀ outer s _ S D fun v l' n' h tk D' x => by
    obtain ⟨c, e, x⟩ := x
    have fin : (if c = true then wpAny (model W.prog W.w) A (eval (.BoolOp .And (b :: rest) pos) F.env) Q no { s with heap := h, toks := tk } else Q v { s with heap := h, toks := tk }) := by
      cases c with
      | true => rw [if_pos rfl] at x ⊢; exact x.go S D' kQ
      | false => rw [if_neg Bool.false_ne_true] at x ⊢; exact kQ _ _ _ _ _ D' x
    cases v <;> simp only [truth, Option.some.injEq, reduceCtorEq] at e
    · subst e; exact wpAny_truthy_bool fin
    · subst e; exact truthy_int fin)
theorem v_or {a b : Expr} {rest : List Expr} {pos : Pos} {k : Value → Bs → Ld → Prop}
    (h : Rn W F d l n (eval a) fun v l' n' => ∃ c, truth v = some c ∧ if c = true then k v l' n' else Rn W F d l' n' (eval (.BoolOp .Or (b :: rest) pos)) k) : Rn W F d l n (eval (.BoolOp .Or (a :: b :: rest) pos)) k :=
  fun A A₀ base h₀ outer s Q S D kQ => BoolOp_or (h A A₀ base h₀ outer s _ S D fun v l' n' h tk D' x => by
    obtain ⟨c, e, x⟩ := x
    have fin : (if c = true then Q v { s with heap := h, toks := tk } else wpAny (model W.prog W.w) A (eval (.BoolOp .Or (b :: rest) pos) F.env) Q no { s with heap := h, toks := tk }) := by
      cases c with
      | true => rw [if_pos rfl] at x ⊢; exact kQ _ _ _ _ _ D' x
      | false => rw [if_neg Bool.false_ne_true] at x ⊢; exact x.go S D' kQ
    cases v <;> simp only [truth, Option.some.injEq, reduceCtorEq] at e
    · subst e; exact wpAny_truthy_bool fin
    · subst e; exact truthy_int fin)
theorem v_one {op : BoolOp} {a : Expr} {pos : Pos} {k : Value → Bs → Ld → Prop} (h : Rn W F d l n (eval a) k) : Rn W F d l n (eval (.BoolOp op [a] pos)) k :=
  fun A A₀ base h₀ outer s Q S D kQ => BoolOp_one (h A A₀ base h₀ outer s Q S D kQ)
def isN : Value → Bool
  | .none => true
  | _ => false
def nMay : Value → Bool
  | .none => true
  | .ref _ => true
  | .str .. => true
  | .int .. => true
  | _ => false
theorem o_is {v : Value} {k : Value → Bs → Ld → Prop} (hm : nMay v = true) (h : k (.bool (isN v)) l n) : Rn W F d l n (fun _ => compareOp .Is v .none) k :=
  fun _ _ _ _ _ s _ _ D kQ => by
    have z := kQ _ _ _ s.heap s.toks D h
    cases v with
    | none => exact is_none_none z
    | ref a => exact is_ref_none z
    | str x t => exact wpAny_is_other rfl (fun e => nomatch e) z
    | int x t => exact wpAny_is_other rfl (fun e => nomatch e) z
    | _ => exact nomatch hm
theorem o_isNot {v : Value} {k : Value → Bs → Ld → Prop} (hm : nMay v = true) (h : k (.bool (!isN v)) l n) : Rn W F d l n (fun _ => compareOp .IsNot v .none) k :=
  fun _ _ _ _ _ s _ _ D kQ => by
    have z := kQ _ _ _ s.heap s.toks D h
    cases v with
    | none => exact wpAny_isNot_self rfl z
    | ref a => exact wpAny_isNot_other rfl (fun e => nomatch e) z
    | str x t => exact wpAny_isNot_other rfl (fun e => nomatch e) z
    | int x t => exact wpAny_isNot_other rfl (fun e => nomatch e) z
    | _ => exact nomatch hm
theorem o_gtI {a b : Int} {t u : Tok} {k : Value → Bs → Ld → Prop} (h : k (.bool (decide (b < a))) l n) : Rn W F d l n (fun _ => compareOp .Gt (.int a t) (.int b u)) k :=
  fun _ _ _ _ _ s _ _ D kQ => gt_int (kQ _ _ _ s.heap s.toks D h)
theorem o_ltI {a b : Int} {t u : Tok} {k : Value → Bs → Ld → Prop} (h : k (.bool (decide (a < b))) l n) : Rn W F d l n (fun _ => compareOp .Lt (.int a t) (.int b u)) k :=
  fun _ _ _ _ _ s _ _ D kQ => lt_int (kQ _ _ _ s.heap s.toks D h)
theorem o_leI {a b : Int} {t u : Tok} {k : Value → Bs → Ld → Prop} (h : k (.bool (decide (a ≤ b))) l n) : Rn W F d l n (fun _ => compareOp .LtE (.int a t) (.int b u)) k :=
  fun _ _ _ _ _ s _ _ D kQ => le_int (kQ _ _ _ s.heap s.toks D h)
theorem o_geI {a b : Int} {t u : Tok} {k : Value → Bs → Ld → Prop} (h : k (.bool (decide (b ≤ a))) l n) : Rn W F d l n (fun _ => compareOp .GtE (.int a t) (.int b u)) k :=
  fun _ _ _ _ _ s _ _ D kQ => ge_int (kQ _ _ _ s.heap s.toks D h)
theorem o_addI {a b : Int} {t u : Tok} {k : Value → Bs → Ld → Prop} (h : ∀ t, k (.int (a + b) t) l n) : Rn W F d l n (fun _ => binaryOp .Add (.int a t) (.int b u)) k :=
  fun _ _ _ _ _ s _ _ D kQ => add_int (kQ _ _ _ s.heap _ D (h _))
theorem o_modI {a b : Int} {t u : Tok} {k : Value → Bs → Ld → Prop} (hb : b ≠ 0) (h : ∀ t, k (.int (a.fmod b) t) l n) : Rn W F d l n (fun _ => binaryOp .Mod (.int a t) (.int b u)) k :=
  fun _ _ _ _ _ s _ _ D kQ => mod_int' hb (kQ _ _ _ s.heap _ D (h _))
theorem o_divI {a b : Int} {t u : Tok} {k : Value → Bs → Ld → Prop} (hb : b ≠ 0) (hp : Builtin.divisionGoesByPylong a b = false) (h : ∀ t, k (.int (a.fdiv b) t) l n) : Rn W F d l n (fun _ => binaryOp .FloorDiv (.int a t) (.int b u)) k :=
  fun _ _ _ _ _ s _ _ D kQ => floordiv_int hb (kQ _ _ _ s.heap _ D (h _)) (.inl hp)
theorem o_addS {x y : Str} {t u : Tok} {k : Value → Bs → Ld → Prop} (hz : x.length + y.length ≤ sizeLine) (h : ∀ t, k (.str (x ++ y) t) l n) : Rn W F d l n (fun _ => binaryOp .Add (.str x t) (.str y u)) k :=
  fun _ _ _ _ _ s _ _ D kQ => add_str (fun t' tk => kQ _ _ _ s.heap tk D (h t')) hz
theorem o_addT {a b : Addr} {vs us : List Value} {i j : Nat} {k : Value → Bs → Ld → Prop} (ha : (a, tup vs i) ∈ n) (hb : (b, tup us j) ∈ n) (h1 : vs ≠ []) (h2 : us ≠ []) (hz : vs.length + us.length ≤ 16384) (h : ∀ D, k (.ref D) l ((D, tup (vs ++ us) 0) :: n)) :
    Rn W F d l n (fun _ => binaryOp .Add (.ref a) (.ref b)) k :=
  fun _ _ _ _ _ s _ _ D kQ => kde_addT (its := vs.toArray) (its2 := us.toArray) (zs := vs ++ us) D.fr D.nw (D.nw.isTup ha) (D.nw.isTup hb) (by simpa using h1) (by simpa using h2) (by simpa using hz) (by simp) fun D' h' F' N' lt => kQ _ _ _ h' _ (Led.cons F' N' D.od lt) (h D')
theorem o_addL {a b : Addr} {vs us : List Value} {i j : Nat} {k : Value → Bs → Ld → Prop} (ha : (a, listOf vs.toArray i) ∈ n) (hb : (b, listOf us.toArray j) ∈ n) (hz : vs.length + us.length ≤ sizeLine) (h : ∀ D, k (.ref D) l ((D, listOf (vs ++ us).toArray 0) :: n)) :
    Rn W F d l n (fun _ => binaryOp .Add (.ref a) (.ref b)) k :=
  fun _ _ _ _ _ s _ _ D kQ => kmk_add_lit (its := vs.toArray) (its2 := us.toArray) (zs := vs ++ us) D.fr D.nw ⟨_, D.nw.get ha, rfl, i, rfl⟩ ⟨_, D.nw.get hb, rfl, j, rfl⟩ (by simp) (fun D' h' F' N' lt => kQ _ _ _ h' _ (Led.cons F' N' D.od lt) (h D')) (by simpa using hz)
theorem o_neg {a : Int} {t : Tok} {k : Value → Bs → Ld → Prop} (h : ∀ t, k (.int (-a) t) l n) : Rn W F d l n (fun _ => unaryOp .USub (.int a t)) k :=
  fun _ _ _ _ _ s _ _ D kQ => PyProof.Rows.neg_int (kQ _ _ _ s.heap _ D (h _))
theorem r_unary {op : UnaryOp} {x : Expr} {pos : Pos} {k : Value → Bs → Ld → Prop} (h : Rn W F d l n (eval x) fun v l' n' => Rn W F d l' n' (fun _ => unaryOp op v) k) : Rn W F d l n (eval (.UnaryOp op x pos)) k :=
  fun A A₀ base h₀ outer s Q S D kQ => UnaryOp_ (h A A₀ base h₀ outer s _ S D fun v l' n' h tk D' x => x.go S D' kQ)
theorem o_lenL {a : Addr} {vs : List Value} {i : Nat} {k : Value → Bs → Ld → Prop} (ha : (a, listOf vs.toArray i) ∈ n) (hz : (vs.length : Int) < 2 ^ 63) (h : ∀ t, k (.int vs.length t) l n) : Rn W F d l n (fun _ => call (.builtin "len") [.ref a]) k :=
  fun _ _ _ _ _ s _ _ D kQ => PyProof.Rows.len_list (items := vs.toArray) ⟨_, D.nw.get ha, rfl, i, rfl⟩ (by simpa using hz) (kQ _ _ _ s.heap _ D (by simpa using h _))
theorem o_lenT {a : Addr} {vs : List Value} {i : Nat} {k : Value → Bs → Ld → Prop} (ha : (a, tup vs i) ∈ n) (hz : (vs.length : Int) < 2 ^ 63) (h : ∀ t, k (.int vs.length t) l n) : Rn W F d l n (fun _ => call (.builtin "len") [.ref a]) k :=
  fun _ _ _ _ _ s _ _ D kQ => PyProof.Rows.len_tuple (items := vs.toArray) (D.nw.isTup ha) (by simpa using hz) (kQ _ _ _ s.heap _ D (by simpa using h _))
theorem o_lenS {x : Str} {u : Tok} {k : Value → Bs → Ld → Prop} (hz : (x.length : Int) < 2 ^ 63) (h : ∀ t, k (.int x.length t) l n) : Rn W F d l n (fun _ => call (.builtin "len") [.str x u]) k :=
  fun _ _ _ _ _ s _ _ D kQ => PyProof.Rows.len_str (by omega) (kQ _ _ _ s.heap _ D (h _))
theorem o_listT {a : Addr} {vs : List Value} {i : Nat} {k : Value → Bs → Ld → Prop} (ha : (a, tup vs i) ∈ n) (hz : vs.length ≤ sizeLine) (h : ∀ D c, k (.ref D) l ((D, listOf vs.toArray c) :: n)) : Rn W F d l n (fun _ => call (.type "list") [.ref a]) k :=
  fun _ _ _ _ _ s _ _ D kQ => kup_listOfT (its2 := vs.toArray) (zs := vs) D.fr D.nw ha (by simp) (fun D' c h' F' N' lt => kQ _ _ _ h' _ (Led.cons F' N' D.od lt) (h D' c)) (by simpa using hz)
theorem o_tupleL {a : Addr} {vs : List Value} {i : Nat} {k : Value → Bs → Ld → Prop} (ha : (a, listOf vs.toArray i) ∈ n) (hz : vs.length ≤ 16384) (h : ∀ D, k (.ref D) l ((D, tup vs 0) :: n)) : Rn W F d l n (fun _ => call (.type "tuple") [.ref a]) k :=
  fun _ _ _ _ _ s _ _ D kQ => kde_tupleOf (items := vs.toArray) (zs := vs) D.fr D.nw ⟨_, D.nw.get ha, rfl, i, rfl⟩ (by simpa using hz) (by simp) fun D' h' F' N' lt => kQ _ _ _ h' _ (Led.cons F' N' D.od lt) (h D')
/-- x[i] = v -/
theorem r_setitem {o i value : Expr} {ps pos : Pos} {k : Flow → Bs → Ld → Prop}
    (h : Rn W F d l n (eval value) fun v l1 n1 => Rn W F d l1 n1 (eval o) fun ov l2 n2 => Rn W F d l2 n2 (eval i) fun iv l3 n3 => Rn W F d l3 n3 (fun _ => setItem ov iv v) fun _ => k .next)
    (hs : swapsWith value (some (.Subscript o i ps)) pos.line F.env = pure false := by rfl) : Rn W F d l n (exec (.Assign [.Subscript o i ps] value pos)) k :=
  fun A A₀ base h₀ outer s Q S D kQ => wpAny_Assign_Subscript (h A A₀ base h₀ outer s _ S D fun v l1 n1 h1 tk1 D1 x1 => x1.go S D1 fun ov l2 n2 h2 tk2 D2 x2 => x2.go S D2 fun iv l3 n3 h3 tk3 D3 x3 => x3.go S D3 fun u l4 n4 h4 tk4 D4 x4 => kQ _ _ _ _ _ D4 x4) hs
theorem o_setLast {a : Addr} {vs : List Value} {u v : Value} {i : Nat} {t : Tok} {n' : Ld} {k : Unit → Bs → Ld → Prop} (hc : Chg a (listOf (vs ++ [u]).toArray i) (listOf (vs ++ [v]).toArray i) n n') (h : k () l n') : Rn W F d l n (fun _ => setItem (.ref a) (.int (-1) t) v) k :=
  fun _ _ _ _ _ s _ _ D kQ => by
    obtain ⟨pre, post, rfl, rfl, h1, h2⟩ := (hc.upd D.od).split
    have z := D.nw (a, listOf (vs ++ [u]).toArray i) (List.mem_append.mpr (.inr (.head _)))
    have od : ((pre ++ (a, listOf (vs ++ [v]).toArray i) :: post).map (·.1)).Pairwise (· > ·) := by rw [hc.keys]; exact D.od
    refine ki_setBack z.1 (by omega) (by simp; omega) (by omega) (kQ _ _ _ _ _ ⟨D.fr.change (Heap.SameBut.update ..) z.2.1 z.2.2, ki_turn _ D.nw h1 h2 ?_ ?_, od⟩ h)
    · have e : (-1 + ((vs ++ [u]).toArray.size : Int)).toNat = vs.length := by simp; omega
      show (vs ++ [u]).toArray.setIfInBounds (-1 + ((vs ++ [u]).toArray.size : Int)).toNat v = _
      rw [e]
      apply Array.toList_inj.mp
      simp
    · simp
/-- attributes -/
theorem r_attr {value : Expr} {attr : Str} {pos : Pos} {k : Value → Bs → Ld → Prop} (h : Rn W F d l n (eval value) fun o l1 n1 => Rn W F d l1 n1 (fun _ => getAttr o attr true) k)
    (hc : eval (.Attribute value attr pos) F.env = (do
          let o ← eval value F.env
          standAt pos.atName
          let r ← holding [o] (getAttr o attr true)
          letTemporaryGo value o r
          pure r) := by rfl) : Rn W F d l n (eval (.Attribute value attr pos)) k :=
  fun A A₀ base h₀ outer s Q S D kQ => Attribute_any_ (h A A₀ base h₀ outer s _ S D fun v l' n' h tk D' x => x.go S D' kQ) hc
/-- an object in the ledger: its object, its dict -/
structure Ins (x C dx : Addr) (es : List DictEntry) (m : Nat) (n : Ld) : Prop where
  ob : (x, instObj C dx) ∈ n
  di : (dx, dictOf es m) ∈ n
theorem Ins.at {x C dx : Addr} {es : List DictEntry} {m : Nat} {h₀ h : Heap} {L : Addr} (i : Ins x C dx es m n) (N : News h₀ L h n) : PySem.W.InstAt h x (instObj C dx) C (some (dictOf es m)) := ⟨N.get i.ob, rfl, rfl, N.get i.di⟩
theorem o_attr {x C dx : Addr} {es : List DictEntry} {m : Nat} {name : Str} {v : Value} {attr : Option Value} {ex : Bool} {k : Value → Bs → Ld → Prop} (i : Ins x C dx es m n) (hg : plainGet W.K C name = true) (hh : hasDictIn W.K C = true) (ha : findIn W.K (.ref C) name = some attr) (hn : noGet W.K attr = true)
    (hl : getL name es = some (some v)) (hv : handedIn v = true) (h : k v l n) : Rn W F d l n (fun _ => getAttr (.ref x) name ex) k :=
  fun _ _ _ _ _ s _ S D kQ => get_own D.fr S.kin (i.at D.nw) hg hh ha hn hl hv (kQ _ _ _ s.heap _ D h)
theorem g_inst {x C dx f : Addr} {es : List DictEntry} {m : Nat} {name : Str} {pl : Sem Bool} {k : Value × List Value → Bs → Ld → Prop} (i : Ins x C dx es m n) (hg : plainGet W.K C name = true) (hf : findIn W.K (.ref C) name = some (some (.ref f))) (ht : isFn W.K (.ref f) = true)
    (hl : getL name es = some none) (h : k (.ref f, [.ref x]) l n) : Rn W F d l n (fun _ => getMethod (.ref x) name pl) k :=
  fun _ _ _ _ _ s _ S D kQ => method_inst D.fr S.kin (i.at D.nw) hg hf ht hl (kQ _ _ _ s.heap s.toks D h)
theorem r_setattr {o value : Expr} {attr : Str} {ps pos : Pos} {k : Flow → Bs → Ld → Prop}
    (h : Rn W F d l n (eval value) fun v l1 n1 => Rn W F d l1 n1 (eval o) fun ov l2 n2 => Rn W F d l2 n2 (fun _ => setAttr ov attr v) fun _ => k .next)
    (hs : swapsWith value (some (.Attribute o attr ps)) pos.line F.env = pure false := by rfl) : Rn W F d l n (exec (.Assign [.Attribute o attr ps] value pos)) k :=
  fun A A₀ base h₀ outer s Q S D kQ => plainObj_wpAny_Assign_Attribute (h A A₀ base h₀ outer s _ S D fun v l1 n1 h1 tk1 D1 x1 => x1.go S D1 fun ov l2 n2 h2 tk2 D2 x2 => x2.go S D2 fun iv l3 n3 h3 tk3 D3 x3 => kQ _ _ _ _ _ D3 x3) hs
theorem o_setattr {x C dx : Addr} {es : List DictEntry} {m : Nat} {name : Str} {v : Value} {n' : Tok → Ld} {k : Unit → Bs → Ld → Prop} (i : Ins x C dx es m n)
    (hf : findIn W.K (.ref C) "__setattr__" = some (some (.builtin "object.__setattr__"))) (hp : plainOver W.K C = true) (ht : takerIn W.K C name = some none) (hh : hasDictIn W.K C = true) (hl : (getL name es).isSome = true)
    (hz : es.length < 1000) (hc : ∀ t, Chg dx (dictOf es m) (dictOf (putL name (PyData.keyHash W.w.params name) (.str name t) v es) (putN name es m)) n (n' t)) (h : ∀ t, k () l (n' t)) : Rn W F d l n (fun _ => setAttr (.ref x) name v) k :=
  fun _ _ _ _ _ s _ S D kQ => by
    have c := hc (s.toks + 1)
    refine set_dict D.fr S.kin D.nw (i.at D.nw) rfl hf hp ht hh hl rfl (c.upd D.od) ?_ fun h' F' N' => kQ _ _ _ h' _ ⟨F', N', by rw [c.keys]; exact D.od⟩ (h _)
    have : ∀ es : List DictEntry, (putL name (PyData.keyHash W.w.params name) (.str name (s.toks + 1)) v es).length ≤ es.length + 1 := by
      intro es
      induction es with
      | nil => exact Nat.le_refl _
      | cons e r ih =>
        unfold putL
        split
        · exact Nat.le_succ _
        · rw [List.length_cons, List.length_cons]; omega
    have := this es
    omega
end

/-! Fw2 -/
theorem Ins.mono {x C dx : Addr} {es : List DictEntry} {m : Nat} {n n' : Ld} (h : ∀ q ∈ n, q ∈ n') (i : Ins x C dx es m n) : Ins x C dx es m n' := ⟨h _ i.ob, h _ i.di⟩
theorem lk0 {x : Str} {v : Value} {l : Bs} : (sto x v l).lookup x = some v := by rw [sto_lookup, if_pos rfl]
theorem lkS {x y : Str} {v u : Value} {l : Bs} (h : l.lookup y = some u) (hn : decide (y = x) = false := by rfl) : (sto x v l).lookup y = some u := by
  rw [sto_lookup, if_neg (of_decide_eq_false hn)]; exact h
theorem len3 {a b c : Value} : [a, b, c].length ≤ sizeLine := by show 3 ≤ _; decide
theorem len2 {a b : Value} : [a, b].length ≤ sizeLine := by show 2 ≤ _; decide
theorem len1 {a : Value} : [a].length ≤ sizeLine := by show 1 ≤ _; decide
section
variable {W : Wd} {F : FI} {d : Nat} {l : Bs} {n : Ld}
theorem r_listF {es : List Expr} {pos : Pos} {k : Value → Bs → Ld → Prop} (h : Rn W F d l n (args pos es) fun vs l1 n1 => vs.length ≤ sizeLine ∧ ∀ D, (∀ p ∈ n1, p.1 < D) → k (.ref D) l1 ((D, listOf vs.toArray 0) :: n1)) : Rn W F d l n (eval (.List es pos)) k :=
  fun A A₀ base h₀ outer s Q S D kQ => List_ (h A A₀ base h₀ outer s _ S D fun vs l1 n1 h1 tk1 D1 x1 => newList_K D1.fr D1.nw (fun D' h' F' N' lt => kQ _ _ _ _ _ (Led.cons F' N' D1.od lt) (x1.2 D' lt)) x1.1)
/-- dicts keyed by tuples of ints -/
abbrev TT2 (W : Wd) (n : Ld) (g : Addr) (D : List (PyData × PyData)) : Prop := TupTab (intKind W.prog W.w) PyData.int n g D
abbrev kT (ks : List Int) : PyData := encTuple PyData.int ks
theorem g_dget {g : Addr} {D : List (PyData × PyData)} {pl : Sem Bool} {k : Value × List Value → Bs → Ld → Prop} (T : TT2 W n g D) (h : k (.builtin "dict.get", [.ref g]) l n) : Rn W F d l n (fun _ => getMethod (.ref g) "get" pl) k :=
  fun _ _ _ _ _ s _ _ D kQ => getMethod_tupTab_get D.nw T (kQ _ _ _ s.heap s.toks D h)
theorem two_ints {p : Program} {w : World} {a b : Int} {t u : Tok} : TupKeyObj (intKind p w) [a, b] (tup [.int a t, .int b u] 0) :=
  TupKeyObj.made (.cons (intKind_is ..) (.cons (intKind_is ..) .nil))
theorem o_dget {g a : Addr} {D : List (PyData × PyData)} {x y c z : Int} {t u : Tok} {tz : Tok} {k : Value → Bs → Ld → Prop} (T : TT2 W n g D) (ha : (a, tup [.int x t, .int y u] 0) ∈ n) (hl : (PySem.Spec.lookup (kT [x, y]) D).getD (.int z) = .int c) (h : ∀ t, k (.int c t) l n) :
    Rn W F d l n (fun _ => call (.builtin "dict.get") [.ref g, .ref a, .int z tz]) k :=
  fun A _ _ _ _ s _ S D kQ => call_get2_tupTab_eq same_int (by have := S.uni; omega) D.nw T ha two_ints (fun _ => .int _ _) hl fun v hv => by
    have hv := hv s.heap
    cases hv
    exact kQ _ _ _ s.heap _ D (h _)
theorem o_ditem {value slice : Expr} {g a : Addr} {D : List (PyData × PyData)} {x y c : Int} {t u : Tok} {k : Value → Bs → Ld → Prop} (T : TT2 W n g D) (ha : (a, tup [.int x t, .int y u] 0) ∈ n) (hl : PySem.Spec.lookup (kT [x, y]) D = some (.int c)) (h : ∀ t, k (.int c t) l n)
    (hs : subscripted slice false (.ref g) (.ref a) = operate [.ref g, .ref a] (getItem (.ref g) (.ref a)) := by with_unfolding_all rfl) (hg : ∀ r, letTemporaryGo value (.ref g) r = pure () := by intro _; with_unfolding_all rfl) :
    Rn W F d l n (fun _ => subscriptTail value slice (.ref g) (.ref a)) k :=
  fun A _ _ _ _ s _ S D kQ => item_tupTab same_int (by have := S.uni; omega) D.nw T ha two_ints hl (fun v hv => by
    have hv := hv s.heap
    cases hv
    exact kQ _ _ _ s.heap _ D (h _)) hs hg
theorem mem_chg {D : Addr} {o o' : Obj} : ∀ {n : Ld}, (D, o) ∈ n → ∃ n', Chg D o o' n n'
  | _ :: _, .head _ => ⟨_, .head⟩
  | _ :: _, .tail _ h => let ⟨_, e⟩ := mem_chg h; ⟨_, .tail e⟩
theorem o_dset {g a : Addr} {D : List (PyData × PyData)} {x y c : Int} {t u tc : Tok} {k : Unit → Bs → Ld → Prop} (T : TT2 W n g D) (ha : (a, tup [.int x t, .int y u] 0) ∈ n) (hz : D.length ≤ 1000)
    (h : ∀ o o' n', Chg g o o' n n' → TT2 W n' g (putD (kT [x, y]) (.int c) D) → k () l n') : Rn W F d l n (fun _ => setItem (.ref g) (.ref a) (.int c tc)) k :=
  fun A _ _ _ _ s _ S D₀ kQ => by
    obtain ⟨lo, o, es, ep, xs, hm, hc, hd, he, hn, hk, hf⟩ := T
    have tk := two_ints (p := W.prog) (w := W.w) (a := x) (b := y) (t := t) (u := u)
    have hD : s.heap.DictOfH (tupleKind (intKind W.prog W.w)) g xs := ⟨o, es, ep, D₀.nw.get hm, hc, hd, he, fun z hz => let ⟨_, hmk, q⟩ := hk z hz; q.key (D₀.nw.get hmk), hn⟩
    have hxs : xs.length ≤ sizeLine := by
      have e := hf.length
      simp only [kvsOf, List.length_map] at e
      rw [sizeLine_eq]; omega
    refine wpAny_setItem_heap (hsz := hxs) (knd := tupleKind (intKind W.prog W.w)) (tupleKind_room_in1 (by have := S.uni; omega)) (tk.key (D₀.nw.get ha)) hD fun h' hm' hs => ?_
    obtain ⟨o', es', ep', ho', hc', hd', he', _, hn'⟩ := hm'
    obtain ⟨n', hch⟩ := mem_chg (o' := o') hm
    obtain ⟨pre, post, e1, e2, h1, h2⟩ := (hch.upd D₀.od).split
    have old : ∀ {b : Addr} {ob : Obj} {ks : List Int}, (b, ob) ∈ n → TupKeyObj (intKind W.prog W.w) ks ob → (b, ob) ∈ n' := by
      intro b ob ks hb q
      refine hch.keep hb fun e => ?_
      have e : b = g := e
      subst e
      obtain rfl : ob = o := Option.some.inj ((D₀.nw.get hb).symm.trans (D₀.nw.get hm))
      have q1 := q.1
      rw [hc.1] at q1
      injection q1 with q2
      exact absurd q2 (by decide)
    refine kQ _ _ _ h' _ ⟨D₀.fr.change hs (D₀.nw _ hm).2.1 (D₀.nw.fresh hm), by rw [e2]; exact news_set (e1 ▸ D₀.nw) h1 h2 hs ho', by rw [hch.keys]; exact D₀.od⟩ (h _ _ _ hch ⟨lo, o', es', ep', storedH xs [x, y] a (.int c tc), hch.mem', hc', hd', he', hn', fun z hz => ?_, by rw [kvsOf_storedH]; exact hf.stored (same_encTuple same_int) [x, y] (fun _ => .int _ _)⟩)
    rcases mem_storedH hz with ⟨y', hy, q1, q2⟩ | ⟨q1, q2⟩
    · obtain ⟨oky, hmk, q⟩ := hk y' hy
      exact ⟨oky, by rw [q2]; exact old hmk q, by rw [q1]; exact q⟩
    · exact ⟨_, by rw [q2]; exact old ha tk, by rw [q1]; exact tk⟩
end

/-! Fw3 -/
theorem pick_from (vs : List Value) (i : Nat) : slicePick vs.toArray (some (i : Int)) none none = (vs.drop i).toArray := by
  have e : sliceBounds (some (i : Int)) none none vs.toArray.size = (((min i vs.length : Nat) : Int), ((vs.length : Nat) : Int), 1) := by
    simp only [sliceBounds, Option.getD_none, List.size_toArray]
    have h1 : ¬ ((i : Int) < 0) := by omega
    simp [h1]
    omega
  rw [kmk_pick_nat _ e]
  show ((vs.drop (min i vs.length)).take (vs.length - min i vs.length)).toArray = _
  rw [kmk_drop_min, List.take_of_length_le (by rw [List.length_drop]; omega)]
theorem pick_upto (vs : List Value) (i : Nat) : slicePick vs.toArray none (some (i : Int)) none = (vs.take i).toArray := by
  have e : sliceBounds none (some (i : Int)) none vs.toArray.size = (((0 : Nat) : Int), ((min i vs.length : Nat) : Int), 1) := by
    simp only [sliceBounds, Option.getD_none, List.size_toArray]
    have h1 : ¬ ((i : Int) < 0) := by omega
    simp [h1]
    omega
  rw [kmk_pick_nat _ e]
  show ((vs.drop 0).take (min i vs.length - 0)).toArray = _
  rw [List.drop_zero, Nat.sub_zero, kmk_take_min]
section
variable {W : Wd} {F : FI} {d : Nat} {l : Bs} {n : Ld}
theorem Led.push2 {h₀ h : Heap} {L : Addr} {l : Bs} {n : Ld} {o o' : Obj} (D : Led h₀ L l h n) (ho : o.isFreed = false) : Led h₀ L l ((h.push o').push o) ((h.objs.size + 1, o) :: n) := by
  have lt : ∀ p ∈ n, p.1 < h.objs.size + 1 := fun p hp => Nat.lt_succ_of_lt (Heap.lt_size (D.nw p hp).1)
  refine Led.cons ((D.fr.push _).push _) (fun p hp => ?_) D.od lt
  have e : (h.push o').objs.size = h.objs.size + 1 := Heap.size_push ..
  rcases List.mem_cons.mp hp with rfl | hp
  · refine ⟨by have z := Heap.get?_push_size (h.push o') ho; rw [e] at z; exact z, ?_, ?_⟩
    · intro e'
      have q : L < h.objs.size := D.fr.ns.lt
      have e' : h.objs.size + 1 = L := e'
      have q2 : h.objs.size + 1 < h.objs.size := Nat.lt_of_le_of_lt (Nat.le_of_eq e') q
      exact absurd q2 (Nat.not_lt.mpr (Nat.le_succ _))
    · cases q : h₀.get? (h.objs.size + 1) with
      | none => rfl
      | some o => exact absurd (Heap.lt_size (D.fr.keep _ _ q)) (fun q => absurd q (by show ¬ (h.objs.size + 1 < h.objs.size); omega))
  · exact ⟨Heap.get?_push_of_some _ (Heap.get?_push_of_some _ (D.nw p hp).1), (D.nw p hp).2⟩
theorem r_from {value lo : Expr} {p pos : Pos} {k : Value → Bs → Ld → Prop}
    (h : Rn W F d l n (eval value) fun o l1 n1 => Rn W F d l1 n1 (eval lo) fun v l2 n2 => ∃ (a : Addr) (vs : List Value) (m : Nat) (t : Tok) (i : Nat), o = .ref a ∧ v = .int i t ∧ (a, listOf vs.toArray m) ∈ n2 ∧ vs.length ≤ sizeLine ∧ ∀ D, (∀ p ∈ n2, p.1 < D) → k (.ref D) l2 ((D, listOf (vs.drop i).toArray 0) :: n2))
    (ht : ∀ o r, letTemporaryGo value o r = pure () := by intro _ _; rfl) : Rn W F d l n (eval (.Subscript value (.Slice (some lo) none none p) pos)) k :=
  fun A A₀ base h₀ outer s Q S D kQ => wpAny_Subscript_list_slice (h A A₀ base h₀ outer s _ S D fun o l1 n1 h1 tk1 D1 x1 => x1.go S D1 fun v l2 n2 h2 tk2 D2 x2 => by
    obtain ⟨a, vs, m, t, i, rfl, rfl, hm, hz, x2⟩ := x2
    refine wpAny_pure ⟨a, vs.toArray, some i, none, rfl, ⟨_, D2.nw.get hm, rfl, m, rfl⟩, by simpa using hz, .int _ _, .none, ?_⟩
    rw [pick_from]
    have z := D2.push2 (o' := { cls := .type "slice", data := .fields #[.int i t, .none, .none] }) (o := listOf (vs.drop i).toArray 0) rfl
    exact kQ _ _ _ _ _ z (x2 _ fun p hp => Nat.lt_succ_of_lt (Heap.lt_size (D2.nw p hp).1))) ht
theorem r_upto {value hi : Expr} {p pos : Pos} {k : Value → Bs → Ld → Prop}
    (h : Rn W F d l n (eval value) fun o l1 n1 => Rn W F d l1 n1 (eval hi) fun v l2 n2 => ∃ (a : Addr) (vs : List Value) (m : Nat) (t : Tok) (i : Nat), o = .ref a ∧ v = .int i t ∧ (a, listOf vs.toArray m) ∈ n2 ∧ vs.length ≤ sizeLine ∧ ∀ D, (∀ p ∈ n2, p.1 < D) → k (.ref D) l2 ((D, listOf (vs.take i).toArray 0) :: n2))
    (ht : ∀ o r, letTemporaryGo value o r = pure () := by intro _ _; rfl) : Rn W F d l n (eval (.Subscript value (.Slice none (some hi) none p) pos)) k :=
  fun A A₀ base h₀ outer s Q S D kQ => wpAny_Subscript_list_slice (h A A₀ base h₀ outer s _ S D fun o l1 n1 h1 tk1 D1 x1 => wpAny_pure (x1.go S D1 fun v l2 n2 h2 tk2 D2 x2 => by
    obtain ⟨a, vs, m, t, i, rfl, rfl, hm, hz, x2⟩ := x2
    refine ⟨a, vs.toArray, none, some i, rfl, ⟨_, D2.nw.get hm, rfl, m, rfl⟩, by simpa using hz, .none, .int _ _, ?_⟩
    rw [pick_upto]
    have z := D2.push2 (o' := { cls := .type "slice", data := .fields #[.none, .int i t, .none] }) (o := listOf (vs.take i).toArray 0) rfl
    exact kQ _ _ _ _ _ z (x2 _ fun p hp => Nat.lt_succ_of_lt (Heap.lt_size (D2.nw p hp).1)))) ht
theorem o_addLF {a b : Addr} {vs us : List Value} {i j : Nat} {k : Value → Bs → Ld → Prop} (ha : (a, listOf vs.toArray i) ∈ n) (hb : (b, listOf us.toArray j) ∈ n) (hz : vs.length + us.length ≤ sizeLine) (h : ∀ D, (∀ p ∈ n, p.1 < D) → k (.ref D) l ((D, listOf (vs ++ us).toArray 0) :: n)) :
    Rn W F d l n (fun _ => binaryOp .Add (.ref a) (.ref b)) k :=
  fun _ _ _ _ _ s _ _ D kQ => kmk_add_lit (its := vs.toArray) (its2 := us.toArray) (zs := vs ++ us) D.fr D.nw ⟨_, D.nw.get ha, rfl, i, rfl⟩ ⟨_, D.nw.get hb, rfl, j, rfl⟩ (by simp) (fun D' h' F' N' lt => kQ _ _ _ h' _ (Led.cons F' N' D.od lt) (h D' lt)) (by simpa using hz)
def isI (k : Int) : Value → Bool
  | .int j _ => j == k
  | _ => false
theorem o_notinT {a : Addr} {x y k : Int} {t u v : Tok} {m : Nat} {kk : Value → Bs → Ld → Prop} (ha : (a, tup [.int x t, .int y u] m) ∈ n) (h : kk (.bool (!(x == k || y == k))) l n) : Rn W F d l n (fun _ => compareOp .NotIn (.int k v) (.ref a)) kk :=
  fun _ _ _ _ _ s _ _ D kQ => PySem.SeqAt.notIn_tupleAt (isI k) (items := [.int x t, .int y u].toArray) (D.nw.isTup ha) (fun z hz => by
    have hz : z ∈ [Value.int x t, Value.int y u] := by simpa using hz
    rcases List.mem_cons.mp hz with rfl | hz
    · exact PySem.SeqAt.EqAt.int_int _ _ _ _
    · obtain rfl := List.mem_singleton.mp hz
      exact PySem.SeqAt.EqAt.int_int _ _ _ _) (by
    have z := kQ _ _ _ s.heap s.toks D h
    simpa [isI] using z)
theorem o_turn {value slice : Expr} {a b : Value} {k : Value → Bs → Ld → Prop} (h : Rn W F d l n (fun _ => subscriptTail (.Name (Str.ofString "_") ⟨0, 0, 0, 0⟩) slice a b) k) : Rn W F d l n (fun _ => subscriptTail value slice a b) k :=
  fun A A₀ base h₀ outer s Q S D kQ => kba_turn (value' := .Name (Str.ofString "_") ⟨0, 0, 0, 0⟩) (fun _ => rfl) (h A A₀ base h₀ outer s Q S D kQ)
/-- range -/
abbrev rng (N : Int) (t u v : Tok) : Obj := { cls := .type "range", dict := none, data := .fields #[.int 0 t, .int N u, .int 1 v], slots := #[] }
theorem Led.push1 {h₀ h : Heap} {L : Addr} {l : Bs} {n : Ld} {o : Obj} (D : Led h₀ L l h n) (ho : o.isFreed = false) : Led h₀ L l (h.push o) ((h.objs.size, o) :: n) := by
  refine Led.cons (D.fr.push _) (fun p hp => ?_) D.od fun p hp => Heap.lt_size (D.nw p hp).1
  rcases List.mem_cons.mp hp with rfl | hp
  · refine ⟨Heap.get?_push_size _ ho, ?_, next_free D.fr⟩
    intro e'
    exact absurd (D.fr.ns.lt : L < h.objs.size) (fun q => absurd (Nat.lt_of_le_of_lt (Nat.le_of_eq e') q) (Nat.lt_irrefl _))
  · exact ⟨Heap.get?_push_of_some _ (D.nw p hp).1, (D.nw p hp).2⟩
theorem o_range {N : Int} {t : Tok} {k : Value → Bs → Ld → Prop} (h : ∀ D t u v, k (.ref D) l ((D, rng N t u v) :: n)) : Rn W F d l n (fun _ => call (.type "range") [.int N t]) k :=
  fun _ _ _ _ _ s _ _ D kQ => call_range_1 (kQ _ _ _ _ _ (D.push1 rfl) (h _ _ _ _))
theorem r_forR {x : Str} {px pos : Pos} {iter : Expr} {body : List Stmt} {k : Flow → Bs → Ld → Prop}
    (h : Rn W F d l n (eval iter) fun v l' n' => ∃ (r : Addr) (N : Nat) (t u v' : Tok) (J : Nat → Bs → Ld → Ld → Prop), v = .ref r ∧ (r, rng N t u v') ∈ n' ∧ N < 1000 ∧ J 0 l' [] n' ∧
      (∀ i t lt tl n0 I it, i < N → J i lt tl n0 → n0.map (·.1) = n'.map (·.1) →
        Rn W F d (sto x (.int i t) lt) (tl ++ (I, it) :: n0) (execs body) (turnEnd k I it (n'.map (·.1)) fun l2 tl2 n2 => J (i + 1) l2 tl2 n2)) ∧
      (∀ lt tl n0, J N lt tl n0 → k .next lt (tl ++ n0)))
    (hx : F.env.kindOf x = some .local := by rfl) (hk : F.scope.kind = .function := by rfl) (hs : ∀ v, foldedSetIterable iter F.env v = pure v := by intro _; rfl) : Rn W F d l n (exec (.For (.Name x px) iter body [] pos)) k := by
  intro A A₀ base h₀ outer s Q S D kQ
  refine For_invVF D.fr hx (by show (F.scope.kind == .class || (F.scope.kind == .module && F.env.locals != F.env.globals)) = false; rw [hk]; rfl) (h A A₀ base h₀ outer s _ S D fun v l' n' h' tk' D' x => ?_) hs passes_no
  obtain ⟨r, N, t, u, v', J, rfl, hr, hN, hj, turn, done⟩ := x
  have hsz : Builtin.Range.rangeSize 0 N 1 = (N : Int) := by rw [rangeSize_one]; split <;> omega
  refine wpAny_pyIter_range (D'.nw.get hr) (small_one (by omega) (by omega) (by omega) (by omega)) ?_
  have Wk : Walks W.prog W.w A h'.objs.size [h'.objs.size] [h'.objs.size] N (fun i v => i < N ∧ ∃ t, v = .int (0 + i * 1) t)
      (fun i h => IsRangeIter h h'.objs.size (0 + (i : Nat) * 1) ((N : Int) - (i : Nat)) 1) := (Walks.range S.hnd _ 0 1 N).bound
  refine loop_at (l := l') (n := n') J (fun _ => True) Wk (fun b hb => .inl (List.mem_singleton.mp hb)) (Ne.symm (Nat.ne_of_lt D'.fr.ns.lt)) (next_free D'.fr) (fun i h hi => ⟨_, hi⟩) (by show IsRangeIter _ _ _ _ _; rw [hsz]; simpa using Heap.get?_push_size _ rfl) (D'.fr.push _) (fun p hp => ⟨Heap.get?_push_of_some _ (D'.nw p hp).1, (D'.nw p hp).2⟩) D'.od (fun p hp => Heap.lt_size (D'.nw p hp).1) trivial hj ?_ ?_
  · rintro i v lt tl n0 it hh tk hi ⟨_, t, rfl⟩ hJ _ hkeys Fm Nm odm
    have e1 : (0 : Int) + (i : Int) * 1 = (i : Int) := by omega
    rw [e1] at Fm
    refine turn i t lt tl n0 h'.objs.size it hi hJ hkeys A A₀ base h₀ outer _ _ S ⟨Fm, Nm, odm⟩ fun f l2 n2 h2 tk2 D2 x2 => ?_
    cases f with
    | ret v => exact kQ _ _ _ _ _ D2 x2
    | brk => exact kQ _ _ _ _ _ D2 x2
    | next =>
      obtain ⟨tl', n0', rfl, hk', hJ'⟩ := x2
      exact ⟨l2, tl', n0', h2, tk2, rfl, D2.fr, D2.nw, D2.od, hk', trivial, hJ'⟩
    | cont =>
      obtain ⟨tl', n0', rfl, hk', hJ'⟩ := x2
      exact ⟨l2, tl', n0', h2, tk2, rfl, D2.fr, D2.nw, D2.od, hk', trivial, hJ'⟩
  · intro lt tl n0 hh tk hJ _ _ Fm Nm odm
    exact kQ _ _ _ _ _ ⟨Fm, Nm, odm⟩ (done lt tl n0 hJ)
/-- a tuple of the top -/
theorem o_ktupI {value slice : Expr} {a : Addr} {vs : List Value} {m : Nat} {i : Int} {u : Tok} {x : Value} {k : Value → Bs → Ld → Prop} (hm : W.K.lookup a = some (tup vs m)) (h0 : 0 ≤ i) (hi : i < 2 ^ 63) (hx : vs[i.toNat]? = some x) (h : k x l n)
    (hs : subscripted slice false (.ref a) (.int i u) = operate [.ref a, .int i u] (getItem (.ref a) (.int i u)) := by with_unfolding_all rfl) : Rn W F d l n (fun _ => subscriptTail value slice (.ref a) (.int i u)) k :=
  fun _ _ _ _ _ s _ S D kQ => by
    have hl := (List.getElem?_eq_some_iff.mp hx).1
    have hT : IsTup s.heap a vs.toArray := ⟨_, (S.kin.keeps D.fr.keep) _ _ hm, rfl, m, rfl⟩
    refine item_tupleT hT (by omega) hi (j := i.toNat) ?_ hx (kQ _ _ _ s.heap s.toks D h) hs
    unfold seqIndex?
    have e1 : ¬ i < 0 := by omega
    have e2 : i < (vs.length : Int) := by omega
    simp [e1, h0, e2]
end

/-! Fw4 -/
section
variable {W : Wd} {F : FI} {d : Nat} {l : Bs} {n : Ld}
/-- an object made -/
theorem o_new {C fI : Addr} {vs : List Value} {k : Value → Bs → Ld → Prop} (hm : makesIn W.K C = true) (hi : findIn W.K (.ref C) "__init__" = some (some (.ref fI))) (hf : isFn W.K (.ref fI) = true)
    (h : ∀ x dx, (∀ p ∈ n, p.1 < dx) → dx < x → Cl W d fI (.ref x :: vs) ((x, instObj C dx) :: (dx, dictOf [] 0) :: n) fun v n' => v = .none ∧ k (.ref x) l n') (hF : F.scope.kind = .function := by rfl) : Rn W F (d + 1) l n (fun _ => call (.ref C) vs) k :=
  fun A A₀ base h₀ outer s Q S D kQ => call_cls D.fr S.kin D.nw hm hi hf fun x dx h' F' N' l1 l2 => by
    have od : (((x, instObj C dx) :: (dx, dictOf [] 0) :: n).map (·.1)).Pairwise (· > ·) := by
      refine List.Pairwise.cons (fun b hb => ?_) (List.Pairwise.cons (fun b hb => ?_) D.od)
      · rcases List.mem_cons.mp hb with rfl | hb
        · exact l2
        · obtain ⟨p, hp, rfl⟩ := List.mem_map.mp hb
          exact Nat.lt_trans (l1 p hp) l2
      · obtain ⟨p, hp, rfl⟩ := List.mem_map.mp hb
        exact l1 p hp
    have S' : Sit W F.env d (A.under (.builtin "type.__call__" ⟨.ref C :: vs, []⟩)) A₀ base h₀ outer :=
      ⟨S.below, S.kin, S.top, S.frs, S.hnd, by have := S.dep; show A.depth + 1 + d < _; omega, by have := S.uni; show A.units + 1 + 10 * d + 200 < _; omega⟩
    exact h x dx l1 l2 _ A₀ base h₀ outer F.env F.L _ { s with heap := h' } _ S' rfl hF F' N' od fun v n' h2 tk F2 N2 od2 hk => by
      obtain ⟨rfl, hk⟩ := hk
      exact ⟨rfl, kQ _ _ _ h2 tk ⟨F2, N2, od2⟩ hk⟩
end

/-! Pl -/
/-! plain data -/
abbrev eps : Str := Str.ofString ""
abbrev dS (s : Str) : Dat := .tuple [.int 1, .int 13, .str s]
def txtOf : Dat → Option Str
  | .tuple [.int 1, .int 13, .str s] => some s
  | .tuple [.int 1, .int 13, .none] => some eps
  | _ => none
inductive Part : Dat → Prop
  | txt (s : Str) : Part (.tuple [.int 1, .int 13, .str s])
  | nul : Part (.tuple [.int 1, .int 13, .none])
  | oth {c k : Int} {r : List Dat} : c ≠ 1 → Part (.tuple (.int c :: .int k :: r))
theorem txt_oth {c k : Int} {r : List Dat} (h : c ≠ 1) : txtOf (.tuple (.int c :: .int k :: r)) = none := by
  unfold txtOf
  split
  · rename_i e; simp only [Dat.tuple.injEq, List.cons.injEq, Dat.int.injEq] at e; exact absurd e.1 h
  · rename_i e; simp only [Dat.tuple.injEq, List.cons.injEq, Dat.int.injEq] at e; exact absurd e.1 h
  · rfl
def tw (d : Dat) : Nat := match txtOf d with
  | some s => s.length
  | none => 0
def tws (ds : List Dat) : Nat := (ds.map tw).sum
def stp (r : List Dat × Option Str) (d : Dat) : List Dat × Option Str := match txtOf d with
  | some t => match r.2 with
    | some l => (r.1.dropLast ++ [dS (l ++ t)], some (l ++ t))
    | none => (r.1 ++ [dS t], some t)
  | none => (r.1 ++ [d], none)
theorem stp_none {r : List Dat × Option Str} {d : Dat} (h : txtOf d = none) : stp r d = (r.1 ++ [d], none) := by unfold stp; rw [h]
theorem stp_new {r : List Dat × Option Str} {d : Dat} {t : Str} (h : txtOf d = some t) (h2 : r.2 = none) : stp r d = (r.1 ++ [dS t], some t) := by unfold stp; rw [h, h2]
theorem stp_cat {r : List Dat × Option Str} {d : Dat} {t l : Str} (h : txtOf d = some t) (h2 : r.2 = some l) : stp r d = (r.1.dropLast ++ [dS (l ++ t)], some (l ++ t)) := by unfold stp; rw [h, h2]
def parF (ds : List Dat) : List Dat × Option Str := ds.foldl stp ([], none)
theorem parF_nil : parF [] = ([], none) := rfl
theorem parF_snoc (ds : List Dat) (d : Dat) : parF (ds ++ [d]) = stp (parF ds) d := by unfold parF; rw [List.foldl_append]; rfl
theorem snoc_ind {P : List Dat → Prop} (h0 : P []) (h1 : ∀ ds d, P ds → P (ds ++ [d])) : ∀ ds, P ds := by
  intro ds
  rw [← List.reverse_reverse ds]
  induction ds.reverse with
  | nil => exact h0
  | cons d r ih => rw [List.reverse_cons]; exact h1 _ _ ih
theorem tws_snoc (ds : List Dat) (d : Dat) : tws (ds ++ [d]) = tws ds + tw d := by unfold tws; simp
theorem tws_take (ds : List Dat) (i : Nat) : tws (ds.take i) ≤ tws ds := by
  conv => rhs; rw [← List.take_append_drop i ds]
  unfold tws
  rw [List.map_append, List.sum_append_nat]
  exact Nat.le_add_right _ _
theorem str_len (x y : Str) : (x ++ y).length = x.length + y.length := Str.length_append x y
/-- the last text is no longer than all texts, and it is the last part -/
theorem parF_last : ∀ ds l, (parF ds).2 = some l → l.length ≤ tws ds ∧ ∃ r, (parF ds).1 = r ++ [dS l] := by
  refine snoc_ind (fun l h => (nomatch h)) fun ds d ih l h => ?_
  rw [parF_snoc] at h ⊢
  rw [tws_snoc]
  unfold stp at h ⊢
  cases ht : txtOf d with
  | none => rw [ht] at h; cases h
  | some t =>
    have hw : tw d = t.length := by unfold tw; rw [ht]
    rw [ht] at h
    cases hl : (parF ds).2 with
    | none =>
      rw [hl] at h
      cases h
      exact ⟨by omega, _, rfl⟩
    | some l' =>
      rw [hl] at h
      cases h
      have := (ih l' hl).1
      exact ⟨by rw [str_len]; omega, _, rfl⟩
theorem parF_len : ∀ ds, (parF ds).1.length ≤ ds.length := by
  refine snoc_ind (Nat.le_refl _) fun ds d ih => ?_
  rw [parF_snoc]
  unfold stp
  cases txtOf d with
  | none => simp; exact ih
  | some t =>
    cases (parF ds).2 with
    | none => simp; exact ih
    | some l => simp; omega
def foldC (ds : List Dat) : Dat := match (parF ds).1, (parF ds).2 with
  | [p], some _ => p
  | ps, _ => .tuple [.int 26, .int 13, .tuple ps]
theorem foldC_one {ds : List Dat} {p : Dat} {l : Str} (h : (parF ds).1 = [p]) (h2 : (parF ds).2 = some l) : foldC ds = p := by unfold foldC; rw [h, h2]
theorem foldC_many {ds : List Dat} (h : (parF ds).1.length ≠ 1 ∨ (parF ds).2 = none) : foldC ds = .tuple [.int 26, .int 13, .tuple (parF ds).1] := by
  unfold foldC
  split
  · rename_i e1 e2
    rcases h with h | h
    · rw [e1] at h; exact absurd rfl h
    · rw [e2] at h; cases h
  · rfl
/-! kinds, turning -/
def kindOf : Dat → Int
  | .tuple (.int _ :: .int k :: _) => k
  | _ => 0
def kinds9 : List Int := [13, 12, 16, 7, 9, 1, 2, 17, 14]
def cvK (k : Int) : Int := if k = 16 then 2 else 4
def convD (ck k : Int) (e : Dat) : Dat := .tuple [.int 19, .int 12, e, .int (cvK k), .int ck]
def turnD (ck k : Int) (e : Dat) : Dat := if k = 12 then e else convD ck k e
def opsP (ck : Int) (e : Dat) : Dat := if kindOf e = 13 then e else if kindOf e = 14 then dS eps else turnD ck (kindOf e) e
/-- an operand -/
structure Op (e : Dat) : Prop where
  hd : ∃ c k r, e = .tuple (.int c :: .int k :: r) ∧ k ∈ kinds9
  pt : kindOf e = 13 ∨ kindOf e = 12 → Part e
theorem Op.part {ck : Int} {e : Dat} (h : Op e) : Part (opsP ck e) := by
  unfold opsP turnD convD
  split
  · exact h.pt (.inl ‹_›)
  · split
    · exact .txt _
    · split
      · exact h.pt (.inr ‹_›)
      · exact .oth (by decide)
def firstD (ck : Int) : Dat → List Dat
  | .tuple [.int 26, _, .tuple ps] => ps
  | e => [opsP ck e]
def bindC (ck : Int) (l r : Dat) : Dat := foldC (firstD ck l ++ [opsP ck r])
/-- what stands at the left -/
inductive Lt (ck : Int) (l : Dat) : Prop
  | cat {ps : List Dat} : l = .tuple [.int 26, .int 13, .tuple ps] → ps ≠ [] → (∀ d ∈ ps, Part d) → Lt ck l
  | one : Op l → (∀ c r, l = .tuple (.int c :: r) → c ≠ 26) → Lt ck l
theorem first_one {ck : Int} {l : Dat} (h : ∀ c r, l = .tuple (.int c :: r) → c ≠ 26) : firstD ck l = [opsP ck l] := by
  unfold firstD
  split
  · exact absurd rfl (h _ _ rfl)
  · rfl
theorem foldC_cases (ds : List Dat) : (∃ l, foldC ds = dS l ∧ l.length ≤ tws ds) ∨ foldC ds = .tuple [.int 26, .int 13, .tuple (parF ds).1] := by
  by_cases h : (parF ds).1.length ≠ 1 ∨ (parF ds).2 = none
  · exact .inr (foldC_many h)
  · rw [not_or, Classical.not_not] at h
    obtain ⟨l, hl⟩ := Option.ne_none_iff_exists'.mp h.2
    obtain ⟨hz, r, hr⟩ := parF_last _ _ hl
    obtain rfl : r = [] := by have := h.1; rw [hr] at this; simpa using this
    exact .inl ⟨l, foldC_one hr hl, hz⟩

/-! Pl2 -/
/-- an operand as the law reads it -/
structure Jo (e : Dat) : Prop where
  op : Op e
  nul : kindOf e = 14 → e = .tuple [.int 1, .int 14, .none]
def txj (e : Dat) : Option Str := if kindOf e = 14 then some eps else txtOf e
def fls (r : List Dat × Option Str) : List Dat := match r.2 with
  | some s => r.1 ++ [dS s]
  | none => r.1
def stpJ (ck : Int) (r : List Dat × Option Str) (e : Dat) : List Dat × Option Str := match txj e with
  | some t => (r.1, some (r.2.getD eps ++ t))
  | none => (fls r ++ [opsP ck e], none)
def joinF (ck : Int) (es : List Dat) : List Dat × Option Str := es.foldl (stpJ ck) ([], none)
theorem joinF_snoc (ck : Int) (es : List Dat) (e : Dat) : joinF ck (es ++ [e]) = stpJ ck (joinF ck es) e := by unfold joinF; rw [List.foldl_append]; rfl
theorem stpJ_txt {ck : Int} {r : List Dat × Option Str} {e : Dat} {t : Str} (h : txj e = some t) : stpJ ck r e = (r.1, some (r.2.getD eps ++ t)) := by unfold stpJ; rw [h]
theorem stpJ_oth {ck : Int} {r : List Dat × Option Str} {e : Dat} (h : txj e = none) : stpJ ck r e = (fls r ++ [opsP ck e], none) := by unfold stpJ; rw [h]
def wj (e : Dat) : Nat := match txj e with
  | some s => s.length
  | none => 0
def wjs (es : List Dat) : Nat := (es.map wj).sum
theorem wjs_snoc (es : List Dat) (e : Dat) : wjs (es ++ [e]) = wjs es + wj e := by unfold wjs; simp
theorem wjs_take (ds : List Dat) (i : Nat) : wjs (ds.take i) ≤ wjs ds := by
  conv => rhs; rw [← List.take_append_drop i ds]
  unfold wjs
  rw [List.map_append, List.sum_append_nat]
  exact Nat.le_add_right _ _
theorem joinF_run (ck : Int) : ∀ es s, (joinF ck es).2 = some s → s.length ≤ wjs es := by
  refine snoc_ind (fun l h => (nomatch h)) fun es e ih s h => ?_
  rw [joinF_snoc] at h
  rw [wjs_snoc]
  cases ht : txj e with
  | none => rw [stpJ_oth ht] at h; cases h
  | some t =>
    have hw : wj e = t.length := by unfold wj; rw [ht]
    rw [stpJ_txt ht] at h
    cases h
    rw [str_len]
    cases hr : (joinF ck es).2 with
    | none => show Str.length eps + _ ≤ _; have : Str.length eps = 0 := by decide
              omega
    | some s' => show s'.length + _ ≤ _; have := ih _ hr; omega
theorem fls_len (r : List Dat × Option Str) : (fls r).length ≤ r.1.length + 1 := by
  unfold fls; split
  · simp
  · omega
theorem joinF_len (ck : Int) : ∀ es, (joinF ck es).1.length ≤ 2 * es.length := by
  refine snoc_ind (Nat.le_refl _) fun es e ih => ?_
  rw [joinF_snoc]
  cases ht : txj e with
  | none =>
    rw [stpJ_oth ht]
    have := fls_len (joinF ck es)
    simp; omega
  | some t => rw [stpJ_txt ht]; simp; omega
def codeOf : Dat → Int
  | .tuple (.int c :: _) => c
  | _ => 0
def joinC (out : List Dat) : Dat := match out with
  | [p] => if codeOf p = 1 then p else .tuple [.int 26, .int 13, .tuple [p]]
  | ps => .tuple [.int 26, .int 13, .tuple ps]
def firstJ : Dat → List Dat
  | .tuple [.int 26, _, .tuple ps] => ps
  | e => [e]
def joinD (ck : Int) (e : Dat) (es : List Dat) : Dat := joinC (fls (joinF ck (firstJ e ++ es)))
/-- what stands first in the law's rows -/
inductive Lj (l : Dat) : Prop
  | cat {ps : List Dat} : l = .tuple [.int 26, .int 13, .tuple ps] → ps ≠ [] → (∀ d ∈ ps, Jo d) → (∀ d ∈ ps, kindOf d = 13 ∨ kindOf d = 12) → Lj l
  | one : Jo l → (∀ c r, l = .tuple (.int c :: r) → c ≠ 26) → Lj l
theorem firstJ_one {l : Dat} (h : ∀ c r, l = .tuple (.int c :: r) → c ≠ 26) : firstJ l = [l] := by
  unfold firstJ
  split
  · exact absurd rfl (h _ _ rfl)
  · rfl
/-- the shapes of an operand -/
inductive JoIs (ck : Int) (e : Dat) : Prop
  | nul : e = .tuple [.int 1, .int 14, .none] → txj e = some eps → JoIs ck e
  | txt {s : Str} : e = .tuple [.int 1, .int 13, .str s] → txj e = some s → JoIs ck e
  | emp : e = .tuple [.int 1, .int 13, .none] → txj e = some eps → JoIs ck e
  | own {c k : Int} {r : List Dat} : e = .tuple (.int c :: .int k :: r) → c ≠ 1 → (k = 13 ∨ k = 12) → txj e = none → opsP ck e = e → JoIs ck e
  | oth {c k : Int} {r : List Dat} : e = .tuple (.int c :: .int k :: r) → k ∈ kinds9 → k ≠ 13 → k ≠ 12 → k ≠ 14 → txj e = none → opsP ck e = convD ck k e → JoIs ck e
theorem Jo.is (ck : Int) {e : Dat} (h : Jo e) : JoIs ck e := by
  obtain ⟨c, k, r, rfl, hk⟩ := h.op.hd
  have hK : kindOf (.tuple (.int c :: .int k :: r)) = k := rfl
  by_cases h14 : k = 14
  · have e := h.nul (hK.trans h14)
    rw [e]
    exact .nul rfl rfl
  · have tj : txj (.tuple (.int c :: .int k :: r)) = txtOf (.tuple (.int c :: .int k :: r)) := by unfold txj; rw [if_neg (by rw [hK]; exact h14)]
    by_cases h13 : k = 13 ∨ k = 12
    · have hp := h.op.pt h13
      generalize hg : Dat.tuple (.int c :: .int k :: r) = g at *
      cases hp with
      | txt s => exact .txt rfl tj
      | nul => exact .emp rfl tj
      | oth hc =>
        rename_i c' k' r'
        have : k' = k := hK
        subst this
        refine .own rfl hc h13 (tj.trans (txt_oth hc)) ?_
        unfold opsP turnD
        rw [hK]
        rcases h13 with h | h
        · rw [if_pos h]
        · rw [if_neg (by omega), if_neg (by omega), if_pos h]
    · rw [not_or] at h13
      refine .oth rfl hk h13.1 h13.2 h14 (tj.trans ?_) ?_
      · unfold txtOf
        split
        · rename_i e; simp only [Dat.tuple.injEq, List.cons.injEq, Dat.int.injEq] at e; exact absurd e.2.1 h13.1
        · rename_i e; simp only [Dat.tuple.injEq, List.cons.injEq, Dat.int.injEq] at e; exact absurd e.2.1 h13.1
        · rfl
      · unfold opsP turnD
        rw [hK, if_neg h13.1, if_neg h14, if_neg h13.2]
theorem opsP_hd {ck : Int} {e : Dat} (h : Op e) : ∃ c r, opsP ck e = .tuple (.int c :: r) := by
  obtain ⟨c, k, r, rfl, _⟩ := h.hd
  unfold opsP turnD convD
  split
  · exact ⟨_, _, rfl⟩
  · split
    · exact ⟨_, _, rfl⟩
    · split
      · exact ⟨_, _, rfl⟩
      · exact ⟨_, _, rfl⟩
theorem fls_hd {r : List Dat × Option Str} (h : ∀ d ∈ r.1, ∃ c q, d = .tuple (.int c :: q)) : ∀ d ∈ fls r, ∃ c q, d = .tuple (.int c :: q) := by
  unfold fls
  split
  · intro d hd
    rcases List.mem_append.mp hd with hd | hd
    · exact h _ hd
    · rw [List.mem_singleton.mp hd]; exact ⟨_, _, rfl⟩
  · exact h
theorem joinF_hd (ck : Int) : ∀ es, (∀ e ∈ es, Jo e) → ∀ d ∈ (joinF ck es).1, ∃ c q, d = .tuple (.int c :: q) := by
  refine snoc_ind (fun _ _ h => (nomatch h)) fun es e ih hj => ?_
  have ih := ih fun e he => hj e (List.mem_append.mpr (.inl he))
  rw [joinF_snoc]
  cases ht : txj e with
  | none =>
    rw [stpJ_oth ht]
    intro d hd
    rcases List.mem_append.mp hd with hd | hd
    · exact fls_hd ih _ hd
    · rw [List.mem_singleton.mp hd]; exact opsP_hd (hj e (List.mem_append.mpr (.inr (.head _)))).op
  | some t => rw [stpJ_txt ht]; exact ih

/-! Pl3 -/
theorem eps_app (x : Str) : eps ++ x = x := by
  have : eps = Str.empty := by decide +kernel
  rw [this]; exact Str.empty_append x
theorem txt_dS (s : Str) : txtOf (dS s) = some s := rfl
theorem parF_idem : ∀ ds, parF (parF ds).1 = parF ds := by
  refine snoc_ind rfl fun ds d ih => ?_
  rw [parF_snoc]
  cases ht : txtOf d with
  | none =>
    rw [stp_none ht]
    show parF ((parF ds).1 ++ [d]) = _
    rw [parF_snoc, ih, stp_none ht]
  | some t =>
    cases hl : (parF ds).2 with
    | none =>
      rw [stp_new ht hl]
      show parF ((parF ds).1 ++ [dS t]) = _
      rw [parF_snoc, ih, stp_new (txt_dS t) hl]
    | some l =>
      rw [stp_cat ht hl]
      obtain ⟨_, r, hr⟩ := parF_last _ _ hl
      have h0 : parF (r ++ [dS l]) = parF ds := by rw [← hr]; exact ih
      rw [parF_snoc] at h0
      show parF ((parF ds).1.dropLast ++ [dS (l ++ t)]) = _
      rw [hr, List.dropLast_concat, parF_snoc]
      cases h2 : (parF r).2 with
      | none =>
        rw [stp_new (txt_dS l) h2] at h0
        have e1 : (parF r).1 ++ [dS l] = r ++ [dS l] := by rw [← hr, ← h0]
        rw [stp_new (txt_dS (l ++ t)) h2, (List.append_inj' e1 rfl).1]
      | some l' =>
        rw [stp_cat (txt_dS l) h2] at h0
        have e1 : (parF r).1.dropLast ++ [dS (l' ++ l)] = r ++ [dS l] := by rw [← hr, ← h0]
        have e2 := congrArg List.length (List.append_inj' e1 rfl).1
        obtain ⟨_, q, hq⟩ := parF_last _ _ h2
        have e3 := parF_len r
        rw [hq] at e2 e3
        rw [List.dropLast_concat] at e2
        rw [List.length_append] at e3
        simp at e3
        omega
theorem txt_ops {ck : Int} {e : Dat} (h : JoIs ck e) : txtOf (opsP ck e) = txj e := by
  cases h with
  | nul e1 e2 => rw [e2, e1]; rfl
  | txt e1 e2 => rw [e2, e1]; rfl
  | emp e1 e2 => rw [e2, e1]; rfl
  | own e1 hc hk e2 e3 => rw [e2, e3, e1]; exact txt_oth hc
  | oth e1 hk h13 h12 h14 e2 e3 => rw [e2, e3]; exact txt_oth (by decide)
theorem par_join (ck : Int) : ∀ es, (∀ e ∈ es, Jo e) → parF (es.map (opsP ck)) = (fls (joinF ck es), (joinF ck es).2) := by
  refine snoc_ind (fun _ => rfl) fun es e ih hj => ?_
  have ih := ih fun e he => hj e (List.mem_append.mpr (.inl he))
  have hi := (hj e (List.mem_append.mpr (.inr (.head _)))).is ck
  rw [List.map_append, List.map_cons, List.map_nil, parF_snoc, ih, joinF_snoc]
  have ht := txt_ops hi
  cases h : txj e with
  | none => rw [stp_none (ht.trans h), stpJ_oth h]; rfl
  | some t =>
    rw [stpJ_txt h]
    cases hr : (joinF ck es).2 with
    | none =>
      rw [stp_new (ht.trans h) (by exact rfl)]
      show (fls (joinF ck es) ++ [dS t], some t) = ((joinF ck es).1 ++ [dS (eps ++ t)], some (eps ++ t))
      rw [eps_app]
      unfold fls
      rw [hr]
    | some l =>
      rw [stp_cat (ht.trans h) (by exact rfl)]
      show ((fls (joinF ck es)).dropLast ++ [dS (l ++ t)], some (l ++ t)) = ((joinF ck es).1 ++ [dS (l ++ t)], some (l ++ t))
      unfold fls
      rw [hr]
      show (((joinF ck es).1 ++ [dS l]).dropLast ++ _, _) = _
      rw [List.dropLast_concat]
theorem joinF_none (ck : Int) : ∀ es, (∀ e ∈ es, Jo e) → (joinF ck es).2 = none → (joinF ck es).1 = [] ∨ ∃ q d, (joinF ck es).1 = q ++ [d] ∧ codeOf d ≠ 1 := by
  refine snoc_ind (fun _ _ => .inl rfl) fun es e ih hj h => ?_
  rw [joinF_snoc] at h ⊢
  cases ht : txj e with
  | some t => rw [stpJ_txt ht] at h; cases h
  | none =>
    rw [stpJ_oth ht]
    refine .inr ⟨_, _, rfl, ?_⟩
    cases (hj e (List.mem_append.mpr (.inr (.head _)))).is ck with
    | nul _ e2 => rw [e2] at ht; cases ht
    | txt _ e2 => rw [e2] at ht; cases ht
    | emp _ e2 => rw [e2] at ht; cases ht
    | own e1 hc hk e2 e3 => rw [e3, e1]; exact hc
    | oth e1 hk h13 h12 h14 e2 e3 => rw [e3]; exact (by decide : (19 : Int) ≠ 1)
theorem foldC_join (ck : Int) (es : List Dat) (hj : ∀ e ∈ es, Jo e) : foldC (es.map (opsP ck)) = joinC (fls (joinF ck es)) := by
  have hp := par_join ck es hj
  by_cases h : (parF (es.map (opsP ck))).1.length ≠ 1 ∨ (parF (es.map (opsP ck))).2 = none
  · rw [foldC_many h]
    rw [hp] at h ⊢
    show Dat.tuple [.int 26, .int 13, .tuple (fls (joinF ck es))] = _
    unfold joinC
    split
    · rename_i p hq
      rcases h with h | h
      · exact absurd (by show (fls (joinF ck es)).length = 1; rw [hq]; rfl) h
      · have hr : (joinF ck es).2 = none := h
        have hq' : (joinF ck es).1 = [p] := by unfold fls at hq; rw [hr] at hq; exact hq
        rcases joinF_none ck es hj hr with h1 | ⟨q, d, h1, h2⟩
        · rw [h1] at hq'; cases hq'
        · rw [h1] at hq'
          have : d = p := by
            have := congrArg List.getLast? hq'
            simpa using this
          rw [if_neg (this ▸ h2), hq]
    · rfl
  · rw [not_or, Classical.not_not] at h
    obtain ⟨l, hl⟩ := Option.ne_none_iff_exists'.mp h.2
    obtain ⟨hz, r, hr⟩ := parF_last _ _ hl
    obtain rfl : r = [] := by have := h.1; rw [hr] at this; simpa using this
    rw [foldC_one hr hl]
    rw [hp] at hr
    have hr : fls (joinF ck es) = [dS l] := hr
    rw [hr]
    rfl
theorem ops_own {ck : Int} {e : Dat} (h : kindOf e = 13 ∨ kindOf e = 12) : opsP ck e = e := by
  unfold opsP turnD
  rcases h with h | h
  · rw [if_pos h]
  · rw [if_neg (by omega), if_neg (by omega), if_pos h]
theorem first_eq {ck : Int} {e : Dat} (h : Lj e) : firstD ck e = (firstJ e).map (opsP ck) := by
  cases h with
  | cat e1 hne hj hk =>
    rename_i ps
    subst e1
    show ps = ps.map (opsP ck)
    conv => lhs; rw [← List.map_id ps]
    exact List.map_congr_left fun d hd => (ops_own (hk d hd)).symm
  | one hj hc => rw [first_one hc, firstJ_one hc]; rfl
theorem first_fold (ck : Int) (ds : List Dat) : firstD ck (foldC ds) = (parF ds).1 := by
  by_cases h : (parF ds).1.length ≠ 1 ∨ (parF ds).2 = none
  · rw [foldC_many h]; rfl
  · rw [not_or, Classical.not_not] at h
    obtain ⟨l, hl⟩ := Option.ne_none_iff_exists'.mp h.2
    obtain ⟨hz, r, hr⟩ := parF_last _ _ hl
    obtain rfl : r = [] := by have := h.1; rw [hr] at this; simpa using this
    rw [foldC_one hr hl, hr]
    rfl
theorem foldC_par {ds ds' : List Dat} (h : parF ds = parF ds') : foldC ds = foldC ds' := by unfold foldC; rw [h]
theorem fold_step (ck : Int) (ds : List Dat) (e : Dat) : bindC ck (foldC ds) e = foldC (ds ++ [opsP ck e]) := by
  unfold bindC
  rw [first_fold]
  exact foldC_par (by rw [parF_snoc, parF_snoc, parF_idem])
theorem chain (ck : Int) {e0 : Dat} (h : Lj e0) : ∀ es, es ≠ [] → es.foldl (bindC ck) e0 = foldC ((firstJ e0 ++ es).map (opsP ck)) := by
  refine snoc_ind (fun h => absurd rfl h) fun es e ih _ => ?_
  rw [List.foldl_append]
  show bindC ck (es.foldl (bindC ck) e0) e = _
  cases es with
  | nil =>
    show bindC ck e0 e = _
    unfold bindC
    rw [first_eq h, List.map_append]
    rfl
  | cons a r =>
    rw [ih (fun h => nomatch h), fold_step, ← List.append_assoc, List.map_append (l₂ := [e])]
    rfl
/-- the law -/
theorem law_eq (ck : Int) {e0 : Dat} (h : Lj e0) {es : List Dat} (hne : es ≠ []) (hj : ∀ e ∈ firstJ e0 ++ es, Jo e) : es.foldl (bindC ck) e0 = joinD ck e0 es := by
  rw [chain ck h es hne]
  exact foldC_join ck _ hj

/-! Pl4 -/
def Tx (s : Str) : Prop := s.length ≤ 3 ∧ PyData.strOk s = true
structure LawOp (e : Dat) : Prop where
  jo : Jo e
  lj : Lj e
  ok : kqdOk 5 e = true
  sz : wjs (firstJ e) ≤ 3 ∧ (firstJ e).length ≤ 2 ∧ wj e ≤ 3
theorem tx_hd {c k : Int} {r : List Dat} (h : k ≠ 14) : txj (.tuple (.int c :: .int k :: r)) = txtOf (.tuple (.int c :: .int k :: r)) := by unfold txj; exact if_neg h
theorem wjs_one (e : Dat) : wjs [e] = wj e := by unfold wjs; simp
theorem law_one {e : Dat} (hj : Jo e) (hc : ∀ c r, e = .tuple (.int c :: r) → c ≠ 26) (hw : wj e ≤ 3) (ho : kqdOk 5 e = true) : LawOp e :=
  ⟨hj, .one hj hc, ho, by rw [firstJ_one hc, wjs_one]; exact hw, by rw [firstJ_one hc]; show 1 ≤ 2; omega, hw⟩
theorem jo_txt (s : Str) : Jo (.tuple [.int 1, .int 13, .str s]) := ⟨⟨⟨_, _, _, rfl, by decide⟩, fun _ => .txt s⟩, fun h => absurd h (by decide : ¬ (13 : Int) = 14)⟩
theorem jo_loc {k v : Int} (hk : k ∈ kinds9) (h : k ≠ 14) : Jo (.tuple [.int 2, .int k, .int v]) := ⟨⟨⟨_, _, _, rfl, hk⟩, fun _ => .oth (by decide)⟩, fun e => absurd e h⟩
theorem wj_loc {k v : Int} (h : k ≠ 14) : wj (.tuple [.int 2, .int k, .int v]) = 0 := by
  unfold wj
  rw [tx_hd h, txt_oth (by decide)]
theorem ne26 {c k : Int} {r : List Dat} (h : c ≠ 26) : ∀ c' r', Dat.tuple (.int c :: .int k :: r) = .tuple (.int c' :: r') → c' ≠ 26 := by
  intro c' r' e
  simp only [Dat.tuple.injEq, List.cons.injEq, Dat.int.injEq] at e
  rw [← e.1]; exact h
theorem ok_txt {s : Str} (h : Tx s) : kqdOk 3 (.tuple [.int 1, .int 13, .str s]) = true := by simp [kqdOk, h.2]
theorem law_txt {s : Str} (h : Tx s) : LawOp (.tuple [.int 1, .int 13, .str s]) := law_one (jo_txt s) (ne26 (by decide)) h.1 (by simp [kqdOk, h.2])
theorem law_emp : LawOp (.tuple [.int 1, .int 13, .none]) := law_one ⟨⟨⟨_, _, _, rfl, by decide⟩, fun _ => .nul⟩, fun h => absurd h (by decide : ¬ (13 : Int) = 14)⟩ (ne26 (by decide)) (by decide) rfl
theorem law_nul : LawOp (.tuple [.int 1, .int 14, .none]) := law_one ⟨⟨⟨_, _, _, rfl, by decide⟩, fun h => absurd h (by decide : ¬ ((14 : Int) = 13 ∨ (14 : Int) = 12))⟩, fun _ => rfl⟩ (ne26 (by decide)) (by decide) rfl
theorem law_num {k v : Int} (h : k = 7 ∨ k = 2 ∨ k = 1) : LawOp (.tuple [.int 1, .int k, .int v]) := by
  refine law_one ⟨⟨⟨_, _, _, rfl, by rcases h with rfl | rfl | rfl <;> decide⟩, fun e => ?_⟩, fun e => ?_⟩ (ne26 (by decide)) ?_ rfl
  · have e : k = 13 ∨ k = 12 := e
    omega
  · have e : k = 14 := e
    omega
  · unfold wj
    rw [tx_hd (by omega)]
    have : txtOf (.tuple [.int 1, .int k, .int v]) = none := by rcases h with rfl | rfl | rfl <;> rfl
    rw [this]
    exact Nat.zero_le _
theorem law_loc {k v : Int} (hk : k ∈ kinds9) (h : k ≠ 14) : LawOp (.tuple [.int 2, .int k, .int v]) := law_one (jo_loc hk h) (ne26 (by decide)) (by rw [wj_loc h]; omega) rfl
theorem law_cat {a b : Dat} (ha : Jo a) (hb : Jo b) (ka : kindOf a = 13 ∨ kindOf a = 12) (kb : kindOf b = 13 ∨ kindOf b = 12) (hw : wj a + wj b ≤ 3) (oa : kqdOk 3 a = true) (ob : kqdOk 3 b = true) : LawOp (.tuple [.int 26, .int 13, .tuple [a, b]]) := by
  refine ⟨⟨⟨⟨_, _, _, rfl, by decide⟩, fun _ => .oth (by decide)⟩, fun h => absurd h (by decide : ¬ (13 : Int) = 14)⟩, .cat rfl (fun h => nomatch h) ?_ ?_, by simp [kqdOk, oa, ob], ?_, by show 2 ≤ 2; omega, ?_⟩
  · intro d hd
    rcases List.mem_cons.mp hd with rfl | hd
    · exact ha
    · rw [List.mem_singleton.mp hd]; exact hb
  · intro d hd
    rcases List.mem_cons.mp hd with rfl | hd
    · exact ka
    · rw [List.mem_singleton.mp hd]; exact kb
  · show wjs [a, b] ≤ 3
    unfold wjs
    simpa using hw
  · show wj _ ≤ 3
    unfold wj
    rw [tx_hd (by decide), txt_oth (by decide)]
    exact Nat.zero_le _

/-! Pl5 -/
/-! what the loop over a row keeps -/
theorem parF_part : ∀ ds, (∀ d ∈ ds, Part d) → ∀ d ∈ (parF ds).1, Part d := by
  refine snoc_ind (fun _ _ h => nomatch h) fun ds e ih hp => ?_
  have ih := ih fun d hd => hp d (List.mem_append.mpr (.inl hd))
  have he := hp e (List.mem_append.mpr (.inr (.head _)))
  rw [parF_snoc]
  cases ht : txtOf e with
  | none =>
    rw [stp_none ht]
    intro d hd
    rcases List.mem_append.mp hd with hd | hd
    · exact ih d hd
    · rw [List.mem_singleton.mp hd]; exact he
  | some t =>
    cases hl : (parF ds).2 with
    | none =>
      rw [stp_new ht hl]
      intro d hd
      rcases List.mem_append.mp hd with hd | hd
      · exact ih d hd
      · rw [List.mem_singleton.mp hd]; exact .txt _
    | some l =>
      rw [stp_cat ht hl]
      intro d hd
      rcases List.mem_append.mp hd with hd | hd
      · exact ih d ((List.dropLast_sublist _).subset hd)
      · rw [List.mem_singleton.mp hd]; exact .txt _
theorem parF_ne (ds : List Dat) (e : Dat) : (parF (ds ++ [e])).1 ≠ [] := by
  rw [parF_snoc]
  unfold stp
  cases txtOf e with
  | none => simp
  | some t =>
    cases (parF ds).2 with
    | none => simp
    | some l => simp
theorem tw_dS (s : Str) : tw (dS s) = s.length := rfl
theorem tws_par : ∀ ds, tws (parF ds).1 ≤ tws ds := by
  refine snoc_ind (Nat.le_refl _) fun ds e ih => ?_
  rw [parF_snoc, tws_snoc]
  cases ht : txtOf e with
  | none =>
    rw [stp_none ht, tws_snoc]
    omega
  | some t =>
    have hw : tw e = t.length := by unfold tw; rw [ht]
    cases hl : (parF ds).2 with
    | none =>
      rw [stp_new ht hl, tws_snoc, tw_dS]
      omega
    | some l =>
      obtain ⟨_, r, hr⟩ := parF_last _ _ hl
      rw [stp_cat ht hl, tws_snoc, tw_dS, str_len]
      rw [hr, tws_snoc, tw_dS] at ih
      rw [hr, List.dropLast_concat]
      omega
structure Goes (ck : Int) (l : Dat) (B : Nat) : Prop where
  lt : Lt ck l
  tw : tws (firstD ck l) ≤ B
  ln : (firstD ck l).length ≤ B
theorem ops_tw {ck : Int} {e : Dat} (h : Jo e) : tw (opsP ck e) = wj e := by
  unfold tw wj
  rw [txt_ops (h.is ck)]
  all_goals (cases txj e <;> rfl)
theorem ops_tws {ck : Int} {es : List Dat} (h : ∀ e ∈ es, Jo e) : tws (es.map (opsP ck)) = wjs es := by
  unfold tws wjs
  rw [List.map_map]
  exact congrArg List.sum (List.map_congr_left fun e he => ops_tw (h e he))
theorem Lj.all {e : Dat} (h : Lj e) : ∀ d ∈ firstJ e, Jo d := by
  cases h with
  | cat e1 hne hj hk => subst e1; exact hj
  | one hj hc => rw [firstJ_one hc]; intro d hd; rw [List.mem_singleton.mp hd]; exact hj
theorem goes_0 {ck : Int} {e : Dat} (h : LawOp e) : Goes ck e 3 := by
  refine ⟨?_, ?_, ?_⟩
  · cases h.lj with
    | cat e1 hne hj hk => exact .cat e1 hne fun d hd => (hj d hd).op.pt (hk d hd)
    | one hj hc => exact .one hj.op hc
  · rw [first_eq h.lj, ops_tws h.lj.all]; exact h.sz.1
  · rw [first_eq h.lj, List.length_map]; have := h.sz.2.1; omega
theorem Lt.parts {ck : Int} {l : Dat} (h : Lt ck l) : ∀ d ∈ firstD ck l, Part d := by
  cases h with
  | cat e hne hp => subst e; exact hp
  | one ho hc => rw [first_one hc]; intro d hd; rw [List.mem_singleton.mp hd]; exact ho.part
theorem op_dS (s : Str) : Op (dS s) := ⟨⟨_, _, _, rfl, by decide⟩, fun _ => .txt s⟩
theorem goes_s {ck : Int} {l r : Dat} {B : Nat} (h : Goes ck l B) (hr : LawOp r) : Goes ck (bindC ck l r) (B + 3) := by
  unfold bindC
  have hp : ∀ d ∈ firstD ck l ++ [opsP ck r], Part d := fun d hd => by
    rcases List.mem_append.mp hd with hd | hd
    · exact h.lt.parts d hd
    · rw [List.mem_singleton.mp hd]; exact hr.jo.op.part
  have h1 := ops_tw (ck := ck) hr.jo
  have h2 := hr.sz.2.2
  have h3 := h.tw
  have h4 := h.ln
  refine ⟨?_, ?_, ?_⟩
  · rcases foldC_cases (firstD ck l ++ [opsP ck r]) with ⟨s, e, _⟩ | e
    · rw [e]; exact .one (op_dS s) fun c q e => by
        have e : Dat.tuple (.int 1 :: .int 13 :: [.str s]) = .tuple (.int c :: q) := e
        simp only [Dat.tuple.injEq, List.cons.injEq, Dat.int.injEq] at e
        rw [← e.1]; decide
    · exact .cat e (parF_ne _ _) (parF_part _ hp)
  · rw [first_fold]
    refine Nat.le_trans (tws_par _) ?_
    rw [tws_snoc]; omega
  · rw [first_fold]
    refine Nat.le_trans (parF_len _) ?_
    rw [List.length_append, List.length_singleton]; omega
theorem goes_i {ck : Int} {e0 : Dat} (h : LawOp e0) {es : List Dat} (hs : ∀ e ∈ es, LawOp e) : ∀ i, i ≤ es.length → Goes ck ((es.take i).foldl (bindC ck) e0) (3 + 3 * i)
  | 0, _ => goes_0 h
  | i + 1, hi => by
    rw [List.take_add_one, List.getElem?_eq_getElem (by omega), List.foldl_append]
    exact goes_s (goes_i h hs i (by omega)) (hs _ (List.getElem_mem _))
theorem take_bind {ck : Int} {e0 e : Dat} {es : List Dat} {i : Nat} (h : es[i]? = some e) : bindC ck ((es.take i).foldl (bindC ck) e0) e = (es.take (i + 1)).foldl (bindC ck) e0 := by
  rw [List.take_add_one, h, List.foldl_append]
  rfl
theorem Goes.room {ck : Int} {l r : Dat} {B : Nat} (h : Goes ck l B) (hr : LawOp r) (hB : B ≤ 100) : tws (firstD ck l ++ [opsP ck r]) ≤ 1000 ∧ (firstD ck l).length ≤ 1000 := by
  have h1 := ops_tw (ck := ck) hr.jo
  have h2 := hr.sz.2.2
  have h3 := h.tw
  have h4 := h.ln
  rw [tws_snoc]
  exact ⟨by omega, by omega⟩
theorem wjs_le {es : List Dat} (h : ∀ e ∈ es, LawOp e) : wjs es ≤ 3 * es.length := by
  induction es with
  | nil => exact Nat.le_refl _
  | cons e r ih =>
    have h1 := ih fun d hd => h d (.tail _ hd)
    have h2 := (h e (.head _)).sz.2.2
    unfold wjs at h1 ⊢
    rw [List.map_cons, List.sum_cons, List.length_cons]
    omega
theorem wjs_app (a b : List Dat) : wjs (a ++ b) = wjs a + wjs b := by unfold wjs; rw [List.map_append, List.sum_append_nat]
theorem row_room {e0 : Dat} {es : List Dat} (h : LawOp e0) (hs : ∀ e ∈ es, LawOp e) (hz : es.length ≤ 100) : wjs (firstJ e0 ++ es) ≤ 1000 ∧ (firstJ e0 ++ es).length ≤ 1000 := by
  have h1 := h.sz.1
  have h2 := h.sz.2.1
  have h3 := wjs_le hs
  rw [wjs_app, List.length_append]
  exact ⟨by omega, by omega⟩
theorem row_jo {e0 : Dat} {es : List Dat} (h : LawOp e0) (hs : ∀ e ∈ es, LawOp e) : ∀ e ∈ firstJ e0 ++ es, Jo e := fun e he => by
  rcases List.mem_append.mp he with he | he
  · exact h.lj.all e he
  · exact (hs e he).jo
/-! what the law's reading looks like: texts of good letters -/
theorem kqd_up : ∀ (n : Nat) (d : Dat), kqdOk n d = true → kqdOk (n + 1) d = true
  | n, .none, _ => by cases n <;> rfl
  | n, .int _, _ => by cases n <;> rfl
  | n, .str x, h => by cases n <;> simpa [kqdOk] using h
  | 0, .tuple _, h => by simp [kqdOk] at h
  | 0, .list _, h => by simp [kqdOk] at h
  | 0, .bool _, h => by simp [kqdOk] at h
  | n + 1, .bool _, h => by simp [kqdOk] at h
  | 0, .bytes _, h => by simp [kqdOk] at h
  | n + 1, .bytes _, h => by simp [kqdOk] at h
  | n + 1, .tuple ds, h => by
    rw [kqdOk, List.all_eq_true] at h ⊢
    exact fun d hd => kqd_up n d (h d hd)
  | n + 1, .list ds, h => by
    rw [kqdOk, List.all_eq_true] at h ⊢
    exact fun d hd => kqd_up n d (h d hd)
theorem kqd_le {n m : Nat} (h : n ≤ m) {d : Dat} (hk : kqdOk n d = true) : kqdOk m d = true := by
  induction h with
  | refl => exact hk
  | step _ ih => exact kqd_up _ _ ih
theorem strOk_app {x y : Str} (hx : PyData.strOk x = true) (hy : PyData.strOk y = true) : PyData.strOk (x ++ y) = true := by
  unfold PyData.strOk at *
  rw [PySem.Str.cps_append, Array.all_append, hx, hy]; rfl
theorem strOk_eps : PyData.strOk eps = true := by decide +kernel
theorem kqd_txt {n : Nat} {e : Dat} {s : Str} (hk : kqdOk (n + 1) e = true) (h : txtOf e = some s) : PyData.strOk s = true := by
  unfold txtOf at h
  split at h
  · cases h
    simp [kqdOk] at hk
    first | exact hk | exact hk.2 | exact strOk_eps
  · cases h
    first | exact strOk_eps | (simp [kqdOk] at hk; exact hk)
  · cases h
theorem kqd_txj {n : Nat} {e : Dat} {s : Str} (hk : kqdOk (n + 1) e = true) (h : txj e = some s) : PyData.strOk s = true := by
  unfold txj at h
  split at h
  · cases h; exact strOk_eps
  · exact kqd_txt hk h
theorem kqd_dS {n : Nat} {s : Str} (h : PyData.strOk s = true) : kqdOk (n + 1) (dS s) = true := by
  unfold dS
  cases n <;> simp [kqdOk, h]
theorem kqd_ops {ck : Int} {e : Dat} (hk : kqdOk 5 e = true) : kqdOk 6 (opsP ck e) = true := by
  unfold opsP turnD convD
  split
  · exact kqd_up _ _ hk
  · split
    · exact kqd_dS strOk_eps
    · split
      · exact kqd_up _ _ hk
      · simp [kqdOk, hk]
theorem kqd_fls {r : List Dat × Option Str} (h1 : ∀ d ∈ r.1, kqdOk 6 d = true) (h2 : ∀ s, r.2 = some s → PyData.strOk s = true) : ∀ d ∈ fls r, kqdOk 6 d = true := by
  unfold fls
  split
  · rename_i s hs
    intro d hd
    rcases List.mem_append.mp hd with hd | hd
    · exact h1 d hd
    · rw [List.mem_singleton.mp hd]; exact kqd_dS (h2 s hs)
  · exact h1
theorem kqd_join {ck : Int} : ∀ es, (∀ e ∈ es, kqdOk 5 e = true) → (∀ d ∈ (joinF ck es).1, kqdOk 6 d = true) ∧ ∀ s, (joinF ck es).2 = some s → PyData.strOk s = true := by
  refine snoc_ind (P := fun es => (∀ e ∈ es, kqdOk 5 e = true) → (∀ d ∈ (joinF ck es).1, kqdOk 6 d = true) ∧ ∀ s, (joinF ck es).2 = some s → PyData.strOk s = true) (fun _ => ⟨(fun d h => nomatch h), (fun s h => nomatch h)⟩) fun es e ih hk => ?_
  obtain ⟨i1, i2⟩ := ih fun d hd => hk d (List.mem_append.mpr (.inl hd))
  have he := hk e (List.mem_append.mpr (.inr (.head _)))
  rw [joinF_snoc]
  cases ht : txj e with
  | none =>
    rw [stpJ_oth ht]
    refine ⟨fun d hd => ?_, fun _ h => nomatch h⟩
    rcases List.mem_append.mp hd with hd | hd
    · exact kqd_fls i1 i2 d hd
    · rw [List.mem_singleton.mp hd]; exact kqd_ops he
  | some t =>
    rw [stpJ_txt ht]
    refine ⟨i1, fun s hs => ?_⟩
    cases hs
    refine strOk_app ?_ (kqd_txj he ht)
    cases hr : (joinF ck es).2 with
    | none => exact strOk_eps
    | some s' => exact i2 s' hr
theorem kqd_first {e : Dat} (h : kqdOk 5 e = true) : ∀ d ∈ firstJ e, kqdOk 5 d = true := by
  unfold firstJ
  split
  · intro d hd
    simp [kqdOk] at h
    exact kqd_up _ _ (kqd_up _ _ (h.2 d hd))
  · intro d hd
    rw [List.mem_singleton.mp hd]; exact h
theorem row_ok {ck : Int} {e0 : Dat} {es : List Dat} (h : LawOp e0) (hs : ∀ e ∈ es, LawOp e) : kqdOk 8 (joinD ck e0 es) = true := by
  have hk : ∀ d ∈ fls (joinF ck (firstJ e0 ++ es)), kqdOk 6 d = true := by
    obtain ⟨h1, h2⟩ := kqd_join (ck := ck) (firstJ e0 ++ es) fun d hd => by
      rcases List.mem_append.mp hd with hd | hd
      · exact kqd_first h.ok d hd
      · exact (hs d hd).ok
    exact kqd_fls h1 h2
  unfold joinD joinC
  split
  · rename_i p hp
    rw [hp] at hk
    have := hk p (.head _)
    split
    · exact kqd_le (by omega) this
    · simp [kqdOk, this]
  · simp only [kqdOk, List.all_cons, List.all_nil, Bool.and_true, Bool.true_and]
    rw [List.all_eq_true]
    exact hk

/-! Hd -/
noncomputable abbrev pw : Program := PySem.Challenge.pw_sj0001_01
noncomputable abbrev TT := Fast.tw14364793385576792824
noncomputable abbrev TG := Fast.tw15667345088766844465
noncomputable abbrev TR := Fast.tw14082659384304107361
noncomputable abbrev TS := Fast.tw14374325043358763698
noncomputable abbrev TST := Fast.tw10110043849684766642
noncomputable abbrev TD := Fast.tw11892475500146522536
theorem tTab : treeTable = TT := Fast.te14364793385576792824
theorem tGo : @topGo = TG := Fast.te15667345088766844465
theorem tRun : @topRun = TR := Fast.te14082659384304107361
theorem tSeg : @segRun = TS := Fast.te14374325043358763698
theorem tSegT : @segRunT = TST := Fast.te10110043849684766642
theorem tDen : @denote = TD := Fast.te11892475500146522536
noncomputable def nth : List Stmt → Nat → Stmt
  | [], _ => .Pass ⟨0, 0, 0, 0⟩
  | s :: _, 0 => s
  | _ :: r, n + 1 => nth r n
noncomputable def inC : Stmt → List Stmt
  | .ClassDef _ _ _ b _ _ _ _ _ _ _ => b
  | _ => []
noncomputable def tS (i : Nat) : Stmt := nth pw.main.body i
noncomputable def mS (i j : Nat) : Stmt := nth (inC (tS i)) j
noncomputable def fd (st : Stmt) (qual : Str) (g : Addr) (dV kV doc pm : Value) (an : Option Addr) (cd ct : Value) : Data := match st with
  | .FunctionDef name args body _ _ _ scope _ _ _ => .func ⟨name, qual, args, .stmts body, scope, g, [], dV, kV, doc, pm, an, cd, ct, 0⟩
  | _ => .plain
noncomputable abbrev ke (P : Params) (s : Str) (t : Nat) (v : Value) : DictEntry := ⟨PyData.keyHash P s, .str s t, v⟩
noncomputable abbrev L (o : Obj) : BT := .node o .nil .nil
noncomputable def eB : Env := { scope := pw.main.scope, locals := mainNs, globals := mainNs, cells := [], code := .ref 13, frame := some 14 }
noncomputable abbrev cB : Code := .body (behindTheImports pw) eB
noncomputable abbrev fB : List Frame := [topFrame ⟨0, 0, 0, 0⟩]
noncomputable abbrev ann : Option Value := some (.ref 6)
noncomputable def cutB (a b : Nat) : List Stmt := ((behindTheImports pw).drop a).take b
noncomputable abbrev sT (m k : Nat) (t : Params → BT) (w : World) (os : OsState) : SharedT := ⟨t w.params, m, {}, .mk [], {}, k, os⟩
noncomputable abbrev Pc (a b n m k : Nat) (t : Params → BT) (ps : Pos) (m' k' : Nat) (t' : Params → BT) (ps' : Pos) (w : World) : Prop :=
  (fun os => TST TT pw w 11 ann 1 n (sT m k t w os) (piecesOf (cutB a b) eB cB ps fB)) = fun os => some (.next, sT m' k' t' w os, cB, ps')
theorem at_ {a b n m k : Nat} {t : Params → BT} {ps : Pos} {m' k' : Nat} {t' : Params → BT} {ps' : Pos} (h : ∀ w, Pc a b n m k t ps m' k' t' ps' w) (w : World) (os : OsState) :
    segRun treeTable pw w 11 ann 1 n (sT m k t w os).abs (piecesOf (cutB a b) eB cB ps fB) = some (.next, (sT m' k' t' w os).abs, cB, ps') :=
  segRun_of (by rw [tSegT, tTab]; exact congrFun (h w) os)
noncomputable def o0 : Obj := ⟨(.type "tuple"), none, (.seq (.mk []) 0), .mk []⟩
noncomputable def o1 : Obj := ⟨.none, none, (.fields (.mk [])), .mk []⟩
noncomputable def o2 : Obj := ⟨(.type "code"), none, (.fields (.mk [(.str "<module>" 182), (.str "<module>" 183), (.str "/claim/cut.py" 184), (.int 1 0), (.int 0 0), (.int 0 0), (.int 0 0), (.int 0 0), (.ref 11), (.bool false), (.int 181 0), (.ref 12), .none, .none, .none, .none, (.int 185 0), (.int 1 0), (.str "/claim/cut.py" 186)])), .mk []⟩
noncomputable def o3 : Obj := ⟨(.type "frame"), none, .plain, .mk [(some (.ref 13)), (some (.ref 3)), (some (.ref 3)), none, (some (.str "__main__" 164)), none, (some (.ref 0))]⟩
noncomputable def hA (P : Params) : Heap := ⟨Array.mk [(boot_o_0 P), (boot_o_1 P), (boot_o_2 P), (boot_o_3 P), (boot_o_4 P), (boot_o_5 P), (boot_o_6 P), (boot_o_7 P), (boot_o_8 P), (boot_o_9 P), (boot_o_10 P), o0, o1, o2, o3], {}⟩
noncomputable def t0 (P : Params) : BT := (.node (boot_o_0 P) (.node (boot_o_1 P) (.node (boot_o_3 P) (L (boot_o_7 P)) (L o0)) (.node (boot_o_5 P) (L (boot_o_9 P)) (L o2))) (.node (boot_o_2 P) (.node (boot_o_4 P) (L (boot_o_8 P)) (L o1)) (.node (boot_o_6 P) (L (boot_o_10 P)) (L o3))))
theorem pre (w : World) : (fun os => TG TT pw w 11 ann 12 ⟨boot_heap w.params, Array.mk [], boot_drawn, boot_toks, os⟩ (topStub pw)) = fun os => some (⟨hA w.params, Array.mk [], {}, 187, os⟩, ⟨TD TT cB, cB, ⟨0, 0, 0, 0⟩, fB⟩) := by kernel_rfl
theorem preO (w : World) (os : OsState) : topGo treeTable pw w 11 ann 12 ⟨boot_heap w.params, Array.mk [], boot_drawn, boot_toks, os⟩ (topStub pw) = some (⟨hA w.params, Array.mk [], {}, 187, os⟩, ⟨denote treeTable cB, cB, ⟨0, 0, 0, 0⟩, fB⟩) := by rw [tGo, tTab, tDen]; exact congrFun (pre w) os
theorem blk (w : World) : (fun os => TS TT pw w 11 ann 1 1 ⟨hA w.params, Array.mk [], {}, 187, os⟩ (blockOf (behindTheImports pw) eB cB ⟨0, 0, 0, 0⟩ fB)) = fun os => some (.next, (sT 15 187 t0 w os).abs, cB, ⟨0, 0, 0, 0⟩) := by kernel_rfl
theorem blkO (w : World) (os : OsState) : segRun treeTable pw w 11 ann 1 1 ⟨hA w.params, Array.mk [], {}, 187, os⟩ (blockOf (behindTheImports pw) eB cB ⟨0, 0, 0, 0⟩ fB) = some (.next, (sT 15 187 t0 w os).abs, cB, ⟨0, 0, 0, 0⟩) := by rw [tSeg, tTab]; exact congrFun (blk w) os
noncomputable def o4 (P : Params) : Obj := ⟨.none, none, (.dict (.mk [ke P "type.__subclasses__.Exception.0" 223 (.int 38 0), ke P "type.__subclasses__.Exception.n" 224 (.int 1 0)]) 2), .mk []⟩
noncomputable def o5 (P : Params) : Obj := ⟨(.type "dict"), none, (.dict (.mk [ke P "__name__" 165 (.str "framerune.faults" 194), ke P "__doc__" 166 .none, ke P "__package__" 167 .none, ke P "__loader__" 168 (.builtin "__main__.__loader__#opaque"), ke P "__spec__" 169 .none, ke P "__annotations__" 170 (.ref 6), ke P "__builtins__" 171 (.ref 4), ke P "__file__" 173 (.str "/claim/cut.py" 172), ke P "__cached__" 174 .none, ke P "_wall" 193 (.ref 21), ke P "RuneError" 226 (.ref 38)]) 11), .mk []⟩
noncomputable def o6 : Obj := ⟨.none, none, (.fields (.mk [(.int 1 0), (.int 0 0), (.ref 20), (.int 5 0), (.int 0 0), (.ref 27)])), .mk []⟩
noncomputable def o7 : Obj := ⟨(.type "tuple"), none, (.seq (.mk [(.str "k" 190)]) 0), .mk []⟩
noncomputable def o8 : Obj := ⟨.none, none, (fd (tS 0) "_wall" 0 .none .none .none .none none .none .none), .mk []⟩
noncomputable def o9 : Obj := ⟨(.type "code"), none, (.fields (.mk [(.str "_wall" 187), (.str "_wall" 188), (.str "/claim/cut.py" 189), (.int 1 0), (.int 1 0), (.int 0 0), (.int 0 0), (.int 3 0), (.ref 15), (.bool true), (.int 181 0), (.ref 16), .none, (.ref 17), (.ref 18), (.ref 19), (.int 191 0), (.int 1 0), (.str "/claim/cut.py" 192)])), .mk []⟩
noncomputable def o10 : Obj := ⟨(.type "function"), none, (fd (tS 0) "_wall" 3 .none .none .none (.str "__main__" 164) none (.ref 20) .none), .mk []⟩
noncomputable def o11 : Obj := ⟨(.type "tuple"), none, (.seq (.mk [(.type "Exception")]) 0), .mk []⟩
noncomputable def o12 : Obj := ⟨(.type "builtin_function_or_method"), none, (.fields (.mk [(.builtin "type.__prepare__"), (.type "type")])), .mk []⟩
noncomputable def o13 (P : Params) : Obj := ⟨(.type "dict"), none, (.dict (.mk [ke P "__module__" 203 (.str "framerune.faults" 194), ke P "__qualname__" 205 (.str "RuneError" 204), ke P "__firstlineno__" 207 (.int 5 206), ke P "__init__" 216 (.ref 35), ke P "__static_attributes__" 219 (.ref 36)]) 5), .mk []⟩
noncomputable def o14 : Obj := ⟨.none, none, (.fields (.mk [(.int 7 0), (.int 4 0), (.ref 34)])), .mk []⟩
noncomputable def o15 : Obj := ⟨(.type "code"), none, (.fields (.mk [(.str "RuneError" 198), (.str "RuneError" 199), (.str "/claim/cut.py" 200), (.int 5 0), (.int 0 0), (.int 0 0), (.int 0 0), (.int 0 0), (.ref 25), (.bool false), (.int 181 0), (.ref 26), .none, .none, .none, .none, (.int 201 0), (.int 5 0), (.str "/claim/cut.py" 202)])), .mk []⟩
noncomputable def o16 : Obj := ⟨(.type "frame"), none, .plain, .mk [(some (.ref 27)), (some (.ref 3)), (some (.ref 24)), none, (some (.str "framerune.faults" 194)), none, (some (.ref 0))]⟩
noncomputable def o17 : Obj := ⟨(.type "tuple"), none, (.seq (.mk [(.str "self" 211), (.str "code" 212), (.str "at" 213)]) 0), .mk []⟩
noncomputable def o18 : Obj := ⟨.none, none, (fd (mS 2 0) "RuneError.__init__" 0 .none .none .none .none none .none .none), .mk []⟩
noncomputable def o19 : Obj := ⟨(.type "code"), none, (.fields (.mk [(.str "__init__" 208), (.str "RuneError.__init__" 209), (.str "/claim/cut.py" 210), (.int 7 0), (.int 3 0), (.int 0 0), (.int 0 0), (.int 3 0), (.ref 29), (.bool true), (.int 181 0), (.ref 30), .none, (.ref 31), (.ref 32), (.ref 33), (.int 214 0), (.int 7 0), (.str "/claim/cut.py" 215)])), .mk []⟩
noncomputable def o20 : Obj := ⟨(.type "function"), none, (fd (mS 2 0) "RuneError.__init__" 3 .none .none .none (.str "framerune.faults" 194) none (.ref 34) .none), .mk []⟩
noncomputable def o21 : Obj := ⟨(.type "tuple"), none, (.seq (.mk [(.str "at" 217), (.str "code" 218)]) 0), .mk []⟩
noncomputable def o22 (P : Params) : Obj := ⟨(.type "dict"), none, (.dict (.mk [ke P "__module__" 203 (.str "framerune.faults" 194), ke P "__firstlineno__" 207 (.int 5 206), ke P "__init__" 216 (.ref 35), ke P "__static_attributes__" 219 (.ref 36), ke P "__weakref__" 221 (.ref 39), ke P "__doc__" 222 .none]) 3), .mk []⟩
noncomputable def o23 : Obj := ⟨(.type "type"), none, (.cls ⟨"RuneError", [(.type "Exception")], [(.ref 38), (.type "Exception"), (.type "BaseException"), (.type "object")], 37, "RuneError", true, [], [], false, none, false⟩), .mk [(some (.ref 22)), none, (some (.str "RuneError" 196)), (some (.str "RuneError" 204)), (some (.builtin "Exception.__new__")), (some (.bool true))]⟩
noncomputable def o24 : Obj := ⟨(.type "getset_descriptor"), none, (.fields (.mk [(.str "__weakref__" 220), (.ref 38), (.builtin "ExceptionGroup.__weakref__"), .none])), .mk []⟩
noncomputable def o25 : Obj := ⟨(.type "super"), none, (.fields (.mk [(.ref 38), (.ref 38), (.ref 38)])), .mk []⟩
noncomputable def o26 : Obj := ⟨(.type "builtin_function_or_method"), none, (.fields (.mk [(.builtin "object.__init_subclass__"), (.ref 38)])), .mk []⟩
noncomputable def t1 (P : Params) : BT := (.node (boot_o_0 P) (.node (boot_o_1 P) (.node (o5 P) (.node (boot_o_7 P) (.node o0 (L o17) .nil) (.node o12 (L o24) .nil)) (.node o0 (.node o8 (L o20) .nil) (L o15))) (.node (boot_o_5 P) (.node (boot_o_9 P) (.node o7 (L o18) .nil) (.node o0 (L o26) .nil)) (.node o2 (.node o10 (L (o22 P)) .nil) (L o0)))) (.node (o4 P) (.node (boot_o_4 P) (.node (boot_o_8 P) (.node o1 (L o0) .nil) (.node (o13 P) (L o25) .nil)) (.node o6 (.node o9 (L o21) .nil) (L o16))) (.node (boot_o_6 P) (.node (boot_o_10 P) (.node o0 (L o19) .nil) (L o14)) (.node o3 (.node o11 (L o23) .nil) (L o1)))))
theorem p1 (w : World) : Pc 0 3 269 15 187 t0 ⟨0, 0, 0, 0⟩ 42 227 t1 ⟨5, 0, 9, 20⟩ w := by kernel_rfl
noncomputable def e0 (P : Params) : DictEntry := ke P "__name__" 165 (.str "framerune.kinds" 243)
noncomputable def e1 (P : Params) : DictEntry := ke P "__doc__" 166 .none
noncomputable def e2 (P : Params) : DictEntry := ke P "__package__" 167 .none
noncomputable def e3 (P : Params) : DictEntry := ke P "__loader__" 168 (.builtin "__main__.__loader__#opaque")
noncomputable def e4 (P : Params) : DictEntry := ke P "__spec__" 169 .none
noncomputable def e5 (P : Params) : DictEntry := ke P "__annotations__" 170 (.ref 6)
noncomputable def e6 (P : Params) : DictEntry := ke P "__builtins__" 171 (.ref 4)
noncomputable def e7 (P : Params) : DictEntry := ke P "__file__" 173 (.str "/claim/cut.py" 172)
noncomputable def e8 (P : Params) : DictEntry := ke P "__cached__" 174 .none
noncomputable def e9 (P : Params) : DictEntry := ke P "_wall" 193 (.ref 21)
noncomputable def e10 (P : Params) : DictEntry := ke P "RuneError" 226 (.ref 38)
noncomputable def e11 (P : Params) : DictEntry := ke P "BadKind" 242 (.ref 51)
noncomputable def e12 (P : Params) : DictEntry := ke P "VOID" 246 (.int 0 245)
noncomputable def e13 (P : Params) : DictEntry := ke P "BOOL" 248 (.int 1 247)
noncomputable def e14 (P : Params) : DictEntry := ke P "CHAR" 250 (.int 2 249)
noncomputable def e15 (P : Params) : DictEntry := ke P "I1" 252 (.int 3 251)
noncomputable def e16 (P : Params) : DictEntry := ke P "U1" 254 (.int 4 253)
noncomputable def e17 (P : Params) : DictEntry := ke P "I2" 256 (.int 5 255)
noncomputable def e18 (P : Params) : DictEntry := ke P "U2" 258 (.int 6 257)
noncomputable def e19 (P : Params) : DictEntry := ke P "I4" 260 (.int 7 259)
noncomputable def e20 (P : Params) : DictEntry := ke P "U4" 262 (.int 8 261)
noncomputable def e21 (P : Params) : DictEntry := ke P "I8" 264 (.int 9 263)
noncomputable def e22 (P : Params) : DictEntry := ke P "U8" 266 (.int 10 265)
noncomputable def e23 (P : Params) : DictEntry := ke P "NINT" 268 (.int 11 267)
noncomputable def e24 (P : Params) : DictEntry := ke P "OBJECT" 270 (.int 12 269)
noncomputable def e25 (P : Params) : DictEntry := ke P "STRING" 272 (.int 13 271)
noncomputable def e26 (P : Params) : DictEntry := ke P "NULLK" 274 (.int 14 273)
noncomputable def e27 (P : Params) : DictEntry := ke P "BAD" 276 (.int 15 275)
noncomputable def e28 (P : Params) : DictEntry := ke P "PRIM_END" 278 (.int 16 277)
noncomputable def e29 (P : Params) : DictEntry := ke P "R_PRIM" 280 (.int 1 279)
noncomputable def e30 (P : Params) : DictEntry := ke P "R_CLASS" 282 (.int 2 281)
noncomputable def o27 (P : Params) : Obj := ⟨(.type "dict"), none, .dict (.mk [e0 P, e1 P, e2 P, e3 P, e4 P, e5 P, e6 P, e7 P, e8 P, e9 P, e10 P, e11 P, e12 P, e13 P, e14 P, e15 P, e16 P, e17 P, e18 P, e19 P, e20 P, e21 P, e22 P, e23 P, e24 P, e25 P, e26 P, e27 P, e28 P, e29 P, e30 P]) 31, .mk []⟩
noncomputable def o28 : Obj := ⟨.none, none, (.fields (.mk [(.int 1 0), (.int 0 0), (.ref 20), (.int 5 0), (.int 0 0), (.ref 27), (.int 10 0), (.int 0 0), (.ref 47)])), .mk []⟩
noncomputable def o29 : Obj := ⟨(.type "type"), none, (.cls ⟨"RuneError", [(.type "Exception")], [(.ref 38), (.type "Exception"), (.type "BaseException"), (.type "object")], 37, "RuneError", true, [], [(.ref 51)], false, none, false⟩), .mk [(some (.ref 22)), none, (some (.str "RuneError" 196)), (some (.str "RuneError" 204)), (some (.builtin "Exception.__new__")), (some (.bool true))]⟩
noncomputable def o30 : Obj := ⟨(.type "tuple"), none, (.seq (.mk [(.ref 38)]) 0), .mk []⟩
noncomputable def o31 (P : Params) : Obj := ⟨(.type "dict"), none, (.dict (.mk [ke P "__module__" 234 (.str "framerune.faults" 194), ke P "__qualname__" 236 (.str "BadKind" 235), ke P "__firstlineno__" 238 (.int 10 237), ke P "__static_attributes__" 239 (.ref 49)]) 4), .mk []⟩
noncomputable def o32 : Obj := ⟨(.type "code"), none, (.fields (.mk [(.str "BadKind" 229), (.str "BadKind" 230), (.str "/claim/cut.py" 231), (.int 10 0), (.int 0 0), (.int 0 0), (.int 0 0), (.int 0 0), (.ref 45), (.bool false), (.int 181 0), (.ref 46), .none, .none, .none, .none, (.int 232 0), (.int 10 0), (.str "/claim/cut.py" 233)])), .mk []⟩
noncomputable def o33 : Obj := ⟨(.type "frame"), none, .plain, .mk [(some (.ref 47)), (some (.ref 3)), (some (.ref 44)), none, (some (.str "framerune.faults" 194)), none, (some (.ref 0))]⟩
noncomputable def o34 (P : Params) : Obj := ⟨(.type "dict"), none, (.dict (.mk [ke P "__module__" 234 (.str "framerune.faults" 194), ke P "__firstlineno__" 238 (.int 10 237), ke P "__static_attributes__" 239 (.ref 49), ke P "__doc__" 240 .none]) 2), .mk []⟩
noncomputable def o35 : Obj := ⟨(.type "type"), none, (.cls ⟨"BadKind", [(.ref 38)], [(.ref 51), (.ref 38), (.type "Exception"), (.type "BaseException"), (.type "object")], 50, "BadKind", true, [], [], false, none, false⟩), .mk [(some (.ref 42)), none, (some (.str "BadKind" 227)), (some (.str "BadKind" 235)), (some (.builtin "Exception.__new__")), (some (.bool true))]⟩
noncomputable def o36 : Obj := ⟨(.type "super"), none, (.fields (.mk [(.ref 51), (.ref 51), (.ref 51)])), .mk []⟩
noncomputable def o37 : Obj := ⟨(.type "builtin_function_or_method"), none, (.fields (.mk [(.builtin "object.__init_subclass__"), (.ref 51)])), .mk []⟩
noncomputable def t2 (P : Params) : BT := (.node (boot_o_0 P) (.node (boot_o_1 P) (.node (o27 P) (.node (boot_o_7 P) (.node o0 (L o17) (L o32)) (.node o12 (L o24) .nil)) (.node o0 (.node o8 (L o20) (L o35)) (.node o15 (L o12) .nil))) (.node (boot_o_5 P) (.node (boot_o_9 P) (.node o7 (L o18) (L o0)) (.node o0 (L o26) .nil)) (.node o2 (.node o10 (L (o22 P)) (L o37)) (.node o0 (L o0) .nil)))) (.node (o4 P) (.node (boot_o_4 P) (.node (boot_o_8 P) (.node o1 (L o0) (L o33)) (.node (o13 P) (L o25) .nil)) (.node o28 (.node o9 (L o21) (L o36)) (.node o16 (L (o31 P)) .nil))) (.node (boot_o_6 P) (.node (boot_o_10 P) (.node o0 (L o19) (L (o34 P))) (.node o14 (L o30) .nil)) (.node o3 (.node o11 (L o29) .nil) (.node o1 (L o1) .nil)))))
theorem p2 (w : World) : Pc 3 21 394 42 227 t1 ⟨5, 0, 9, 20⟩ 54 283 t2 ⟨31, 0, 31, 7⟩ w := by kernel_rfl
noncomputable def e31 (P : Params) : DictEntry := ke P "R_VALUE" 284 (.int 3 283)
noncomputable def e32 (P : Params) : DictEntry := ke P "R_ARRAY" 286 (.int 4 285)
noncomputable def e33 (P : Params) : DictEntry := ke P "R_BYREF" 288 (.int 5 287)
noncomputable def e34 (P : Params) : DictEntry := ke P "R_VAR" 290 (.int 6 289)
noncomputable def e35 (P : Params) : DictEntry := ke P "R_MVAR" 292 (.int 7 291)
noncomputable def e36 (P : Params) : DictEntry := ke P "R_BOXED" 294 (.int 8 293)
noncomputable def e37 (P : Params) : DictEntry := ke P "R_ROREF" 296 (.int 9 295)
noncomputable def e38 (P : Params) : DictEntry := ke P "R_FTN" 298 (.int 10 297)
noncomputable def e39 (P : Params) : DictEntry := ke P "R_RAW" 300 (.int 11 299)
noncomputable def e40 (P : Params) : DictEntry := ke P "DEEPEST_KIND" 302 (.int 24 301)
noncomputable def e41 (P : Params) : DictEntry := ke P "HEAVIEST_KIND" 304 (.int 4096 303)
noncomputable def e42 (P : Params) : DictEntry := ke P "PRIM_TID" 333 (.ref 54)
noncomputable def o38 (P : Params) : Obj := ⟨(.type "dict"), none, .dict (.mk [e0 P, e1 P, e2 P, e3 P, e4 P, e5 P, e6 P, e7 P, e8 P, e9 P, e10 P, e11 P, e12 P, e13 P, e14 P, e15 P, e16 P, e17 P, e18 P, e19 P, e20 P, e21 P, e22 P, e23 P, e24 P, e25 P, e26 P, e27 P, e28 P, e29 P, e30 P, e31 P, e32 P, e33 P, e34 P, e35 P, e36 P, e37 P, e38 P, e39 P, e40 P, e41 P, e42 P]) 43, .mk []⟩
noncomputable def o39 : Obj := ⟨(.type "dict"), none, (.dict (.mk [⟨0, (.int 0 245), (.int 20 305)⟩, ⟨1, (.int 1 247), (.int 9 306)⟩, ⟨2, (.int 2 249), (.int 10 307)⟩, ⟨3, (.int 3 251), (.int 11 308)⟩, ⟨4, (.int 4 253), (.int 12 309)⟩, ⟨5, (.int 5 255), (.int 13 310)⟩, ⟨6, (.int 6 257), (.int 14 311)⟩, ⟨7, (.int 7 259), (.int 15 312)⟩, ⟨8, (.int 8 261), (.int 16 313)⟩, ⟨9, (.int 9 263), (.int 17 314)⟩, ⟨10, (.int 10 265), (.int 18 315)⟩, ⟨11, (.int 11 267), (.int 19 316)⟩, ⟨12, (.int 12 269), (.int 1 317)⟩, ⟨13, (.int 13 271), (.int 4 318)⟩]) 14), .mk []⟩
noncomputable def t3 (P : Params) : BT := (.node (boot_o_0 P) (.node (boot_o_1 P) (.node (o38 P) (.node (boot_o_7 P) (.node o0 (L o17) (L o32)) (.node o12 (L o24) .nil)) (.node o0 (.node o8 (L o20) (L o35)) (.node o15 (L o12) .nil))) (.node (boot_o_5 P) (.node (boot_o_9 P) (.node o7 (L o18) (L o0)) (.node o0 (L o26) .nil)) (.node o2 (.node o10 (L (o22 P)) (L o37)) (.node o0 (L o0) .nil)))) (.node (o4 P) (.node (boot_o_4 P) (.node (boot_o_8 P) (.node o1 (L o0) (L o33)) (.node (o13 P) (L o25) .nil)) (.node o28 (.node o9 (L o21) (L o36)) (.node o16 (L (o31 P)) .nil))) (.node (boot_o_6 P) (.node (boot_o_10 P) (.node o0 (L o19) (L (o34 P))) (.node o14 (L o30) .nil)) (.node o3 (.node o11 (L o29) (L o39)) (.node o1 (L o1) .nil)))))
theorem p3f (w : World) : Pc 24 12 306 54 283 t2 ⟨31, 0, 31, 7⟩ 55 334 t3 ⟨43, 0, 43, 8⟩ (w.withFollow "special-get-raises" false) := by kernel_rfl
theorem p3t (w : World) : Pc 24 12 306 54 283 t2 ⟨31, 0, 31, 7⟩ 55 334 t3 ⟨43, 0, 43, 8⟩ (w.withFollow "special-get-raises" true) := by kernel_rfl
theorem p3 (w : World) : Pc 24 12 306 54 283 t2 ⟨31, 0, 31, 7⟩ 55 334 t3 ⟨43, 0, 43, 8⟩ w := byRow2 "special-get-raises" (P := Pc 24 12 306 54 283 t2 ⟨31, 0, 31, 7⟩ 55 334 t3 ⟨43, 0, 43, 8⟩) p3f p3t w
noncomputable def e43 (P : Params) : DictEntry := ke P "TID_PRIM" 362 (.ref 55)
noncomputable def e44 (P : Params) : DictEntry := ke P "ARRAY_TID" 364 (.int 5 363)
noncomputable def o40 (P : Params) : Obj := ⟨(.type "dict"), none, .dict (.mk [e0 P, e1 P, e2 P, e3 P, e4 P, e5 P, e6 P, e7 P, e8 P, e9 P, e10 P, e11 P, e12 P, e13 P, e14 P, e15 P, e16 P, e17 P, e18 P, e19 P, e20 P, e21 P, e22 P, e23 P, e24 P, e25 P, e26 P, e27 P, e28 P, e29 P, e30 P, e31 P, e32 P, e33 P, e34 P, e35 P, e36 P, e37 P, e38 P, e39 P, e40 P, e41 P, e42 P, e43 P, e44 P]) 45, .mk []⟩
noncomputable def o41 : Obj := ⟨(.type "dict"), none, (.dict (.mk [⟨20, (.int 20 334), (.int 0 245)⟩, ⟨9, (.int 9 335), (.int 1 247)⟩, ⟨10, (.int 10 336), (.int 2 249)⟩, ⟨11, (.int 11 337), (.int 3 251)⟩, ⟨12, (.int 12 338), (.int 4 253)⟩, ⟨13, (.int 13 339), (.int 5 255)⟩, ⟨14, (.int 14 340), (.int 6 257)⟩, ⟨15, (.int 15 341), (.int 7 259)⟩, ⟨16, (.int 16 342), (.int 8 261)⟩, ⟨17, (.int 17 343), (.int 9 263)⟩, ⟨18, (.int 18 344), (.int 10 265)⟩, ⟨19, (.int 19 345), (.int 11 267)⟩, ⟨1, (.int 1 346), (.int 12 269)⟩, ⟨4, (.int 4 347), (.int 13 271)⟩]) 14), .mk []⟩
noncomputable def t4 (P : Params) : BT := (.node (boot_o_0 P) (.node (boot_o_1 P) (.node (o40 P) (.node (boot_o_7 P) (.node o0 (L o17) (L o32)) (.node o12 (L o24) (L o41))) (.node o0 (.node o8 (L o20) (L o35)) (.node o15 (L o12) .nil))) (.node (boot_o_5 P) (.node (boot_o_9 P) (.node o7 (L o18) (L o0)) (.node o0 (L o26) .nil)) (.node o2 (.node o10 (L (o22 P)) (L o37)) (.node o0 (L o0) .nil)))) (.node (o4 P) (.node (boot_o_4 P) (.node (boot_o_8 P) (.node o1 (L o0) (L o33)) (.node (o13 P) (L o25) .nil)) (.node o28 (.node o9 (L o21) (L o36)) (.node o16 (L (o31 P)) .nil))) (.node (boot_o_6 P) (.node (boot_o_10 P) (.node o0 (L o19) (L (o34 P))) (.node o14 (L o30) .nil)) (.node o3 (.node o11 (L o29) (L o39)) (.node o1 (L o1) .nil)))))
theorem p4f (w : World) : Pc 36 2 216 55 334 t3 ⟨43, 0, 43, 8⟩ 56 365 t4 ⟨45, 0, 45, 9⟩ (w.withFollow "special-get-raises" false) := by kernel_rfl
theorem p4t (w : World) : Pc 36 2 216 55 334 t3 ⟨43, 0, 43, 8⟩ 56 365 t4 ⟨45, 0, 45, 9⟩ (w.withFollow "special-get-raises" true) := by kernel_rfl
theorem p4 (w : World) : Pc 36 2 216 55 334 t3 ⟨43, 0, 43, 8⟩ 56 365 t4 ⟨45, 0, 45, 9⟩ w := byRow2 "special-get-raises" (P := Pc 36 2 216 55 334 t3 ⟨43, 0, 43, 8⟩ 56 365 t4 ⟨45, 0, 45, 9⟩) p4f p4t w
noncomputable def e45 (P : Params) : DictEntry := ke P "INT_RANGES" 403 (.ref 56)
noncomputable def o42 (P : Params) : Obj := ⟨(.type "dict"), none, .dict (.mk [e0 P, e1 P, e2 P, e3 P, e4 P, e5 P, e6 P, e7 P, e8 P, e9 P, e10 P, e11 P, e12 P, e13 P, e14 P, e15 P, e16 P, e17 P, e18 P, e19 P, e20 P, e21 P, e22 P, e23 P, e24 P, e25 P, e26 P, e27 P, e28 P, e29 P, e30 P, e31 P, e32 P, e33 P, e34 P, e35 P, e36 P, e37 P, e38 P, e39 P, e40 P, e41 P, e42 P, e43 P, e44 P, e45 P]) 46, .mk []⟩
noncomputable def o43 : Obj := ⟨(.type "dict"), none, (.dict (.mk [⟨1, (.int 1 247), (.ref 57)⟩, ⟨2, (.int 2 249), (.ref 58)⟩, ⟨3, (.int 3 251), (.ref 59)⟩, ⟨4, (.int 4 253), (.ref 60)⟩, ⟨5, (.int 5 255), (.ref 61)⟩, ⟨6, (.int 6 257), (.ref 62)⟩, ⟨7, (.int 7 259), (.ref 63)⟩, ⟨8, (.int 8 261), (.ref 64)⟩, ⟨9, (.int 9 263), (.ref 65)⟩, ⟨10, (.int 10 265), (.ref 66)⟩, ⟨11, (.int 11 267), (.ref 67)⟩]) 11), .mk []⟩
noncomputable def o44 : Obj := ⟨(.type "tuple"), none, (.seq (.mk [(.int 0 365), (.int 255 366)]) 0), .mk []⟩
noncomputable def o45 : Obj := ⟨(.type "tuple"), none, (.seq (.mk [(.int 0 367), (.int 65535 368)]) 0), .mk []⟩
noncomputable def o46 : Obj := ⟨(.type "tuple"), none, (.seq (.mk [(.int (-128) 370), (.int 127 371)]) 0), .mk []⟩
noncomputable def o47 : Obj := ⟨(.type "tuple"), none, (.seq (.mk [(.int 0 372), (.int 255 373)]) 0), .mk []⟩
noncomputable def o48 : Obj := ⟨(.type "tuple"), none, (.seq (.mk [(.int (-32768) 375), (.int 32767 376)]) 0), .mk []⟩
noncomputable def o49 : Obj := ⟨(.type "tuple"), none, (.seq (.mk [(.int 0 377), (.int 65535 378)]) 0), .mk []⟩
noncomputable def o50 : Obj := ⟨(.type "tuple"), none, (.seq (.mk [(.int (-2147483648) 380), (.int 2147483647 381)]) 0), .mk []⟩
noncomputable def o51 : Obj := ⟨(.type "tuple"), none, (.seq (.mk [(.int 0 382), (.int 4294967295 383)]) 0), .mk []⟩
noncomputable def o52 : Obj := ⟨(.type "tuple"), none, (.seq (.mk [(.int (-9223372036854775808) 385), (.int 9223372036854775807 386)]) 0), .mk []⟩
noncomputable def o53 : Obj := ⟨(.type "tuple"), none, (.seq (.mk [(.int 0 387), (.int 18446744073709551615 388)]) 0), .mk []⟩
noncomputable def o54 : Obj := ⟨(.type "tuple"), none, (.seq (.mk [(.int (-2147483648) 390), (.int 2147483647 391)]) 0), .mk []⟩
noncomputable def t5 (P : Params) : BT := (.node (boot_o_0 P) (.node (boot_o_1 P) (.node (o42 P) (.node (boot_o_7 P) (.node o0 (.node o17 (L o50) .nil) (L o32)) (.node o12 (L o24) (L o41))) (.node o0 (.node o8 (.node o20 (L o54) .nil) (L o35)) (.node o15 (L o12) (L o46)))) (.node (boot_o_5 P) (.node (boot_o_9 P) (.node o7 (.node o18 (L o52) .nil) (L o0)) (.node o0 (L o26) (L o44))) (.node o2 (.node o10 (L (o22 P)) (L o37)) (.node o0 (L o0) (L o48))))) (.node (o4 P) (.node (boot_o_4 P) (.node (boot_o_8 P) (.node o1 (.node o0 (L o51) .nil) (L o33)) (.node (o13 P) (L o25) (L o43))) (.node o28 (.node o9 (L o21) (L o36)) (.node o16 (L (o31 P)) (L o47)))) (.node (boot_o_6 P) (.node (boot_o_10 P) (.node o0 (.node o19 (L o53) .nil) (L (o34 P))) (.node o14 (L o30) (L o45))) (.node o3 (.node o11 (L o29) (L o39)) (.node o1 (L o1) (L o49))))))
theorem p5f (w : World) : Pc 38 1 223 56 365 t4 ⟨45, 0, 45, 9⟩ 68 404 t5 ⟨46, 0, 46, 10⟩ (w.withFollow "special-get-raises" false) := by kernel_rfl
theorem p5t (w : World) : Pc 38 1 223 56 365 t4 ⟨45, 0, 45, 9⟩ 68 404 t5 ⟨46, 0, 46, 10⟩ (w.withFollow "special-get-raises" true) := by kernel_rfl
theorem p5 (w : World) : Pc 38 1 223 56 365 t4 ⟨45, 0, 45, 9⟩ 68 404 t5 ⟨46, 0, 46, 10⟩ w := byRow2 "special-get-raises" (P := Pc 38 1 223 56 365 t4 ⟨45, 0, 45, 9⟩ 68 404 t5 ⟨46, 0, 46, 10⟩) p5f p5t w
noncomputable def e46 (P : Params) : DictEntry := ke P "KindTable" 460 (.ref 98)
noncomputable def e47 (P : Params) : DictEntry := ke P "inner_kinds" 468 (.ref 109)
noncomputable def e48 (P : Params) : DictEntry := ke P "row_level" 475 (.ref 116)
noncomputable def e49 (P : Params) : DictEntry := ke P "row_length" 482 (.ref 123)
noncomputable def o55 (P : Params) : Obj := ⟨(.type "dict"), none, .dict (.mk [e0 P, e1 P, e2 P, e3 P, e4 P, e5 P, e6 P, e7 P, e8 P, e9 P, e10 P, e11 P, e12 P, e13 P, e14 P, e15 P, e16 P, e17 P, e18 P, e19 P, e20 P, e21 P, e22 P, e23 P, e24 P, e25 P, e26 P, e27 P, e28 P, e29 P, e30 P, e31 P, e32 P, e33 P, e34 P, e35 P, e36 P, e37 P, e38 P, e39 P, e40 P, e41 P, e42 P, e43 P, e44 P, e45 P, e46 P, e47 P, e48 P, e49 P]) 50, .mk []⟩
noncomputable def o56 : Obj := ⟨.none, none, (.fields (.mk [(.int 1 0), (.int 0 0), (.ref 20), (.int 5 0), (.int 0 0), (.ref 27), (.int 10 0), (.int 0 0), (.ref 47), (.int 47 0), (.int 0 0), (.ref 73), (.int 96 0), (.int 0 0), (.ref 108), (.int 105 0), (.int 0 0), (.ref 115), (.int 109 0), (.int 0 0), (.ref 122)])), .mk []⟩
noncomputable def o57 (P : Params) : Obj := ⟨(.type "dict"), none, (.dict (.mk [ke P "__module__" 411 (.str "framerune.kinds" 243), ke P "__qualname__" 413 (.str "KindTable" 412), ke P "__firstlineno__" 415 (.int 47 414), ke P "__init__" 424 (.ref 81), ke P "row" 432 (.ref 88), ke P "put" 447 (.ref 95), ke P "__static_attributes__" 453 (.ref 96)]) 7), .mk []⟩
noncomputable def o58 : Obj := ⟨.none, none, (.fields (.mk [(.int 49 0), (.int 4 0), (.ref 80), (.int 63 0), (.int 4 0), (.ref 87), (.int 68 0), (.int 4 0), (.ref 94)])), .mk []⟩
noncomputable def o59 : Obj := ⟨(.type "code"), none, (.fields (.mk [(.str "KindTable" 406), (.str "KindTable" 407), (.str "/claim/cut.py" 408), (.int 47 0), (.int 0 0), (.int 0 0), (.int 0 0), (.int 0 0), (.ref 71), (.bool false), (.int 181 0), (.ref 72), .none, .none, .none, .none, (.int 409 0), (.int 47 0), (.str "/claim/cut.py" 410)])), .mk []⟩
noncomputable def o60 : Obj := ⟨(.type "frame"), none, .plain, .mk [(some (.ref 73)), (some (.ref 3)), (some (.ref 70)), none, (some (.str "framerune.kinds" 243)), none, (some (.ref 0))]⟩
noncomputable def o61 : Obj := ⟨(.type "tuple"), none, (.seq (.mk [(.str "self" 419), (.str "number" 420), (.str "row" 421)]) 0), .mk []⟩
noncomputable def o62 : Obj := ⟨.none, none, (fd (mS 39 0) "KindTable.__init__" 0 .none .none .none .none none .none .none), .mk []⟩
noncomputable def o63 : Obj := ⟨(.type "code"), none, (.fields (.mk [(.str "__init__" 416), (.str "KindTable.__init__" 417), (.str "/claim/cut.py" 418), (.int 49 0), (.int 1 0), (.int 0 0), (.int 0 0), (.int 3 0), (.ref 75), (.bool true), (.int 181 0), (.ref 76), .none, (.ref 77), (.ref 78), (.ref 79), (.int 422 0), (.int 49 0), (.str "/claim/cut.py" 423)])), .mk []⟩
noncomputable def o64 : Obj := ⟨(.type "function"), none, (fd (mS 39 0) "KindTable.__init__" 3 .none .none .none (.str "framerune.kinds" 243) none (.ref 80) .none), .mk []⟩
noncomputable def o65 : Obj := ⟨(.type "tuple"), none, (.seq (.mk [(.str "self" 428), (.str "k" 429)]) 0), .mk []⟩
noncomputable def o66 : Obj := ⟨.none, none, (fd (mS 39 1) "KindTable.row" 0 .none .none .none .none none .none .none), .mk []⟩
noncomputable def o67 : Obj := ⟨(.type "code"), none, (.fields (.mk [(.str "row" 425), (.str "KindTable.row" 426), (.str "/claim/cut.py" 427), (.int 63 0), (.int 2 0), (.int 0 0), (.int 0 0), (.int 3 0), (.ref 82), (.bool true), (.int 181 0), (.ref 83), .none, (.ref 84), (.ref 85), (.ref 86), (.int 430 0), (.int 63 0), (.str "/claim/cut.py" 431)])), .mk []⟩
noncomputable def o68 : Obj := ⟨(.type "function"), none, (fd (mS 39 1) "KindTable.row" 3 .none .none .none (.str "framerune.kinds" 243) none (.ref 87) .none), .mk []⟩
noncomputable def o69 : Obj := ⟨(.type "tuple"), none, (.seq (.mk [(.str "self" 436), (.str "row" 437), (.str "found" 438), (.str "depth" 439), (.str "weight" 440), (.str "opened" 441), (.str "level" 442), (.str "inner" 443), (.str "k" 444)]) 0), .mk []⟩
noncomputable def o70 : Obj := ⟨.none, none, (fd (mS 39 2) "KindTable.put" 0 .none .none .none .none none .none .none), .mk []⟩
noncomputable def o71 : Obj := ⟨(.type "code"), none, (.fields (.mk [(.str "put" 433), (.str "KindTable.put" 434), (.str "/claim/cut.py" 435), (.int 68 0), (.int 2 0), (.int 0 0), (.int 0 0), (.int 3 0), (.ref 89), (.bool true), (.int 181 0), (.ref 90), .none, (.ref 91), (.ref 92), (.ref 93), (.int 445 0), (.int 68 0), (.str "/claim/cut.py" 446)])), .mk []⟩
noncomputable def o72 : Obj := ⟨(.type "function"), none, (fd (mS 39 2) "KindTable.put" 3 .none .none .none (.str "framerune.kinds" 243) none (.ref 94) .none), .mk []⟩
noncomputable def o73 : Obj := ⟨(.type "tuple"), none, (.seq (.mk [(.str "depths" 448), (.str "index" 449), (.str "opens" 450), (.str "rows" 451), (.str "weights" 452)]) 0), .mk []⟩
noncomputable def o74 (P : Params) : Obj := ⟨(.type "dict"), none, (.dict (.mk [ke P "__module__" 411 (.str "framerune.kinds" 243), ke P "__firstlineno__" 415 (.int 47 414), ke P "__init__" 424 (.ref 81), ke P "row" 432 (.ref 88), ke P "put" 447 (.ref 95), ke P "__static_attributes__" 453 (.ref 96), ke P "__dict__" 455 (.ref 99), ke P "__weakref__" 457 (.ref 100), ke P "__doc__" 458 .none]) 4), .mk []⟩
noncomputable def o75 : Obj := ⟨(.type "type"), none, (.cls ⟨"KindTable", [(.type "object")], [(.ref 98), (.type "object")], 97, "KindTable", true, [], [], false, none, false⟩), .mk [none, none, (some (.str "KindTable" 404)), (some (.str "KindTable" 412)), (some (.builtin "object.__new__")), (some (.bool true))]⟩
noncomputable def o76 : Obj := ⟨(.type "getset_descriptor"), none, (.fields (.mk [(.str "__dict__" 454), (.ref 98), (.builtin "function.__dict__"), (.builtin "function.__dict__#set")])), .mk []⟩
noncomputable def o77 : Obj := ⟨(.type "getset_descriptor"), none, (.fields (.mk [(.str "__weakref__" 456), (.ref 98), (.builtin "ExceptionGroup.__weakref__"), .none])), .mk []⟩
noncomputable def o78 : Obj := ⟨(.type "super"), none, (.fields (.mk [(.ref 98), (.ref 98), (.ref 98)])), .mk []⟩
noncomputable def o79 : Obj := ⟨(.type "builtin_function_or_method"), none, (.fields (.mk [(.builtin "object.__init_subclass__"), (.ref 98)])), .mk []⟩
noncomputable def o80 : Obj := ⟨(.type "tuple"), none, (.seq (.mk [(.str "row" 464), (.str "sort" 465)]) 0), .mk []⟩
noncomputable def o81 : Obj := ⟨.none, none, (fd (tS 40) "inner_kinds" 0 .none .none .none .none none .none .none), .mk []⟩
noncomputable def o82 : Obj := ⟨(.type "code"), none, (.fields (.mk [(.str "inner_kinds" 461), (.str "inner_kinds" 462), (.str "/claim/cut.py" 463), (.int 96 0), (.int 1 0), (.int 0 0), (.int 0 0), (.int 3 0), (.ref 103), (.bool true), (.int 181 0), (.ref 104), .none, (.ref 105), (.ref 106), (.ref 107), (.int 466 0), (.int 96 0), (.str "/claim/cut.py" 467)])), .mk []⟩
noncomputable def o83 : Obj := ⟨(.type "function"), none, (fd (tS 40) "inner_kinds" 3 .none .none .none (.str "framerune.kinds" 243) none (.ref 108) .none), .mk []⟩
noncomputable def o84 : Obj := ⟨(.type "tuple"), none, (.seq (.mk [(.str "sort" 472)]) 0), .mk []⟩
noncomputable def o85 : Obj := ⟨.none, none, (fd (tS 41) "row_level" 0 .none .none .none .none none .none .none), .mk []⟩
noncomputable def o86 : Obj := ⟨(.type "code"), none, (.fields (.mk [(.str "row_level" 469), (.str "row_level" 470), (.str "/claim/cut.py" 471), (.int 105 0), (.int 1 0), (.int 0 0), (.int 0 0), (.int 3 0), (.ref 110), (.bool true), (.int 181 0), (.ref 111), .none, (.ref 112), (.ref 113), (.ref 114), (.int 473 0), (.int 105 0), (.str "/claim/cut.py" 474)])), .mk []⟩
noncomputable def o87 : Obj := ⟨(.type "function"), none, (fd (tS 41) "row_level" 3 .none .none .none (.str "framerune.kinds" 243) none (.ref 115) .none), .mk []⟩
noncomputable def o88 : Obj := ⟨(.type "tuple"), none, (.seq (.mk [(.str "sort" 479)]) 0), .mk []⟩
noncomputable def o89 : Obj := ⟨.none, none, (fd (tS 42) "row_length" 0 .none .none .none .none none .none .none), .mk []⟩
noncomputable def o90 : Obj := ⟨(.type "code"), none, (.fields (.mk [(.str "row_length" 476), (.str "row_length" 477), (.str "/claim/cut.py" 478), (.int 109 0), (.int 1 0), (.int 0 0), (.int 0 0), (.int 3 0), (.ref 117), (.bool true), (.int 181 0), (.ref 118), .none, (.ref 119), (.ref 120), (.ref 121), (.int 480 0), (.int 109 0), (.str "/claim/cut.py" 481)])), .mk []⟩
noncomputable def o91 : Obj := ⟨(.type "function"), none, (fd (tS 42) "row_length" 3 .none .none .none (.str "framerune.kinds" 243) none (.ref 122) .none), .mk []⟩
noncomputable def t6 (P : Params) : BT := (.node (boot_o_0 P) (.node (boot_o_1 P) (.node (o55 P) (.node (boot_o_7 P) (.node o0 (.node o17 (L o50) (L o72)) (.node o32 (L o62) (L o1))) (.node o12 (.node o24 (L o0) (L o0)) (.node o41 (L o67) (L o88)))) (.node o0 (.node o8 (.node o20 (L o54) (L o76)) (.node o35 (L o1) (L o86))) (.node o15 (.node o12 (L o0) (L o81)) (.node o46 (L o69) (L o91))))) (.node (boot_o_5 P) (.node (boot_o_9 P) (.node o7 (.node o18 (L o52) (L (o74 P))) (.node o0 (L o64) (L o0))) (.node o0 (.node o26 (L o59) (L o80)) (.node o44 (L o0) (L o89)))) (.node o2 (.node o10 (.node (o22 P) (L o12) (L o78)) (.node o37 (L o0) (L o0))) (.node o0 (.node o0 (L o61) (L o83)) (.node o48 (L o70) .nil))))) (.node (o4 P) (.node (boot_o_4 P) (.node (boot_o_8 P) (.node o1 (.node o0 (L o51) (L o73)) (.node o33 (L o63) (L o84))) (.node (o13 P) (.node o25 (L o58) (L o1)) (.node o43 (L o68) (L o0)))) (.node o56 (.node o9 (.node o21 (L o0) (L o77)) (.node o36 (L o65) (L o87))) (.node o16 (.node (o31 P) (L o1) (L o82)) (.node o47 (L o0) .nil)))) (.node (boot_o_6 P) (.node (boot_o_10 P) (.node o0 (.node o19 (L o53) (L o75)) (.node (o34 P) (L o0) (L o85))) (.node o14 (.node o30 (L o60) (L o0)) (.node o45 (L o1) (L o90)))) (.node o3 (.node o11 (.node o29 (L (o57 P)) (L o79)) (.node o39 (L o66) (L o1))) (.node o1 (.node o1 (L o0) (L o0)) (.node o49 (L o71) .nil))))))
theorem p6 (w : World) : Pc 39 4 387 68 404 t5 ⟨46, 0, 46, 10⟩ 124 483 t6 ⟨109, 0, 114, 12⟩ w := by kernel_rfl
noncomputable def e50 (P : Params) : DictEntry := ke P "__name__" 165 (.str "framerune.csnodes" 559)
noncomputable def e51 (P : Params) : DictEntry := ke P "check_kind_row" 492 (.ref 130)
noncomputable def e52 (P : Params) : DictEntry := ke P "check_named" 500 (.ref 137)
noncomputable def e53 (P : Params) : DictEntry := ke P "check_args" 509 (.ref 144)
noncomputable def e54 (P : Params) : DictEntry := ke P "may_stand" 518 (.ref 151)
noncomputable def e55 (P : Params) : DictEntry := ke P "tid_of" 527 (.ref 158)
noncomputable def e56 (P : Params) : DictEntry := ke P "is_value" 535 (.ref 165)
noncomputable def e57 (P : Params) : DictEntry := ke P "is_var" 544 (.ref 172)
noncomputable def e58 (P : Params) : DictEntry := ke P "int_range" 551 (.ref 179)
noncomputable def e59 (P : Params) : DictEntry := ke P "is_number" 558 (.ref 186)
noncomputable def o92 (P : Params) : Obj := ⟨(.type "dict"), none, .dict (.mk [e50 P, e1 P, e2 P, e3 P, e4 P, e5 P, e6 P, e7 P, e8 P, e9 P, e10 P, e11 P, e12 P, e13 P, e14 P, e15 P, e16 P, e17 P, e18 P, e19 P, e20 P, e21 P, e22 P, e23 P, e24 P, e25 P, e26 P, e27 P, e28 P, e29 P, e30 P, e31 P, e32 P, e33 P, e34 P, e35 P, e36 P, e37 P, e38 P, e39 P, e40 P, e41 P, e42 P, e43 P, e44 P, e45 P, e46 P, e47 P, e48 P, e49 P, e51 P, e52 P, e53 P, e54 P, e55 P, e56 P, e57 P, e58 P, e59 P]) 59, .mk []⟩
noncomputable def o93 : Obj := ⟨.none, none, (.fields (.mk [(.int 1 0), (.int 0 0), (.ref 20), (.int 5 0), (.int 0 0), (.ref 27), (.int 10 0), (.int 0 0), (.ref 47), (.int 47 0), (.int 0 0), (.ref 73), (.int 96 0), (.int 0 0), (.ref 108), (.int 105 0), (.int 0 0), (.ref 115), (.int 109 0), (.int 0 0), (.ref 122), (.int 115 0), (.int 0 0), (.ref 129), (.int 137 0), (.int 0 0), (.ref 136), (.int 141 0), (.int 0 0), (.ref 143), (.int 145 0), (.int 0 0), (.ref 150), (.int 150 0), (.int 0 0), (.ref 157), (.int 159 0), (.int 0 0), (.ref 164), (.int 163 0), (.int 0 0), (.ref 171), (.int 166 0), (.int 0 0), (.ref 178), (.int 170 0), (.int 0 0), (.ref 185)])), .mk []⟩
noncomputable def o94 : Obj := ⟨(.type "tuple"), none, (.seq (.mk [(.str "kt" 486), (.str "row" 487), (.str "sort" 488), (.str "inner" 489)]) 0), .mk []⟩
noncomputable def o95 : Obj := ⟨.none, none, (fd (tS 43) "check_kind_row" 0 .none .none .none .none none .none .none), .mk []⟩
noncomputable def o96 : Obj := ⟨(.type "code"), none, (.fields (.mk [(.str "check_kind_row" 483), (.str "check_kind_row" 484), (.str "/claim/cut.py" 485), (.int 115 0), (.int 2 0), (.int 0 0), (.int 0 0), (.int 3 0), (.ref 124), (.bool true), (.int 181 0), (.ref 125), .none, (.ref 126), (.ref 127), (.ref 128), (.int 490 0), (.int 115 0), (.str "/claim/cut.py" 491)])), .mk []⟩
noncomputable def o97 : Obj := ⟨(.type "function"), none, (fd (tS 43) "check_kind_row" 3 .none .none .none (.str "framerune.kinds" 243) none (.ref 129) .none), .mk []⟩
noncomputable def o98 : Obj := ⟨(.type "tuple"), none, (.seq (.mk [(.str "kt" 496), (.str "row" 497)]) 0), .mk []⟩
noncomputable def o99 : Obj := ⟨.none, none, (fd (tS 44) "check_named" 0 .none .none .none .none none .none .none), .mk []⟩
noncomputable def o100 : Obj := ⟨(.type "code"), none, (.fields (.mk [(.str "check_named" 493), (.str "check_named" 494), (.str "/claim/cut.py" 495), (.int 137 0), (.int 2 0), (.int 0 0), (.int 0 0), (.int 3 0), (.ref 131), (.bool true), (.int 181 0), (.ref 132), .none, (.ref 133), (.ref 134), (.ref 135), (.int 498 0), (.int 137 0), (.str "/claim/cut.py" 499)])), .mk []⟩
noncomputable def o101 : Obj := ⟨(.type "function"), none, (fd (tS 44) "check_named" 3 .none .none .none (.str "framerune.kinds" 243) none (.ref 136) .none), .mk []⟩
noncomputable def o102 : Obj := ⟨(.type "tuple"), none, (.seq (.mk [(.str "kt" 504), (.str "args" 505), (.str "arg" 506)]) 0), .mk []⟩
noncomputable def o103 : Obj := ⟨.none, none, (fd (tS 45) "check_args" 0 .none .none .none .none none .none .none), .mk []⟩
noncomputable def o104 : Obj := ⟨(.type "code"), none, (.fields (.mk [(.str "check_args" 501), (.str "check_args" 502), (.str "/claim/cut.py" 503), (.int 141 0), (.int 2 0), (.int 0 0), (.int 0 0), (.int 3 0), (.ref 138), (.bool true), (.int 181 0), (.ref 139), .none, (.ref 140), (.ref 141), (.ref 142), (.int 507 0), (.int 141 0), (.str "/claim/cut.py" 508)])), .mk []⟩
noncomputable def o105 : Obj := ⟨(.type "function"), none, (fd (tS 45) "check_args" 3 .none .none .none (.str "framerune.kinds" 243) none (.ref 143) .none), .mk []⟩
noncomputable def o106 : Obj := ⟨(.type "tuple"), none, (.seq (.mk [(.str "kt" 513), (.str "k" 514), (.str "sort" 515)]) 0), .mk []⟩
noncomputable def o107 : Obj := ⟨.none, none, (fd (tS 46) "may_stand" 0 .none .none .none .none none .none .none), .mk []⟩
noncomputable def o108 : Obj := ⟨(.type "code"), none, (.fields (.mk [(.str "may_stand" 510), (.str "may_stand" 511), (.str "/claim/cut.py" 512), (.int 145 0), (.int 2 0), (.int 0 0), (.int 0 0), (.int 3 0), (.ref 145), (.bool true), (.int 181 0), (.ref 146), .none, (.ref 147), (.ref 148), (.ref 149), (.int 516 0), (.int 145 0), (.str "/claim/cut.py" 517)])), .mk []⟩
noncomputable def o109 : Obj := ⟨(.type "function"), none, (fd (tS 46) "may_stand" 3 .none .none .none (.str "framerune.kinds" 243) none (.ref 150) .none), .mk []⟩
noncomputable def o110 : Obj := ⟨(.type "tuple"), none, (.seq (.mk [(.str "kt" 522), (.str "k" 523), (.str "row" 524)]) 0), .mk []⟩
noncomputable def o111 : Obj := ⟨.none, none, (fd (tS 47) "tid_of" 0 .none .none .none .none none .none .none), .mk []⟩
noncomputable def o112 : Obj := ⟨(.type "code"), none, (.fields (.mk [(.str "tid_of" 519), (.str "tid_of" 520), (.str "/claim/cut.py" 521), (.int 150 0), (.int 2 0), (.int 0 0), (.int 0 0), (.int 3 0), (.ref 152), (.bool true), (.int 181 0), (.ref 153), .none, (.ref 154), (.ref 155), (.ref 156), (.int 525 0), (.int 150 0), (.str "/claim/cut.py" 526)])), .mk []⟩
noncomputable def o113 : Obj := ⟨(.type "function"), none, (fd (tS 47) "tid_of" 3 .none .none .none (.str "framerune.kinds" 243) none (.ref 157) .none), .mk []⟩
noncomputable def o114 : Obj := ⟨(.type "tuple"), none, (.seq (.mk [(.str "kt" 531), (.str "k" 532)]) 0), .mk []⟩
noncomputable def o115 : Obj := ⟨.none, none, (fd (tS 48) "is_value" 0 .none .none .none .none none .none .none), .mk []⟩
noncomputable def o116 : Obj := ⟨(.type "code"), none, (.fields (.mk [(.str "is_value" 528), (.str "is_value" 529), (.str "/claim/cut.py" 530), (.int 159 0), (.int 2 0), (.int 0 0), (.int 0 0), (.int 3 0), (.ref 159), (.bool true), (.int 181 0), (.ref 160), .none, (.ref 161), (.ref 162), (.ref 163), (.int 533 0), (.int 159 0), (.str "/claim/cut.py" 534)])), .mk []⟩
noncomputable def o117 : Obj := ⟨(.type "function"), none, (fd (tS 48) "is_value" 3 .none .none .none (.str "framerune.kinds" 243) none (.ref 164) .none), .mk []⟩
noncomputable def o118 : Obj := ⟨(.type "tuple"), none, (.seq (.mk [(.str "kt" 539), (.str "k" 540), (.str "sort" 541)]) 0), .mk []⟩
noncomputable def o119 : Obj := ⟨.none, none, (fd (tS 49) "is_var" 0 .none .none .none .none none .none .none), .mk []⟩
noncomputable def o120 : Obj := ⟨(.type "code"), none, (.fields (.mk [(.str "is_var" 536), (.str "is_var" 537), (.str "/claim/cut.py" 538), (.int 163 0), (.int 2 0), (.int 0 0), (.int 0 0), (.int 3 0), (.ref 166), (.bool true), (.int 181 0), (.ref 167), .none, (.ref 168), (.ref 169), (.ref 170), (.int 542 0), (.int 163 0), (.str "/claim/cut.py" 543)])), .mk []⟩
noncomputable def o121 : Obj := ⟨(.type "function"), none, (fd (tS 49) "is_var" 3 .none .none .none (.str "framerune.kinds" 243) none (.ref 171) .none), .mk []⟩
noncomputable def o122 : Obj := ⟨(.type "tuple"), none, (.seq (.mk [(.str "k" 548)]) 0), .mk []⟩
noncomputable def o123 : Obj := ⟨.none, none, (fd (tS 50) "int_range" 0 .none .none .none .none none .none .none), .mk []⟩
noncomputable def o124 : Obj := ⟨(.type "code"), none, (.fields (.mk [(.str "int_range" 545), (.str "int_range" 546), (.str "/claim/cut.py" 547), (.int 166 0), (.int 1 0), (.int 0 0), (.int 0 0), (.int 3 0), (.ref 173), (.bool true), (.int 181 0), (.ref 174), .none, (.ref 175), (.ref 176), (.ref 177), (.int 549 0), (.int 166 0), (.str "/claim/cut.py" 550)])), .mk []⟩
noncomputable def o125 : Obj := ⟨(.type "function"), none, (fd (tS 50) "int_range" 3 .none .none .none (.str "framerune.kinds" 243) none (.ref 178) .none), .mk []⟩
noncomputable def o126 : Obj := ⟨(.type "tuple"), none, (.seq (.mk [(.str "k" 555)]) 0), .mk []⟩
noncomputable def o127 : Obj := ⟨.none, none, (fd (tS 51) "is_number" 0 .none .none .none .none none .none .none), .mk []⟩
noncomputable def o128 : Obj := ⟨(.type "code"), none, (.fields (.mk [(.str "is_number" 552), (.str "is_number" 553), (.str "/claim/cut.py" 554), (.int 170 0), (.int 1 0), (.int 0 0), (.int 0 0), (.int 3 0), (.ref 180), (.bool true), (.int 181 0), (.ref 181), .none, (.ref 182), (.ref 183), (.ref 184), (.int 556 0), (.int 170 0), (.str "/claim/cut.py" 557)])), .mk []⟩
noncomputable def o129 : Obj := ⟨(.type "function"), none, (fd (tS 51) "is_number" 3 .none .none .none (.str "framerune.kinds" 243) none (.ref 185) .none), .mk []⟩
noncomputable def t7 (P : Params) : BT := (.node (boot_o_0 P) (.node (boot_o_1 P) (.node (o92 P) (.node (boot_o_7 P) (.node o0 (.node o17 (.node o50 (L o0) .nil) (.node o72 (L o0) .nil)) (.node o32 (.node o62 (L o104) .nil) (.node o1 (L o122) .nil))) (.node o12 (.node o24 (.node o0 (L o99) .nil) (.node o0 (L o1) .nil)) (.node o41 (.node o67 (L o109) .nil) (.node o88 (L o0) .nil)))) (.node o0 (.node o8 (.node o20 (.node o54 (L o0) .nil) (.node o76 (L o115) .nil)) (.node o35 (.node o1 (L o106) .nil) (.node o86 (L o125) .nil))) (.node o15 (.node o12 (.node o0 (L o1) .nil) (.node o81 (L o120) .nil)) (.node o46 (.node o69 (L o0) .nil) (L o91))))) (.node (boot_o_5 P) (.node (boot_o_9 P) (.node o7 (.node o18 (.node o52 (L o96) .nil) (.node (o74 P) (L o114) .nil)) (.node o0 (.node o64 (L o0) .nil) (.node o0 (L o123) .nil))) (.node o0 (.node o26 (.node o59 (L o101) .nil) (.node o80 (L o0) .nil)) (.node o44 (.node o0 (L o1) .nil) (.node o89 (L o128) .nil)))) (.node o2 (.node o10 (.node (o22 P) (.node o12 (L o98) .nil) (.node o78 (L o117) .nil)) (.node o37 (.node o0 (L o107) .nil) (.node o0 (L o1) .nil))) (.node o0 (.node o0 (.node o61 (L o0) .nil) (.node o83 (L o0) .nil)) (.node o48 (.node o70 (L o112) .nil) (L o1)))))) (.node (o4 P) (.node (boot_o_4 P) (.node (boot_o_8 P) (.node o1 (.node o0 (.node o51 (L o95) .nil) (.node o73 (L o1) .nil)) (.node o33 (.node o63 (L o105) .nil) (.node o84 (L o0) .nil))) (.node (o13 P) (.node o25 (.node o58 (L o100) .nil) (.node o1 (L o118) .nil)) (.node o43 (.node o68 (L o0) .nil) (.node o0 (L o127) .nil)))) (.node o93 (.node o9 (.node o21 (.node o0 (L o1) .nil) (.node o77 (L o116) .nil)) (.node o36 (.node o65 (L o0) .nil) (.node o87 (L o0) .nil))) (.node o16 (.node (o31 P) (.node o1 (L o102) .nil) (.node o82 (L o121) .nil)) (.node o47 (.node o0 (L o111) .nil) (L o0))))) (.node (boot_o_6 P) (.node (boot_o_10 P) (.node o0 (.node o19 (.node o53 (L o97) .nil) (.node o75 (L o0) .nil)) (.node (o34 P) (.node o0 (L o1) .nil) (.node o85 (L o124) .nil))) (.node o14 (.node o30 (.node o60 (L o0) .nil) (.node o0 (L o119) .nil)) (.node o45 (.node o1 (L o110) .nil) (.node o90 (L o129) .nil)))) (.node o3 (.node o11 (.node o29 (.node (o57 P) (L o0) .nil) (.node o79 (L o0) .nil)) (.node o39 (.node o66 (L o108) .nil) (.node o1 (L o126) .nil))) (.node o1 (.node o1 (.node o0 (L o103) .nil) (.node o0 (L o1) .nil)) (.node o49 (.node o71 (L o113) .nil) (L o94)))))))
theorem p7 (w : World) : Pc 43 10 284 124 483 t6 ⟨109, 0, 114, 12⟩ 187 561 t7 ⟨172, 0, 172, 8⟩ w := by kernel_rfl
noncomputable def e60 (P : Params) : DictEntry := ke P "__name__" 165 (.str "framerune.csbound" 613)
noncomputable def e61 (P : Params) : DictEntry := ke P "Diags" 612 (.ref 222)
noncomputable def e62 (P : Params) : DictEntry := ke P "X_CONST" 616 (.int 1 615)
noncomputable def e63 (P : Params) : DictEntry := ke P "X_LOCAL" 618 (.int 2 617)
noncomputable def e64 (P : Params) : DictEntry := ke P "X_DEFAULT" 620 (.int 12 619)
noncomputable def e65 (P : Params) : DictEntry := ke P "X_UN" 622 (.int 13 621)
noncomputable def e66 (P : Params) : DictEntry := ke P "X_BIN" 624 (.int 14 623)
noncomputable def e67 (P : Params) : DictEntry := ke P "X_AND" 626 (.int 15 625)
noncomputable def e68 (P : Params) : DictEntry := ke P "X_OR" 628 (.int 16 627)
noncomputable def e69 (P : Params) : DictEntry := ke P "X_COND" 630 (.int 17 629)
noncomputable def o130 (P : Params) : Obj := ⟨(.type "dict"), none, .dict (.mk (e60 P :: e1 P :: e2 P :: e3 P :: e4 P :: e5 P :: e6 P :: e7 P :: e8 P :: e9 P :: e10 P :: e11 P :: e12 P :: e13 P :: e14 P :: e15 P :: e16 P :: e17 P :: e18 P :: e19 P :: e20 P :: e21 P :: e22 P :: e23 P :: e24 P :: e25 P :: e26 P :: e27 P :: e28 P :: e29 P :: e30 P :: e31 P :: e32 P :: e33 P :: e34 P :: e35 P :: e36 P :: e37 P :: e38 P :: e39 P :: e40 P :: e41 P :: e42 P :: e43 P :: e44 P :: e45 P :: e46 P :: e47 P :: e48 P :: e49 P :: e51 P :: e52 P :: e53 P :: e54 P :: e55 P :: e56 P :: e57 P :: e58 P :: e59 P :: e61 P :: e62 P :: e63 P :: e64 P :: e65 P :: e66 P :: e67 P :: e68 P :: e69 P :: [])) 68, .mk []⟩
noncomputable def o131 : Obj := ⟨.none, none, (.fields (.mk [(.int 1 0), (.int 0 0), (.ref 20), (.int 5 0), (.int 0 0), (.ref 27), (.int 10 0), (.int 0 0), (.ref 47), (.int 47 0), (.int 0 0), (.ref 73), (.int 96 0), (.int 0 0), (.ref 108), (.int 105 0), (.int 0 0), (.ref 115), (.int 109 0), (.int 0 0), (.ref 122), (.int 115 0), (.int 0 0), (.ref 129), (.int 137 0), (.int 0 0), (.ref 136), (.int 141 0), (.int 0 0), (.ref 143), (.int 145 0), (.int 0 0), (.ref 150), (.int 150 0), (.int 0 0), (.ref 157), (.int 159 0), (.int 0 0), (.ref 164), (.int 163 0), (.int 0 0), (.ref 171), (.int 166 0), (.int 0 0), (.ref 178), (.int 170 0), (.int 0 0), (.ref 185), (.int 173 0), (.int 0 0), (.ref 192)])), .mk []⟩
noncomputable def o132 (P : Params) : Obj := ⟨(.type "dict"), none, (.dict (.mk [ke P "__module__" 568 (.str "framerune.csnodes" 559), ke P "__qualname__" 570 (.str "Diags" 569), ke P "__firstlineno__" 572 (.int 173 571), ke P "__init__" 579 (.ref 200), ke P "put" 589 (.ref 207), ke P "cut" 597 (.ref 214), ke P "numbers" 603 (.ref 219), ke P "__static_attributes__" 605 (.ref 220)]) 8), .mk []⟩
noncomputable def o133 : Obj := ⟨.none, none, (.fields (.mk [(.int 175 0), (.int 4 0), (.ref 199), (.int 178 0), (.int 4 0), (.ref 206), (.int 181 0), (.int 4 0), (.ref 213), (.int 184 0), (.int 4 0), (.ref 218)])), .mk []⟩
noncomputable def o134 : Obj := ⟨(.type "code"), none, (.fields (.mk [(.str "Diags" 563), (.str "Diags" 564), (.str "/claim/cut.py" 565), (.int 173 0), (.int 0 0), (.int 0 0), (.int 0 0), (.int 0 0), (.ref 190), (.bool false), (.int 181 0), (.ref 191), .none, .none, .none, .none, (.int 566 0), (.int 173 0), (.str "/claim/cut.py" 567)])), .mk []⟩
noncomputable def o135 : Obj := ⟨(.type "frame"), none, .plain, .mk [(some (.ref 192)), (some (.ref 3)), (some (.ref 189)), none, (some (.str "framerune.csnodes" 559)), none, (some (.ref 0))]⟩
noncomputable def o136 : Obj := ⟨(.type "tuple"), none, (.seq (.mk [(.str "self" 576)]) 0), .mk []⟩
noncomputable def o137 : Obj := ⟨.none, none, (fd (mS 53 0) "Diags.__init__" 0 .none .none .none .none none .none .none), .mk []⟩
noncomputable def o138 : Obj := ⟨(.type "code"), none, (.fields (.mk [(.str "__init__" 573), (.str "Diags.__init__" 574), (.str "/claim/cut.py" 575), (.int 175 0), (.int 1 0), (.int 0 0), (.int 0 0), (.int 3 0), (.ref 194), (.bool true), (.int 181 0), (.ref 195), .none, (.ref 196), (.ref 197), (.ref 198), (.int 577 0), (.int 175 0), (.str "/claim/cut.py" 578)])), .mk []⟩
noncomputable def o139 : Obj := ⟨(.type "function"), none, (fd (mS 53 0) "Diags.__init__" 3 .none .none .none (.str "framerune.csnodes" 559) none (.ref 199) .none), .mk []⟩
noncomputable def o140 : Obj := ⟨(.type "tuple"), none, (.seq (.mk [(.str "self" 583), (.str "number" 584), (.str "at" 585), (.str "words" 586)]) 0), .mk []⟩
noncomputable def o141 : Obj := ⟨.none, none, (fd (mS 53 1) "Diags.put" 0 .none .none .none .none none .none .none), .mk []⟩
noncomputable def o142 : Obj := ⟨(.type "code"), none, (.fields (.mk [(.str "put" 580), (.str "Diags.put" 581), (.str "/claim/cut.py" 582), (.int 178 0), (.int 4 0), (.int 0 0), (.int 0 0), (.int 3 0), (.ref 201), (.bool true), (.int 181 0), (.ref 202), .none, (.ref 203), (.ref 204), (.ref 205), (.int 587 0), (.int 178 0), (.str "/claim/cut.py" 588)])), .mk []⟩
noncomputable def o143 : Obj := ⟨(.type "function"), none, (fd (mS 53 1) "Diags.put" 3 .none .none .none (.str "framerune.csnodes" 559) none (.ref 206) .none), .mk []⟩
noncomputable def o144 : Obj := ⟨(.type "tuple"), none, (.seq (.mk [(.str "self" 593), (.str "count" 594)]) 0), .mk []⟩
noncomputable def o145 : Obj := ⟨.none, none, (fd (mS 53 2) "Diags.cut" 0 .none .none .none .none none .none .none), .mk []⟩
noncomputable def o146 : Obj := ⟨(.type "code"), none, (.fields (.mk [(.str "cut" 590), (.str "Diags.cut" 591), (.str "/claim/cut.py" 592), (.int 181 0), (.int 2 0), (.int 0 0), (.int 0 0), (.int 3 0), (.ref 208), (.bool true), (.int 181 0), (.ref 209), .none, (.ref 210), (.ref 211), (.ref 212), (.int 595 0), (.int 181 0), (.str "/claim/cut.py" 596)])), .mk []⟩
noncomputable def o147 : Obj := ⟨(.type "function"), none, (fd (mS 53 2) "Diags.cut" 3 .none .none .none (.str "framerune.csnodes" 559) none (.ref 213) .none), .mk []⟩
noncomputable def o148 : Obj := ⟨.none, none, (fd (mS 53 3) "Diags.numbers" 0 .none .none .none .none none .none .none), .mk []⟩
noncomputable def o149 : Obj := ⟨(.type "code"), none, (.fields (.mk [(.str "numbers" 598), (.str "Diags.numbers" 599), (.str "/claim/cut.py" 600), (.int 184 0), (.int 1 0), (.int 0 0), (.int 0 0), (.int 3 0), (.ref 215), (.bool true), (.int 181 0), (.ref 216), .none, .none, .none, (.ref 217), (.int 601 0), (.int 184 0), (.str "/claim/cut.py" 602)])), .mk []⟩
noncomputable def o150 : Obj := ⟨(.type "function"), none, (fd (mS 53 3) "Diags.numbers" 3 .none .none .none (.str "framerune.csnodes" 559) none (.ref 218) .none), .mk []⟩
noncomputable def o151 : Obj := ⟨(.type "tuple"), none, (.seq (.mk [(.str "rows" 604)]) 0), .mk []⟩
noncomputable def o152 (P : Params) : Obj := ⟨(.type "dict"), none, (.dict (.mk [ke P "__module__" 568 (.str "framerune.csnodes" 559), ke P "__firstlineno__" 572 (.int 173 571), ke P "__init__" 579 (.ref 200), ke P "put" 589 (.ref 207), ke P "cut" 597 (.ref 214), ke P "numbers" 603 (.ref 219), ke P "__static_attributes__" 605 (.ref 220), ke P "__dict__" 607 (.ref 223), ke P "__weakref__" 609 (.ref 224), ke P "__doc__" 610 .none]) 4), .mk []⟩
noncomputable def o153 : Obj := ⟨(.type "type"), none, (.cls ⟨"Diags", [(.type "object")], [(.ref 222), (.type "object")], 221, "Diags", true, [], [], false, none, false⟩), .mk [none, none, (some (.str "Diags" 561)), (some (.str "Diags" 569)), (some (.builtin "object.__new__")), (some (.bool true))]⟩
noncomputable def o154 : Obj := ⟨(.type "getset_descriptor"), none, (.fields (.mk [(.str "__dict__" 606), (.ref 222), (.builtin "function.__dict__"), (.builtin "function.__dict__#set")])), .mk []⟩
noncomputable def o155 : Obj := ⟨(.type "getset_descriptor"), none, (.fields (.mk [(.str "__weakref__" 608), (.ref 222), (.builtin "ExceptionGroup.__weakref__"), .none])), .mk []⟩
noncomputable def o156 : Obj := ⟨(.type "super"), none, (.fields (.mk [(.ref 222), (.ref 222), (.ref 222)])), .mk []⟩
noncomputable def o157 : Obj := ⟨(.type "builtin_function_or_method"), none, (.fields (.mk [(.builtin "object.__init_subclass__"), (.ref 222)])), .mk []⟩
noncomputable def t8 (P : Params) : BT := (.node (boot_o_0 P) (.node (boot_o_1 P) (.node (o130 P) (.node (boot_o_7 P) (.node o0 (.node o17 (.node o50 (L o0) (L o133)) (.node o72 (L o0) (L o154))) (.node o32 (.node o62 (L o104) (L o143)) (.node o1 (L o122) .nil))) (.node o12 (.node o24 (.node o0 (L o99) (L o138)) (.node o0 (L o1) .nil)) (.node o41 (.node o67 (L o109) (L o0)) (.node o88 (L o0) .nil)))) (.node o0 (.node o8 (.node o20 (.node o54 (L o0) (L o1)) (.node o76 (L o115) .nil)) (.node o35 (.node o1 (L o106) (L o0)) (.node o86 (L o125) .nil))) (.node o15 (.node o12 (.node o0 (L o1) (L o140)) (.node o81 (L o120) .nil)) (.node o46 (.node o69 (L o0) (L o150)) (.node o91 (L o0) .nil))))) (.node (boot_o_5 P) (.node (boot_o_9 P) (.node o7 (.node o18 (.node o52 (L o96) (L o135)) (.node (o74 P) (L o114) (L o156))) (.node o0 (.node o64 (L o0) (L o1)) (.node o0 (L o123) .nil))) (.node o0 (.node o26 (.node o59 (L o101) (L o0)) (.node o80 (L o0) .nil)) (.node o44 (.node o0 (L o1) (L o148)) (.node o89 (L o128) .nil)))) (.node o2 (.node o10 (.node (o22 P) (.node o12 (L o98) (L o0)) (.node o78 (L o117) .nil)) (.node o37 (.node o0 (L o107) (L o146)) (.node o0 (L o1) .nil))) (.node o0 (.node o0 (.node o61 (L o0) (L o141)) (.node o83 (L o0) .nil)) (.node o48 (.node o70 (L o112) (L (o152 P))) (.node o1 (L (o132 P)) .nil)))))) (.node (o4 P) (.node (boot_o_4 P) (.node (boot_o_8 P) (.node o1 (.node o0 (.node o51 (L o95) (L o134)) (.node o73 (L o1) (L o155))) (.node o33 (.node o63 (L o105) (L o0)) (.node o84 (L o0) .nil))) (.node (o13 P) (.node o25 (.node o58 (L o100) (L o139)) (.node o1 (L o118) .nil)) (.node o43 (.node o68 (L o0) (L o1)) (.node o0 (L o127) .nil)))) (.node o131 (.node o9 (.node o21 (.node o0 (L o1) (L o136)) (.node o77 (L o116) .nil)) (.node o36 (.node o65 (L o0) (L o145)) (.node o87 (L o0) .nil))) (.node o16 (.node (o31 P) (.node o1 (L o102) (L o0)) (.node o82 (L o121) .nil)) (.node o47 (.node o0 (L o111) (L o151)) (.node o0 (L o12) .nil))))) (.node (boot_o_6 P) (.node (boot_o_10 P) (.node o0 (.node o19 (.node o53 (L o97) (L o0)) (.node o75 (L o0) (L o157))) (.node (o34 P) (.node o0 (L o1) (L o144)) (.node o85 (L o124) .nil))) (.node o14 (.node o30 (.node o60 (L o0) (L o1)) (.node o0 (L o119) .nil)) (.node o45 (.node o1 (L o110) (L o149)) (.node o90 (L o129) .nil)))) (.node o3 (.node o11 (.node o29 (.node (o57 P) (L o0) (L o137)) (.node o79 (L o0) .nil)) (.node o39 (.node o66 (L o108) (L o147)) (.node o1 (L o126) .nil))) (.node o1 (.node o1 (.node o0 (L o103) (L o142)) (.node o0 (L o1) .nil)) (.node o49 (.node o71 (L o113) (L o153)) (.node o94 (L o0) .nil)))))))
theorem p8 (w : World) : Pc 53 10 397 187 561 t7 ⟨172, 0, 172, 8⟩ 227 631 t8 ⟨194, 0, 194, 6⟩ w := by kernel_rfl
noncomputable def e70 (P : Params) : DictEntry := ke P "__name__" 165 (.str "framerune.csfold" 685)
noncomputable def e71 (P : Params) : DictEntry := ke P "X_CONV" 632 (.int 19 631)
noncomputable def e72 (P : Params) : DictEntry := ke P "X_CONCAT" 634 (.int 26 633)
noncomputable def e73 (P : Params) : DictEntry := ke P "CV_NUM" 636 (.int 1 635)
noncomputable def e74 (P : Params) : DictEntry := ke P "CV_REF" 638 (.int 2 637)
noncomputable def e75 (P : Params) : DictEntry := ke P "CV_CAST" 640 (.int 3 639)
noncomputable def e76 (P : Params) : DictEntry := ke P "CV_BOX" 642 (.int 4 641)
noncomputable def e77 (P : Params) : DictEntry := ke P "CV_NULL" 644 (.int 8 643)
noncomputable def e78 (P : Params) : DictEntry := ke P "CV_SAME" 646 (.int 10 645)
noncomputable def e79 (P : Params) : DictEntry := ke P "Unit" 684 (.ref 243)
noncomputable def e80 (P : Params) : DictEntry := ke P "FD_OVERFLOW" 688 (.int 220 687)
noncomputable def e81 (P : Params) : DictEntry := ke P "FD_CONVERT" 690 (.int 221 689)
noncomputable def e82 (P : Params) : DictEntry := ke P "FD_ZERO" 692 (.int 20 691)
noncomputable def e83 (P : Params) : DictEntry := ke P "COMPARES" 699 (.ref 248)
noncomputable def e84 (P : Params) : DictEntry := ke P "cut" 709 (.ref 255)
noncomputable def o158 (P : Params) : Obj := ⟨(.type "dict"), none, .dict (.mk (e70 P :: e1 P :: e2 P :: e3 P :: e4 P :: e5 P :: e6 P :: e7 P :: e8 P :: e9 P :: e10 P :: e11 P :: e12 P :: e13 P :: e14 P :: e15 P :: e16 P :: e17 P :: e18 P :: e19 P :: e20 P :: e21 P :: e22 P :: e23 P :: e24 P :: e25 P :: e26 P :: e27 P :: e28 P :: e29 P :: e30 P :: e31 P :: e32 P :: e33 P :: e34 P :: e35 P :: e36 P :: e37 P :: e38 P :: e39 P :: e40 P :: e41 P :: e42 P :: e43 P :: e44 P :: e45 P :: e46 P :: e47 P :: e48 P :: e49 P :: e51 P :: e52 P :: e53 P :: e54 P :: e55 P :: e56 P :: e57 P :: e58 P :: e59 P :: e61 P :: e62 P :: e63 P :: e64 P :: e65 P :: e66 P :: e67 P :: e68 P :: e69 P :: e71 P :: e72 P :: e73 P :: e74 P :: e75 P :: e76 P :: e77 P :: e78 P :: e79 P :: e80 P :: e81 P :: e82 P :: e83 P :: e84 P :: [])) 82, .mk []⟩
noncomputable def o159 : Obj := ⟨.none, none, (.fields (.mk [(.int 1 0), (.int 0 0), (.ref 20), (.int 5 0), (.int 0 0), (.ref 27), (.int 10 0), (.int 0 0), (.ref 47), (.int 47 0), (.int 0 0), (.ref 73), (.int 96 0), (.int 0 0), (.ref 108), (.int 105 0), (.int 0 0), (.ref 115), (.int 109 0), (.int 0 0), (.ref 122), (.int 115 0), (.int 0 0), (.ref 129), (.int 137 0), (.int 0 0), (.ref 136), (.int 141 0), (.int 0 0), (.ref 143), (.int 145 0), (.int 0 0), (.ref 150), (.int 150 0), (.int 0 0), (.ref 157), (.int 159 0), (.int 0 0), (.ref 164), (.int 163 0), (.int 0 0), (.ref 171), (.int 166 0), (.int 0 0), (.ref 178), (.int 170 0), (.int 0 0), (.ref 185), (.int 173 0), (.int 0 0), (.ref 192), (.int 203 0), (.int 0 0), (.ref 232), (.int 220 0), (.int 0 0), (.ref 254)])), .mk []⟩
noncomputable def o160 (P : Params) : Obj := ⟨(.type "dict"), none, (.dict (.mk [ke P "__module__" 654 (.str "framerune.csbound" 613), ke P "__qualname__" 656 (.str "Unit" 655), ke P "__firstlineno__" 658 (.int 203 657), ke P "__init__" 667 (.ref 240), ke P "__static_attributes__" 677 (.ref 241)]) 5), .mk []⟩
noncomputable def o161 : Obj := ⟨.none, none, (.fields (.mk [(.int 205 0), (.int 4 0), (.ref 239)])), .mk []⟩
noncomputable def o162 : Obj := ⟨(.type "code"), none, (.fields (.mk [(.str "Unit" 649), (.str "Unit" 650), (.str "/claim/cut.py" 651), (.int 203 0), (.int 0 0), (.int 0 0), (.int 0 0), (.int 0 0), (.ref 230), (.bool false), (.int 181 0), (.ref 231), .none, .none, .none, .none, (.int 652 0), (.int 203 0), (.str "/claim/cut.py" 653)])), .mk []⟩
noncomputable def o163 : Obj := ⟨(.type "frame"), none, .plain, .mk [(some (.ref 232)), (some (.ref 3)), (some (.ref 229)), none, (some (.str "framerune.csbound" 613)), none, (some (.ref 0))]⟩
noncomputable def o164 : Obj := ⟨(.type "tuple"), none, (.seq (.mk [(.str "self" 662), (.str "store" 663), (.str "asm" 664)]) 0), .mk []⟩
noncomputable def o165 : Obj := ⟨.none, none, (fd (mS 71 0) "Unit.__init__" 0 .none .none .none .none none .none .none), .mk []⟩
noncomputable def o166 : Obj := ⟨(.type "code"), none, (.fields (.mk [(.str "__init__" 659), (.str "Unit.__init__" 660), (.str "/claim/cut.py" 661), (.int 205 0), (.int 3 0), (.int 0 0), (.int 0 0), (.int 3 0), (.ref 234), (.bool true), (.int 181 0), (.ref 235), .none, (.ref 236), (.ref 237), (.ref 238), (.int 665 0), (.int 205 0), (.str "/claim/cut.py" 666)])), .mk []⟩
noncomputable def o167 : Obj := ⟨(.type "function"), none, (fd (mS 71 0) "Unit.__init__" 3 .none .none .none (.str "framerune.csbound" 613) none (.ref 239) .none), .mk []⟩
noncomputable def o168 : Obj := ⟨(.type "tuple"), none, (.seq (.mk [(.str "asm" 668), (.str "consts" 669), (.str "diags" 670), (.str "fns" 671), (.str "inits" 672), (.str "of_mid" 673), (.str "sinits" 674), (.str "store" 675), (.str "vars" 676)]) 0), .mk []⟩
noncomputable def o169 (P : Params) : Obj := ⟨(.type "dict"), none, (.dict (.mk [ke P "__module__" 654 (.str "framerune.csbound" 613), ke P "__firstlineno__" 658 (.int 203 657), ke P "__init__" 667 (.ref 240), ke P "__static_attributes__" 677 (.ref 241), ke P "__dict__" 679 (.ref 244), ke P "__weakref__" 681 (.ref 245), ke P "__doc__" 682 .none]) 4), .mk []⟩
noncomputable def o170 : Obj := ⟨(.type "type"), none, (.cls ⟨"Unit", [(.type "object")], [(.ref 243), (.type "object")], 242, "Unit", true, [], [], false, none, false⟩), .mk [none, none, (some (.str "Unit" 647)), (some (.str "Unit" 655)), (some (.builtin "object.__new__")), (some (.bool true))]⟩
noncomputable def o171 : Obj := ⟨(.type "getset_descriptor"), none, (.fields (.mk [(.str "__dict__" 678), (.ref 243), (.builtin "function.__dict__"), (.builtin "function.__dict__#set")])), .mk []⟩
noncomputable def o172 : Obj := ⟨(.type "getset_descriptor"), none, (.fields (.mk [(.str "__weakref__" 680), (.ref 243), (.builtin "ExceptionGroup.__weakref__"), .none])), .mk []⟩
noncomputable def o173 : Obj := ⟨(.type "super"), none, (.fields (.mk [(.ref 243), (.ref 243), (.ref 243)])), .mk []⟩
noncomputable def o174 : Obj := ⟨(.type "builtin_function_or_method"), none, (.fields (.mk [(.builtin "object.__init_subclass__"), (.ref 243)])), .mk []⟩
noncomputable def o175 : Obj := ⟨(.type "tuple"), none, (.seq (.mk [(.str "==" 693), (.str "!=" 694), (.str "<" 695), (.str "<=" 696), (.str ">" 697), (.str ">=" 698)]) 0), .mk []⟩
noncomputable def o176 : Obj := ⟨(.type "tuple"), none, (.seq (.mk [(.str "k" 703), (.str "n" 704), (.str "low" 705), (.str "high" 706)]) 0), .mk []⟩
noncomputable def o177 : Obj := ⟨.none, none, (fd (tS 77) "cut" 0 .none .none .none .none none .none .none), .mk []⟩
noncomputable def o178 : Obj := ⟨(.type "code"), none, (.fields (.mk [(.str "cut" 700), (.str "cut" 701), (.str "/claim/cut.py" 702), (.int 220 0), (.int 2 0), (.int 0 0), (.int 0 0), (.int 3 0), (.ref 249), (.bool true), (.int 181 0), (.ref 250), .none, (.ref 251), (.ref 252), (.ref 253), (.int 707 0), (.int 220 0), (.str "/claim/cut.py" 708)])), .mk []⟩
noncomputable def o179 : Obj := ⟨(.type "function"), none, (fd (tS 77) "cut" 3 .none .none .none (.str "framerune.csfold" 685) none (.ref 254) .none), .mk []⟩
noncomputable def t9 (P : Params) : BT := (.node (boot_o_0 P) (.node (boot_o_1 P) (.node (o158 P) (.node (boot_o_7 P) (.node o0 (.node o17 (.node o50 (.node o0 (L o179) .nil) (L o133)) (.node o72 (L o0) (L o154))) (.node o32 (.node o62 (L o104) (L o143)) (.node o1 (L o122) (L o166)))) (.node o12 (.node o24 (.node o0 (L o99) (L o138)) (.node o0 (L o1) (L o161))) (.node o41 (.node o67 (L o109) (L o0)) (.node o88 (L o0) (L o174))))) (.node o0 (.node o8 (.node o20 (.node o54 (L o0) (L o1)) (.node o76 (L o115) (L o0))) (.node o35 (.node o1 (L o106) (L o0)) (.node o86 (L o125) (L o170)))) (.node o15 (.node o12 (.node o0 (L o1) (L o140)) (.node o81 (L o120) (L o1))) (.node o46 (.node o69 (L o0) (L o150)) (.node o91 (L o0) (L o176)))))) (.node (boot_o_5 P) (.node (boot_o_9 P) (.node o7 (.node o18 (.node o52 (L o96) (L o135)) (.node (o74 P) (L o114) (L o156))) (.node o0 (.node o64 (L o0) (L o1)) (.node o0 (L o123) (L o168)))) (.node o0 (.node o26 (.node o59 (L o101) (L o0)) (.node o80 (L o0) (L o163))) (.node o44 (.node o0 (L o1) (L o148)) (.node o89 (L o128) (L o0))))) (.node o2 (.node o10 (.node (o22 P) (.node o12 (L o98) (L o0)) (.node o78 (L o117) (L (o160 P)))) (.node o37 (.node o0 (L o107) (L o146)) (.node o0 (L o1) (L o172)))) (.node o0 (.node o0 (.node o61 (L o0) (L o141)) (.node o83 (L o0) (L o0))) (.node o48 (.node o70 (L o112) (L (o152 P))) (.node o1 (L (o132 P)) (L o177))))))) (.node (o4 P) (.node (boot_o_4 P) (.node (boot_o_8 P) (.node o1 (.node o0 (.node o51 (L o95) (L o134)) (.node o73 (L o1) (L o155))) (.node o33 (.node o63 (L o105) (L o0)) (.node o84 (L o0) (L o167)))) (.node (o13 P) (.node o25 (.node o58 (L o100) (L o139)) (.node o1 (L o118) (L o162))) (.node o43 (.node o68 (L o0) (L o1)) (.node o0 (L o127) (L o175))))) (.node o159 (.node o9 (.node o21 (.node o0 (L o1) (L o136)) (.node o77 (L o116) (L o12))) (.node o36 (.node o65 (L o0) (L o145)) (.node o87 (L o0) (L o171)))) (.node o16 (.node (o31 P) (.node o1 (L o102) (L o0)) (.node o82 (L o121) (L o164))) (.node o47 (.node o0 (L o111) (L o151)) (.node o0 (L o12) (L o0)))))) (.node (boot_o_6 P) (.node (boot_o_10 P) (.node o0 (.node o19 (.node o53 (L o97) (L o0)) (.node o75 (L o0) (L o157))) (.node (o34 P) (.node o0 (L o1) (L o144)) (.node o85 (L o124) (L (o169 P))))) (.node o14 (.node o30 (.node o60 (L o0) (L o1)) (.node o0 (L o119) (L o0))) (.node o45 (.node o1 (L o110) (L o149)) (.node o90 (L o129) (L o1))))) (.node o3 (.node o11 (.node o29 (.node (o57 P) (L o0) (L o137)) (.node o79 (L o0) (L o0))) (.node o39 (.node o66 (L o108) (L o147)) (.node o1 (L o126) (L o173)))) (.node o1 (.node o1 (.node o0 (L o103) (L o142)) (.node o0 (L o1) (L o165))) (.node o49 (.node o71 (L o113) (L o153)) (.node o94 (L o0) (L o178))))))))
theorem p9 (w : World) : Pc 63 15 388 227 631 t8 ⟨194, 0, 194, 6⟩ 256 710 t9 ⟨220, 0, 222, 45⟩ w := by kernel_rfl
noncomputable def e85 (P : Params) : DictEntry := ke P "in_range" 719 (.ref 262)
noncomputable def e86 (P : Params) : DictEntry := ke P "fold_width" 726 (.ref 269)
noncomputable def e87 (P : Params) : DictEntry := ke P "fold_compare" 735 (.ref 276)
noncomputable def e88 (P : Params) : DictEntry := ke P "fold_bits" 744 (.ref 283)
noncomputable def e89 (P : Params) : DictEntry := ke P "fold_shift" 755 (.ref 290)
noncomputable def e90 (P : Params) : DictEntry := ke P "fold_divide" 768 (.ref 297)
noncomputable def e91 (P : Params) : DictEntry := ke P "fold_whole" 777 (.ref 304)
noncomputable def e92 (P : Params) : DictEntry := ke P "fold_bin" 788 (.ref 311)
noncomputable def e93 (P : Params) : DictEntry := ke P "fold_un" 798 (.ref 318)
noncomputable def e94 (P : Params) : DictEntry := ke P "fold_conv" 808 (.ref 325)
noncomputable def e95 (P : Params) : DictEntry := ke P "known" 815 (.ref 332)
noncomputable def e96 (P : Params) : DictEntry := ke P "numeric" 822 (.ref 339)
noncomputable def o180 (P : Params) : Obj := ⟨(.type "dict"), none, .dict (.mk (e70 P :: e1 P :: e2 P :: e3 P :: e4 P :: e5 P :: e6 P :: e7 P :: e8 P :: e9 P :: e10 P :: e11 P :: e12 P :: e13 P :: e14 P :: e15 P :: e16 P :: e17 P :: e18 P :: e19 P :: e20 P :: e21 P :: e22 P :: e23 P :: e24 P :: e25 P :: e26 P :: e27 P :: e28 P :: e29 P :: e30 P :: e31 P :: e32 P :: e33 P :: e34 P :: e35 P :: e36 P :: e37 P :: e38 P :: e39 P :: e40 P :: e41 P :: e42 P :: e43 P :: e44 P :: e45 P :: e46 P :: e47 P :: e48 P :: e49 P :: e51 P :: e52 P :: e53 P :: e54 P :: e55 P :: e56 P :: e57 P :: e58 P :: e59 P :: e61 P :: e62 P :: e63 P :: e64 P :: e65 P :: e66 P :: e67 P :: e68 P :: e69 P :: e71 P :: e72 P :: e73 P :: e74 P :: e75 P :: e76 P :: e77 P :: e78 P :: e79 P :: e80 P :: e81 P :: e82 P :: e83 P :: e84 P :: e85 P :: e86 P :: e87 P :: e88 P :: e89 P :: e90 P :: e91 P :: e92 P :: e93 P :: e94 P :: e95 P :: e96 P :: [])) 94, .mk []⟩
noncomputable def o181 : Obj := ⟨.none, none, (.fields (.mk ((.int 1 0) :: (.int 0 0) :: (.ref 20) :: (.int 5 0) :: (.int 0 0) :: (.ref 27) :: (.int 10 0) :: (.int 0 0) :: (.ref 47) :: (.int 47 0) :: (.int 0 0) :: (.ref 73) :: (.int 96 0) :: (.int 0 0) :: (.ref 108) :: (.int 105 0) :: (.int 0 0) :: (.ref 115) :: (.int 109 0) :: (.int 0 0) :: (.ref 122) :: (.int 115 0) :: (.int 0 0) :: (.ref 129) :: (.int 137 0) :: (.int 0 0) :: (.ref 136) :: (.int 141 0) :: (.int 0 0) :: (.ref 143) :: (.int 145 0) :: (.int 0 0) :: (.ref 150) :: (.int 150 0) :: (.int 0 0) :: (.ref 157) :: (.int 159 0) :: (.int 0 0) :: (.ref 164) :: (.int 163 0) :: (.int 0 0) :: (.ref 171) :: (.int 166 0) :: (.int 0 0) :: (.ref 178) :: (.int 170 0) :: (.int 0 0) :: (.ref 185) :: (.int 173 0) :: (.int 0 0) :: (.ref 192) :: (.int 203 0) :: (.int 0 0) :: (.ref 232) :: (.int 220 0) :: (.int 0 0) :: (.ref 254) :: (.int 223 0) :: (.int 0 0) :: (.ref 261) :: (.int 226 0) :: (.int 0 0) :: (.ref 268) :: (.int 230 0) :: (.int 0 0) :: (.ref 275) :: (.int 242 0) :: (.int 0 0) :: (.ref 282) :: (.int 248 0) :: (.int 0 0) :: (.ref 289) :: (.int 253 0) :: (.int 0 0) :: (.ref 296) :: (.int 267 0) :: (.int 0 0) :: (.ref 303) :: (.int 273 0) :: (.int 0 0) :: (.ref 310) :: (.int 287 0) :: (.int 0 0) :: (.ref 317) :: (.int 293 0) :: (.int 0 0) :: (.ref 324) :: (.int 298 0) :: (.int 0 0) :: (.ref 331) :: (.int 300 0) :: (.int 0 0) :: (.ref 338) :: []))), .mk []⟩
noncomputable def o182 : Obj := ⟨(.type "tuple"), none, (.seq (.mk [(.str "k" 713), (.str "n" 714), (.str "low" 715), (.str "high" 716)]) 0), .mk []⟩
noncomputable def o183 : Obj := ⟨.none, none, (fd (tS 78) "in_range" 0 .none .none .none .none none .none .none), .mk []⟩
noncomputable def o184 : Obj := ⟨(.type "code"), none, (.fields (.mk [(.str "in_range" 710), (.str "in_range" 711), (.str "/claim/cut.py" 712), (.int 223 0), (.int 2 0), (.int 0 0), (.int 0 0), (.int 3 0), (.ref 256), (.bool true), (.int 181 0), (.ref 257), .none, (.ref 258), (.ref 259), (.ref 260), (.int 717 0), (.int 223 0), (.str "/claim/cut.py" 718)])), .mk []⟩
noncomputable def o185 : Obj := ⟨(.type "function"), none, (fd (tS 78) "in_range" 3 .none .none .none (.str "framerune.csfold" 685) none (.ref 261) .none), .mk []⟩
noncomputable def o186 : Obj := ⟨(.type "tuple"), none, (.seq (.mk [(.str "k" 723)]) 0), .mk []⟩
noncomputable def o187 : Obj := ⟨.none, none, (fd (tS 79) "fold_width" 0 .none .none .none .none none .none .none), .mk []⟩
noncomputable def o188 : Obj := ⟨(.type "code"), none, (.fields (.mk [(.str "fold_width" 720), (.str "fold_width" 721), (.str "/claim/cut.py" 722), (.int 226 0), (.int 1 0), (.int 0 0), (.int 0 0), (.int 3 0), (.ref 263), (.bool true), (.int 181 0), (.ref 264), .none, (.ref 265), (.ref 266), (.ref 267), (.int 724 0), (.int 226 0), (.str "/claim/cut.py" 725)])), .mk []⟩
noncomputable def o189 : Obj := ⟨(.type "function"), none, (fd (tS 79) "fold_width" 3 .none .none .none (.str "framerune.csfold" 685) none (.ref 268) .none), .mk []⟩
noncomputable def o190 : Obj := ⟨(.type "tuple"), none, (.seq (.mk [(.str "op" 730), (.str "a" 731), (.str "b" 732)]) 0), .mk []⟩
noncomputable def o191 : Obj := ⟨.none, none, (fd (tS 80) "fold_compare" 0 .none .none .none .none none .none .none), .mk []⟩
noncomputable def o192 : Obj := ⟨(.type "code"), none, (.fields (.mk [(.str "fold_compare" 727), (.str "fold_compare" 728), (.str "/claim/cut.py" 729), (.int 230 0), (.int 3 0), (.int 0 0), (.int 0 0), (.int 3 0), (.ref 270), (.bool true), (.int 181 0), (.ref 271), .none, (.ref 272), (.ref 273), (.ref 274), (.int 733 0), (.int 230 0), (.str "/claim/cut.py" 734)])), .mk []⟩
noncomputable def o193 : Obj := ⟨(.type "function"), none, (fd (tS 80) "fold_compare" 3 .none .none .none (.str "framerune.csfold" 685) none (.ref 275) .none), .mk []⟩
noncomputable def o194 : Obj := ⟨(.type "tuple"), none, (.seq (.mk [(.str "op" 739), (.str "a" 740), (.str "b" 741)]) 0), .mk []⟩
noncomputable def o195 : Obj := ⟨.none, none, (fd (tS 81) "fold_bits" 0 .none .none .none .none none .none .none), .mk []⟩
noncomputable def o196 : Obj := ⟨(.type "code"), none, (.fields (.mk [(.str "fold_bits" 736), (.str "fold_bits" 737), (.str "/claim/cut.py" 738), (.int 242 0), (.int 3 0), (.int 0 0), (.int 0 0), (.int 3 0), (.ref 277), (.bool true), (.int 181 0), (.ref 278), .none, (.ref 279), (.ref 280), (.ref 281), (.int 742 0), (.int 242 0), (.str "/claim/cut.py" 743)])), .mk []⟩
noncomputable def o197 : Obj := ⟨(.type "function"), none, (fd (tS 81) "fold_bits" 3 .none .none .none (.str "framerune.csfold" 685) none (.ref 282) .none), .mk []⟩
noncomputable def o198 : Obj := ⟨(.type "tuple"), none, (.seq (.mk [(.str "op" 748), (.str "k" 749), (.str "a" 750), (.str "b" 751), (.str "n" 752)]) 0), .mk []⟩
noncomputable def o199 : Obj := ⟨.none, none, (fd (tS 82) "fold_shift" 0 .none .none .none .none none .none .none), .mk []⟩
noncomputable def o200 : Obj := ⟨(.type "code"), none, (.fields (.mk [(.str "fold_shift" 745), (.str "fold_shift" 746), (.str "/claim/cut.py" 747), (.int 248 0), (.int 4 0), (.int 0 0), (.int 0 0), (.int 3 0), (.ref 284), (.bool true), (.int 181 0), (.ref 285), .none, (.ref 286), (.ref 287), (.ref 288), (.int 753 0), (.int 248 0), (.str "/claim/cut.py" 754)])), .mk []⟩
noncomputable def o201 : Obj := ⟨(.type "function"), none, (fd (tS 82) "fold_shift" 3 .none .none .none (.str "framerune.csfold" 685) none (.ref 289) .none), .mk []⟩
noncomputable def o202 : Obj := ⟨(.type "tuple"), none, (.seq (.mk [(.str "op" 759), (.str "k" 760), (.str "a" 761), (.str "b" 762), (.str "checked" 763), (.str "low" 764), (.str "q" 765)]) 0), .mk []⟩
noncomputable def o203 : Obj := ⟨.none, none, (fd (tS 83) "fold_divide" 0 .none .none .none .none none .none .none), .mk []⟩
noncomputable def o204 : Obj := ⟨(.type "code"), none, (.fields (.mk [(.str "fold_divide" 756), (.str "fold_divide" 757), (.str "/claim/cut.py" 758), (.int 253 0), (.int 5 0), (.int 0 0), (.int 0 0), (.int 3 0), (.ref 291), (.bool true), (.int 181 0), (.ref 292), .none, (.ref 293), (.ref 294), (.ref 295), (.int 766 0), (.int 253 0), (.str "/claim/cut.py" 767)])), .mk []⟩
noncomputable def o205 : Obj := ⟨(.type "function"), none, (fd (tS 83) "fold_divide" 3 .none .none .none (.str "framerune.csfold" 685) none (.ref 296) .none), .mk []⟩
noncomputable def o206 : Obj := ⟨(.type "tuple"), none, (.seq (.mk [(.str "k" 772), (.str "n" 773), (.str "checked" 774)]) 0), .mk []⟩
noncomputable def o207 : Obj := ⟨.none, none, (fd (tS 84) "fold_whole" 0 .none .none .none .none none .none .none), .mk []⟩
noncomputable def o208 : Obj := ⟨(.type "code"), none, (.fields (.mk [(.str "fold_whole" 769), (.str "fold_whole" 770), (.str "/claim/cut.py" 771), (.int 267 0), (.int 3 0), (.int 0 0), (.int 0 0), (.int 3 0), (.ref 298), (.bool true), (.int 181 0), (.ref 299), .none, (.ref 300), (.ref 301), (.ref 302), (.int 775 0), (.int 267 0), (.str "/claim/cut.py" 776)])), .mk []⟩
noncomputable def o209 : Obj := ⟨(.type "function"), none, (fd (tS 84) "fold_whole" 3 .none .none .none (.str "framerune.csfold" 685) none (.ref 303) .none), .mk []⟩
noncomputable def o210 : Obj := ⟨(.type "tuple"), none, (.seq (.mk [(.str "op" 781), (.str "k" 782), (.str "a" 783), (.str "b" 784), (.str "checked" 785)]) 0), .mk []⟩
noncomputable def o211 : Obj := ⟨.none, none, (fd (tS 85) "fold_bin" 0 .none .none .none .none none .none .none), .mk []⟩
noncomputable def o212 : Obj := ⟨(.type "code"), none, (.fields (.mk [(.str "fold_bin" 778), (.str "fold_bin" 779), (.str "/claim/cut.py" 780), (.int 273 0), (.int 5 0), (.int 0 0), (.int 0 0), (.int 3 0), (.ref 305), (.bool true), (.int 181 0), (.ref 306), .none, (.ref 307), (.ref 308), (.ref 309), (.int 786 0), (.int 273 0), (.str "/claim/cut.py" 787)])), .mk []⟩
noncomputable def o213 : Obj := ⟨(.type "function"), none, (fd (tS 85) "fold_bin" 3 .none .none .none (.str "framerune.csfold" 685) none (.ref 310) .none), .mk []⟩
noncomputable def o214 : Obj := ⟨(.type "tuple"), none, (.seq (.mk [(.str "op" 792), (.str "k" 793), (.str "a" 794), (.str "checked" 795)]) 0), .mk []⟩
noncomputable def o215 : Obj := ⟨.none, none, (fd (tS 86) "fold_un" 0 .none .none .none .none none .none .none), .mk []⟩
noncomputable def o216 : Obj := ⟨(.type "code"), none, (.fields (.mk [(.str "fold_un" 789), (.str "fold_un" 790), (.str "/claim/cut.py" 791), (.int 287 0), (.int 4 0), (.int 0 0), (.int 0 0), (.int 3 0), (.ref 312), (.bool true), (.int 181 0), (.ref 313), .none, (.ref 314), (.ref 315), (.ref 316), (.int 796 0), (.int 287 0), (.str "/claim/cut.py" 797)])), .mk []⟩
noncomputable def o217 : Obj := ⟨(.type "function"), none, (fd (tS 86) "fold_un" 3 .none .none .none (.str "framerune.csfold" 685) none (.ref 317) .none), .mk []⟩
noncomputable def o218 : Obj := ⟨(.type "tuple"), none, (.seq (.mk [(.str "k" 802), (.str "value" 803), (.str "checked" 804), (.str "pair" 805)]) 0), .mk []⟩
noncomputable def o219 : Obj := ⟨.none, none, (fd (tS 87) "fold_conv" 0 .none .none .none .none none .none .none), .mk []⟩
noncomputable def o220 : Obj := ⟨(.type "code"), none, (.fields (.mk [(.str "fold_conv" 799), (.str "fold_conv" 800), (.str "/claim/cut.py" 801), (.int 293 0), (.int 3 0), (.int 0 0), (.int 0 0), (.int 3 0), (.ref 319), (.bool true), (.int 181 0), (.ref 320), .none, (.ref 321), (.ref 322), (.ref 323), (.int 806 0), (.int 293 0), (.str "/claim/cut.py" 807)])), .mk []⟩
noncomputable def o221 : Obj := ⟨(.type "function"), none, (fd (tS 87) "fold_conv" 3 .none .none .none (.str "framerune.csfold" 685) none (.ref 324) .none), .mk []⟩
noncomputable def o222 : Obj := ⟨(.type "tuple"), none, (.seq (.mk [(.str "e" 812)]) 0), .mk []⟩
noncomputable def o223 : Obj := ⟨.none, none, (fd (tS 88) "known" 0 .none .none .none .none none .none .none), .mk []⟩
noncomputable def o224 : Obj := ⟨(.type "code"), none, (.fields (.mk [(.str "known" 809), (.str "known" 810), (.str "/claim/cut.py" 811), (.int 298 0), (.int 1 0), (.int 0 0), (.int 0 0), (.int 3 0), (.ref 326), (.bool true), (.int 181 0), (.ref 327), .none, (.ref 328), (.ref 329), (.ref 330), (.int 813 0), (.int 298 0), (.str "/claim/cut.py" 814)])), .mk []⟩
noncomputable def o225 : Obj := ⟨(.type "function"), none, (fd (tS 88) "known" 3 .none .none .none (.str "framerune.csfold" 685) none (.ref 331) .none), .mk []⟩
noncomputable def o226 : Obj := ⟨(.type "tuple"), none, (.seq (.mk [(.str "e" 819)]) 0), .mk []⟩
noncomputable def o227 : Obj := ⟨.none, none, (fd (tS 89) "numeric" 0 .none .none .none .none none .none .none), .mk []⟩
noncomputable def o228 : Obj := ⟨(.type "code"), none, (.fields (.mk [(.str "numeric" 816), (.str "numeric" 817), (.str "/claim/cut.py" 818), (.int 300 0), (.int 1 0), (.int 0 0), (.int 0 0), (.int 3 0), (.ref 333), (.bool true), (.int 181 0), (.ref 334), .none, (.ref 335), (.ref 336), (.ref 337), (.int 820 0), (.int 300 0), (.str "/claim/cut.py" 821)])), .mk []⟩
noncomputable def o229 : Obj := ⟨(.type "function"), none, (fd (tS 89) "numeric" 3 .none .none .none (.str "framerune.csfold" 685) none (.ref 338) .none), .mk []⟩
noncomputable def t10 (P : Params) : BT := (.node (boot_o_0 P) (.node (boot_o_1 P) (.node (o180 P) (.node (boot_o_7 P) (.node o0 (.node o17 (.node o50 (.node o0 (L o179) .nil) (.node o133 (L o0) .nil)) (.node o72 (.node o0 (L o0) .nil) (L o154))) (.node o32 (.node o62 (.node o104 (L o1) .nil) (.node o143 (L o226) .nil)) (.node o1 (.node o122 (L o208) .nil) (L o166)))) (.node o12 (.node o24 (.node o0 (.node o99 (L o0) .nil) (.node o138 (L o1) .nil)) (.node o0 (.node o1 (L o203) .nil) (L o161))) (.node o41 (.node o67 (.node o109 (L o194) .nil) (L o0)) (.node o88 (.node o0 (L o213) .nil) (L o174))))) (.node o0 (.node o8 (.node o20 (.node o54 (.node o0 (L o0) .nil) (.node o1 (L o219) .nil)) (.node o76 (.node o115 (L o0) .nil) (L o0))) (.node o35 (.node o1 (.node o106 (L o192) .nil) (.node o0 (L o229) .nil)) (.node o86 (.node o125 (L o210) .nil) (L o170)))) (.node o15 (.node o12 (.node o0 (.node o1 (L o187) .nil) (.node o140 (L o224) .nil)) (.node o81 (.node o120 (L o1) .nil) (L o1))) (.node o46 (.node o69 (.node o0 (L o197) .nil) (L o150)) (.node o91 (.node o0 (L o0) .nil) (L o176)))))) (.node (boot_o_5 P) (.node (boot_o_9 P) (.node o7 (.node o18 (.node o52 (.node o96 (L o1) .nil) (.node o135 (L o218) .nil)) (.node (o74 P) (.node o114 (L o200) .nil) (L o156))) (.node o0 (.node o64 (.node o0 (L o0) .nil) (.node o1 (L o227) .nil)) (.node o0 (.node o123 (L o0) .nil) (L o168)))) (.node o0 (.node o26 (.node o59 (.node o101 (L o186) .nil) (.node o0 (L o0) .nil)) (.node o80 (.node o0 (L o205) .nil) (L o163))) (.node o44 (.node o0 (.node o1 (L o195) .nil) (L o148)) (.node o89 (.node o128 (L o1) .nil) (L o0))))) (.node o2 (.node o10 (.node (o22 P) (.node o12 (.node o98 (L o184) .nil) (.node o0 (L o221) .nil)) (.node o78 (.node o117 (L o202) .nil) (L (o160 P)))) (.node o37 (.node o0 (.node o107 (L o0) .nil) (L o146)) (.node o0 (.node o1 (L o211) .nil) (L o172)))) (.node o0 (.node o0 (.node o61 (.node o0 (L o189) .nil) (.node o141 (L o0) .nil)) (.node o83 (.node o0 (L o0) .nil) (L o0))) (.node o48 (.node o70 (.node o112 (L o1) .nil) (L (o152 P))) (.node o1 (.node (o132 P) (L o216) .nil) (L o177))))))) (.node (o4 P) (.node (boot_o_4 P) (.node (boot_o_8 P) (.node o1 (.node o0 (.node o51 (.node o95 (L o0) .nil) (.node o134 (L o1) .nil)) (.node o73 (.node o1 (L o199) .nil) (L o155))) (.node o33 (.node o63 (.node o105 (L o190) .nil) (.node o0 (L o0) .nil)) (.node o84 (.node o0 (L o209) .nil) (L o167)))) (.node (o13 P) (.node o25 (.node o58 (.node o100 (L o1) .nil) (.node o139 (L o222) .nil)) (.node o1 (.node o118 (L o204) .nil) (L o162))) (.node o43 (.node o68 (.node o0 (L o0) .nil) (L o1)) (.node o0 (.node o127 (L o0) .nil) (L o175))))) (.node o181 (.node o9 (.node o21 (.node o0 (.node o1 (L o183) .nil) (.node o136 (L o220) .nil)) (.node o77 (.node o116 (L o1) .nil) (L o12))) (.node o36 (.node o65 (.node o0 (L o193) .nil) (L o145)) (.node o87 (.node o0 (L o0) .nil) (L o171)))) (.node o16 (.node (o31 P) (.node o1 (.node o102 (L o188) .nil) (.node o0 (L o225) .nil)) (.node o82 (.node o121 (L o206) .nil) (L o164))) (.node o47 (.node o0 (.node o111 (L o0) .nil) (L o151)) (.node o0 (.node o12 (L o215) .nil) (L o0)))))) (.node (boot_o_6 P) (.node (boot_o_10 P) (.node o0 (.node o19 (.node o53 (.node o97 (L o182) .nil) (.node o0 (L o0) .nil)) (.node o75 (.node o0 (L o201) .nil) (L o157))) (.node (o34 P) (.node o0 (.node o1 (L o191) .nil) (.node o144 (L o228) .nil)) (.node o85 (.node o124 (L o1) .nil) (L (o169 P))))) (.node o14 (.node o30 (.node o60 (.node o0 (L o0) .nil) (.node o1 (L o223) .nil)) (.node o0 (.node o119 (L o0) .nil) (L o0))) (.node o45 (.node o1 (.node o110 (L o196) .nil) (L o149)) (.node o90 (.node o129 (L o214) .nil) (L o1))))) (.node o3 (.node o11 (.node o29 (.node (o57 P) (.node o0 (L o185) .nil) (.node o137 (L o0) .nil)) (.node o79 (.node o0 (L o0) .nil) (L o0))) (.node o39 (.node o66 (.node o108 (L o1) .nil) (L o147)) (.node o1 (.node o126 (L o212) .nil) (L o173)))) (.node o1 (.node o1 (.node o0 (.node o103 (L o0) .nil) (.node o142 (L o1) .nil)) (.node o0 (.node o1 (L o207) .nil) (L o165))) (.node o49 (.node o71 (.node o113 (L o198) .nil) (L o153)) (.node o94 (.node o0 (L o217) .nil) (L o178))))))))
theorem p10 (w : World) : Pc 78 12 378 256 710 t9 ⟨220, 0, 222, 45⟩ 340 823 t10 ⟨300, 0, 301, 61⟩ w := by kernel_rfl
noncomputable def e97 (P : Params) : DictEntry := ke P "made" 830 (.ref 346)
noncomputable def e98 (P : Params) : DictEntry := ke P "bin_known" 839 (.ref 353)
noncomputable def e99 (P : Params) : DictEntry := ke P "bin_result" 846 (.ref 360)
noncomputable def e100 (P : Params) : DictEntry := ke P "fold_unary" 853 (.ref 367)
noncomputable def e101 (P : Params) : DictEntry := ke P "fold_binary" 860 (.ref 374)
noncomputable def e102 (P : Params) : DictEntry := ke P "fold_logic" 867 (.ref 381)
noncomputable def e103 (P : Params) : DictEntry := ke P "fold_choice" 874 (.ref 388)
noncomputable def e104 (P : Params) : DictEntry := ke P "is_constant_null" 881 (.ref 395)
noncomputable def e105 (P : Params) : DictEntry := ke P "null_turned" 888 (.ref 402)
noncomputable def e106 (P : Params) : DictEntry := ke P "fold_convert" 896 (.ref 409)
noncomputable def e107 (P : Params) : DictEntry := ke P "fold_default" 903 (.ref 416)
noncomputable def e108 (P : Params) : DictEntry := ke P "text_part" 910 (.ref 423)
noncomputable def e109 (P : Params) : DictEntry := ke P "fold_concat" 921 (.ref 430)
noncomputable def o230 (P : Params) : Obj := ⟨(.type "dict"), none, .dict (.mk (e70 P :: e1 P :: e2 P :: e3 P :: e4 P :: e5 P :: e6 P :: e7 P :: e8 P :: e9 P :: e10 P :: e11 P :: e12 P :: e13 P :: e14 P :: e15 P :: e16 P :: e17 P :: e18 P :: e19 P :: e20 P :: e21 P :: e22 P :: e23 P :: e24 P :: e25 P :: e26 P :: e27 P :: e28 P :: e29 P :: e30 P :: e31 P :: e32 P :: e33 P :: e34 P :: e35 P :: e36 P :: e37 P :: e38 P :: e39 P :: e40 P :: e41 P :: e42 P :: e43 P :: e44 P :: e45 P :: e46 P :: e47 P :: e48 P :: e49 P :: e51 P :: e52 P :: e53 P :: e54 P :: e55 P :: e56 P :: e57 P :: e58 P :: e59 P :: e61 P :: e62 P :: e63 P :: e64 P :: e65 P :: e66 P :: e67 P :: e68 P :: e69 P :: e71 P :: e72 P :: e73 P :: e74 P :: e75 P :: e76 P :: e77 P :: e78 P :: e79 P :: e80 P :: e81 P :: e82 P :: e83 P :: e84 P :: e85 P :: e86 P :: e87 P :: e88 P :: e89 P :: e90 P :: e91 P :: e92 P :: e93 P :: e94 P :: e95 P :: e96 P :: e97 P :: e98 P :: e99 P :: e100 P :: e101 P :: e102 P :: e103 P :: e104 P :: e105 P :: e106 P :: e107 P :: e108 P :: e109 P :: [])) 107, .mk []⟩
noncomputable def o231 : Obj := ⟨.none, none, (.fields (.mk ((.int 1 0) :: (.int 0 0) :: (.ref 20) :: (.int 5 0) :: (.int 0 0) :: (.ref 27) :: (.int 10 0) :: (.int 0 0) :: (.ref 47) :: (.int 47 0) :: (.int 0 0) :: (.ref 73) :: (.int 96 0) :: (.int 0 0) :: (.ref 108) :: (.int 105 0) :: (.int 0 0) :: (.ref 115) :: (.int 109 0) :: (.int 0 0) :: (.ref 122) :: (.int 115 0) :: (.int 0 0) :: (.ref 129) :: (.int 137 0) :: (.int 0 0) :: (.ref 136) :: (.int 141 0) :: (.int 0 0) :: (.ref 143) :: (.int 145 0) :: (.int 0 0) :: (.ref 150) :: (.int 150 0) :: (.int 0 0) :: (.ref 157) :: (.int 159 0) :: (.int 0 0) :: (.ref 164) :: (.int 163 0) :: (.int 0 0) :: (.ref 171) :: (.int 166 0) :: (.int 0 0) :: (.ref 178) :: (.int 170 0) :: (.int 0 0) :: (.ref 185) :: (.int 173 0) :: (.int 0 0) :: (.ref 192) :: (.int 203 0) :: (.int 0 0) :: (.ref 232) :: (.int 220 0) :: (.int 0 0) :: (.ref 254) :: (.int 223 0) :: (.int 0 0) :: (.ref 261) :: (.int 226 0) :: (.int 0 0) :: (.ref 268) :: (.int 230 0) :: (.int 0 0) :: (.ref 275) :: (.int 242 0) :: (.int 0 0) :: (.ref 282) :: (.int 248 0) :: (.int 0 0) :: (.ref 289) :: (.int 253 0) :: (.int 0 0) :: (.ref 296) :: (.int 267 0) :: (.int 0 0) :: (.ref 303) :: (.int 273 0) :: (.int 0 0) :: (.ref 310) :: (.int 287 0) :: (.int 0 0) :: (.ref 317) :: (.int 293 0) :: (.int 0 0) :: (.ref 324) :: (.int 298 0) :: (.int 0 0) :: (.ref 331) :: (.int 300 0) :: (.int 0 0) :: (.ref 338) :: (.int 302 0) :: (.int 0 0) :: (.ref 345) :: (.int 306 0) :: (.int 0 0) :: (.ref 352) :: (.int 314 0) :: (.int 0 0) :: (.ref 359) :: (.int 316 0) :: (.int 0 0) :: (.ref 366) :: (.int 320 0) :: (.int 0 0) :: (.ref 373) :: (.int 324 0) :: (.int 0 0) :: (.ref 380) :: (.int 330 0) :: (.int 0 0) :: (.ref 387) :: (.int 336 0) :: (.int 0 0) :: (.ref 394) :: (.int 340 0) :: (.int 0 0) :: (.ref 401) :: (.int 346 0) :: (.int 0 0) :: (.ref 408) :: (.int 361 0) :: (.int 0 0) :: (.ref 415) :: (.int 367 0) :: (.int 0 0) :: (.ref 422) :: (.int 375 0) :: (.int 0 0) :: (.ref 429) :: []))), .mk []⟩
noncomputable def o232 : Obj := ⟨(.type "tuple"), none, (.seq (.mk [(.str "e" 826), (.str "pair" 827)]) 0), .mk []⟩
noncomputable def o233 : Obj := ⟨.none, none, (fd (tS 90) "made" 0 .none .none .none .none none .none .none), .mk []⟩
noncomputable def o234 : Obj := ⟨(.type "code"), none, (.fields (.mk [(.str "made" 823), (.str "made" 824), (.str "/claim/cut.py" 825), (.int 302 0), (.int 2 0), (.int 0 0), (.int 0 0), (.int 3 0), (.ref 340), (.bool true), (.int 181 0), (.ref 341), .none, (.ref 342), (.ref 343), (.ref 344), (.int 828 0), (.int 302 0), (.str "/claim/cut.py" 829)])), .mk []⟩
noncomputable def o235 : Obj := ⟨(.type "function"), none, (fd (tS 90) "made" 3 .none .none .none (.str "framerune.csfold" 685) none (.ref 345) .none), .mk []⟩
noncomputable def o236 : Obj := ⟨(.type "tuple"), none, (.seq (.mk [(.str "e" 834), (.str "l" 835), (.str "r" 836)]) 0), .mk []⟩
noncomputable def o237 : Obj := ⟨.none, none, (fd (tS 91) "bin_known" 0 .none .none .none .none none .none .none), .mk []⟩
noncomputable def o238 : Obj := ⟨(.type "code"), none, (.fields (.mk [(.str "bin_known" 831), (.str "bin_known" 832), (.str "/claim/cut.py" 833), (.int 306 0), (.int 1 0), (.int 0 0), (.int 0 0), (.int 3 0), (.ref 347), (.bool true), (.int 181 0), (.ref 348), .none, (.ref 349), (.ref 350), (.ref 351), (.int 837 0), (.int 306 0), (.str "/claim/cut.py" 838)])), .mk []⟩
noncomputable def o239 : Obj := ⟨(.type "function"), none, (fd (tS 91) "bin_known" 3 .none .none .none (.str "framerune.csfold" 685) none (.ref 352) .none), .mk []⟩
noncomputable def o240 : Obj := ⟨(.type "tuple"), none, (.seq (.mk [(.str "e" 843)]) 0), .mk []⟩
noncomputable def o241 : Obj := ⟨.none, none, (fd (tS 92) "bin_result" 0 .none .none .none .none none .none .none), .mk []⟩
noncomputable def o242 : Obj := ⟨(.type "code"), none, (.fields (.mk [(.str "bin_result" 840), (.str "bin_result" 841), (.str "/claim/cut.py" 842), (.int 314 0), (.int 1 0), (.int 0 0), (.int 0 0), (.int 3 0), (.ref 354), (.bool true), (.int 181 0), (.ref 355), .none, (.ref 356), (.ref 357), (.ref 358), (.int 844 0), (.int 314 0), (.str "/claim/cut.py" 845)])), .mk []⟩
noncomputable def o243 : Obj := ⟨(.type "function"), none, (fd (tS 92) "bin_result" 3 .none .none .none (.str "framerune.csfold" 685) none (.ref 359) .none), .mk []⟩
noncomputable def o244 : Obj := ⟨(.type "tuple"), none, (.seq (.mk [(.str "e" 850)]) 0), .mk []⟩
noncomputable def o245 : Obj := ⟨.none, none, (fd (tS 93) "fold_unary" 0 .none .none .none .none none .none .none), .mk []⟩
noncomputable def o246 : Obj := ⟨(.type "code"), none, (.fields (.mk [(.str "fold_unary" 847), (.str "fold_unary" 848), (.str "/claim/cut.py" 849), (.int 316 0), (.int 1 0), (.int 0 0), (.int 0 0), (.int 3 0), (.ref 361), (.bool true), (.int 181 0), (.ref 362), .none, (.ref 363), (.ref 364), (.ref 365), (.int 851 0), (.int 316 0), (.str "/claim/cut.py" 852)])), .mk []⟩
noncomputable def o247 : Obj := ⟨(.type "function"), none, (fd (tS 93) "fold_unary" 3 .none .none .none (.str "framerune.csfold" 685) none (.ref 366) .none), .mk []⟩
noncomputable def o248 : Obj := ⟨(.type "tuple"), none, (.seq (.mk [(.str "e" 857)]) 0), .mk []⟩
noncomputable def o249 : Obj := ⟨.none, none, (fd (tS 94) "fold_binary" 0 .none .none .none .none none .none .none), .mk []⟩
noncomputable def o250 : Obj := ⟨(.type "code"), none, (.fields (.mk [(.str "fold_binary" 854), (.str "fold_binary" 855), (.str "/claim/cut.py" 856), (.int 320 0), (.int 1 0), (.int 0 0), (.int 0 0), (.int 3 0), (.ref 368), (.bool true), (.int 181 0), (.ref 369), .none, (.ref 370), (.ref 371), (.ref 372), (.int 858 0), (.int 320 0), (.str "/claim/cut.py" 859)])), .mk []⟩
noncomputable def o251 : Obj := ⟨(.type "function"), none, (fd (tS 94) "fold_binary" 3 .none .none .none (.str "framerune.csfold" 685) none (.ref 373) .none), .mk []⟩
noncomputable def o252 : Obj := ⟨(.type "tuple"), none, (.seq (.mk [(.str "e" 864)]) 0), .mk []⟩
noncomputable def o253 : Obj := ⟨.none, none, (fd (tS 95) "fold_logic" 0 .none .none .none .none none .none .none), .mk []⟩
noncomputable def o254 : Obj := ⟨(.type "code"), none, (.fields (.mk [(.str "fold_logic" 861), (.str "fold_logic" 862), (.str "/claim/cut.py" 863), (.int 324 0), (.int 1 0), (.int 0 0), (.int 0 0), (.int 3 0), (.ref 375), (.bool true), (.int 181 0), (.ref 376), .none, (.ref 377), (.ref 378), (.ref 379), (.int 865 0), (.int 324 0), (.str "/claim/cut.py" 866)])), .mk []⟩
noncomputable def o255 : Obj := ⟨(.type "function"), none, (fd (tS 95) "fold_logic" 3 .none .none .none (.str "framerune.csfold" 685) none (.ref 380) .none), .mk []⟩
noncomputable def o256 : Obj := ⟨(.type "tuple"), none, (.seq (.mk [(.str "e" 871)]) 0), .mk []⟩
noncomputable def o257 : Obj := ⟨.none, none, (fd (tS 96) "fold_choice" 0 .none .none .none .none none .none .none), .mk []⟩
noncomputable def o258 : Obj := ⟨(.type "code"), none, (.fields (.mk [(.str "fold_choice" 868), (.str "fold_choice" 869), (.str "/claim/cut.py" 870), (.int 330 0), (.int 1 0), (.int 0 0), (.int 0 0), (.int 3 0), (.ref 382), (.bool true), (.int 181 0), (.ref 383), .none, (.ref 384), (.ref 385), (.ref 386), (.int 872 0), (.int 330 0), (.str "/claim/cut.py" 873)])), .mk []⟩
noncomputable def o259 : Obj := ⟨(.type "function"), none, (fd (tS 96) "fold_choice" 3 .none .none .none (.str "framerune.csfold" 685) none (.ref 387) .none), .mk []⟩
noncomputable def o260 : Obj := ⟨(.type "tuple"), none, (.seq (.mk [(.str "e" 878)]) 0), .mk []⟩
noncomputable def o261 : Obj := ⟨.none, none, (fd (tS 97) "is_constant_null" 0 .none .none .none .none none .none .none), .mk []⟩
noncomputable def o262 : Obj := ⟨(.type "code"), none, (.fields (.mk [(.str "is_constant_null" 875), (.str "is_constant_null" 876), (.str "/claim/cut.py" 877), (.int 336 0), (.int 1 0), (.int 0 0), (.int 0 0), (.int 3 0), (.ref 389), (.bool true), (.int 181 0), (.ref 390), .none, (.ref 391), (.ref 392), (.ref 393), (.int 879 0), (.int 336 0), (.str "/claim/cut.py" 880)])), .mk []⟩
noncomputable def o263 : Obj := ⟨(.type "function"), none, (fd (tS 97) "is_constant_null" 3 .none .none .none (.str "framerune.csfold" 685) none (.ref 394) .none), .mk []⟩
noncomputable def o264 : Obj := ⟨(.type "tuple"), none, (.seq (.mk [(.str "e" 885)]) 0), .mk []⟩
noncomputable def o265 : Obj := ⟨.none, none, (fd (tS 98) "null_turned" 0 .none .none .none .none none .none .none), .mk []⟩
noncomputable def o266 : Obj := ⟨(.type "code"), none, (.fields (.mk [(.str "null_turned" 882), (.str "null_turned" 883), (.str "/claim/cut.py" 884), (.int 340 0), (.int 1 0), (.int 0 0), (.int 0 0), (.int 3 0), (.ref 396), (.bool true), (.int 181 0), (.ref 397), .none, (.ref 398), (.ref 399), (.ref 400), (.int 886 0), (.int 340 0), (.str "/claim/cut.py" 887)])), .mk []⟩
noncomputable def o267 : Obj := ⟨(.type "function"), none, (fd (tS 98) "null_turned" 3 .none .none .none (.str "framerune.csfold" 685) none (.ref 401) .none), .mk []⟩
noncomputable def o268 : Obj := ⟨(.type "tuple"), none, (.seq (.mk [(.str "e" 892), (.str "inner" 893)]) 0), .mk []⟩
noncomputable def o269 : Obj := ⟨.none, none, (fd (tS 99) "fold_convert" 0 .none .none .none .none none .none .none), .mk []⟩
noncomputable def o270 : Obj := ⟨(.type "code"), none, (.fields (.mk [(.str "fold_convert" 889), (.str "fold_convert" 890), (.str "/claim/cut.py" 891), (.int 346 0), (.int 1 0), (.int 0 0), (.int 0 0), (.int 3 0), (.ref 403), (.bool true), (.int 181 0), (.ref 404), .none, (.ref 405), (.ref 406), (.ref 407), (.int 894 0), (.int 346 0), (.str "/claim/cut.py" 895)])), .mk []⟩
noncomputable def o271 : Obj := ⟨(.type "function"), none, (fd (tS 99) "fold_convert" 3 .none .none .none (.str "framerune.csfold" 685) none (.ref 408) .none), .mk []⟩
noncomputable def o272 : Obj := ⟨(.type "tuple"), none, (.seq (.mk [(.str "e" 900)]) 0), .mk []⟩
noncomputable def o273 : Obj := ⟨.none, none, (fd (tS 100) "fold_default" 0 .none .none .none .none none .none .none), .mk []⟩
noncomputable def o274 : Obj := ⟨(.type "code"), none, (.fields (.mk [(.str "fold_default" 897), (.str "fold_default" 898), (.str "/claim/cut.py" 899), (.int 361 0), (.int 1 0), (.int 0 0), (.int 0 0), (.int 3 0), (.ref 410), (.bool true), (.int 181 0), (.ref 411), .none, (.ref 412), (.ref 413), (.ref 414), (.int 901 0), (.int 361 0), (.str "/claim/cut.py" 902)])), .mk []⟩
noncomputable def o275 : Obj := ⟨(.type "function"), none, (fd (tS 100) "fold_default" 3 .none .none .none (.str "framerune.csfold" 685) none (.ref 415) .none), .mk []⟩
noncomputable def o276 : Obj := ⟨(.type "tuple"), none, (.seq (.mk [(.str "part" 907)]) 0), .mk []⟩
noncomputable def o277 : Obj := ⟨.none, none, (fd (tS 101) "text_part" 0 .none .none .none .none none .none .none), .mk []⟩
noncomputable def o278 : Obj := ⟨(.type "code"), none, (.fields (.mk [(.str "text_part" 904), (.str "text_part" 905), (.str "/claim/cut.py" 906), (.int 367 0), (.int 1 0), (.int 0 0), (.int 0 0), (.int 3 0), (.ref 417), (.bool true), (.int 181 0), (.ref 418), .none, (.ref 419), (.ref 420), (.ref 421), (.int 908 0), (.int 367 0), (.str "/claim/cut.py" 909)])), .mk []⟩
noncomputable def o279 : Obj := ⟨(.type "function"), none, (fd (tS 101) "text_part" 3 .none .none .none (.str "framerune.csfold" 685) none (.ref 422) .none), .mk []⟩
noncomputable def o280 : Obj := ⟨(.type "tuple"), none, (.seq (.mk [(.str "e" 914), (.str "parts" 915), (.str "last" 916), (.str "part" 917), (.str "text" 918)]) 0), .mk []⟩
noncomputable def o281 : Obj := ⟨.none, none, (fd (tS 102) "fold_concat" 0 .none .none .none .none none .none .none), .mk []⟩
noncomputable def o282 : Obj := ⟨(.type "code"), none, (.fields (.mk [(.str "fold_concat" 911), (.str "fold_concat" 912), (.str "/claim/cut.py" 913), (.int 375 0), (.int 1 0), (.int 0 0), (.int 0 0), (.int 3 0), (.ref 424), (.bool true), (.int 181 0), (.ref 425), .none, (.ref 426), (.ref 427), (.ref 428), (.int 919 0), (.int 375 0), (.str "/claim/cut.py" 920)])), .mk []⟩
noncomputable def o283 : Obj := ⟨(.type "function"), none, (fd (tS 102) "fold_concat" 3 .none .none .none (.str "framerune.csfold" 685) none (.ref 429) .none), .mk []⟩
noncomputable def t11 (P : Params) : BT := (.node (boot_o_0 P) (.node (boot_o_1 P) (.node (o230 P) (.node (boot_o_7 P) (.node o0 (.node o17 (.node o50 (.node o0 (L o179) (L o1)) (.node o133 (L o0) .nil)) (.node o72 (.node o0 (L o0) (L o274)) (.node o154 (L o237) .nil))) (.node o32 (.node o62 (.node o104 (L o1) (L o0)) (.node o143 (L o226) .nil)) (.node o1 (.node o122 (L o208) .nil) (.node o166 (L o247) .nil)))) (.node o12 (.node o24 (.node o0 (.node o99 (L o0) (L o260)) (.node o138 (L o1) .nil)) (.node o0 (.node o1 (L o203) (L o279)) (.node o161 (L o242) .nil))) (.node o41 (.node o67 (.node o109 (L o194) (L o269)) (.node o0 (L o0) .nil)) (.node o88 (.node o0 (L o213) .nil) (.node o174 (L o0) .nil))))) (.node o0 (.node o8 (.node o20 (.node o54 (.node o0 (L o0) (L o258)) (.node o1 (L o219) .nil)) (.node o76 (.node o115 (L o0) (L o276)) (.node o0 (L o1) .nil))) (.node o35 (.node o1 (.node o106 (L o192) (L o0)) (.node o0 (L o229) .nil)) (.node o86 (.node o125 (L o210) .nil) (.node o170 (L o0) .nil)))) (.node o15 (.node o12 (.node o0 (.node o1 (L o187) (L o263)) (.node o140 (L o224) .nil)) (.node o81 (.node o120 (L o1) (L o0)) (.node o1 (L o244) .nil))) (.node o46 (.node o69 (.node o0 (L o197) (L o1)) (.node o150 (L o0) .nil)) (.node o91 (.node o0 (L o0) .nil) (.node o176 (L o253) .nil)))))) (.node (boot_o_5 P) (.node (boot_o_9 P) (.node o7 (.node o18 (.node o52 (.node o96 (L o1) (L o0)) (.node o135 (L o218) .nil)) (.node (o74 P) (.node o114 (L o200) (L o0)) (.node o156 (L o239) .nil))) (.node o0 (.node o64 (.node o0 (L o0) (L o266)) (.node o1 (L o227) .nil)) (.node o0 (.node o123 (L o0) .nil) (.node o168 (L o1) .nil)))) (.node o0 (.node o26 (.node o59 (.node o101 (L o186) (L o261)) (.node o0 (L o0) .nil)) (.node o80 (.node o0 (L o205) (L o1)) (.node o163 (L o0) .nil))) (.node o44 (.node o0 (.node o1 (L o195) (L o271)) (.node o148 (L o234) .nil)) (.node o89 (.node o128 (L o1) .nil) (.node o0 (L o252) .nil))))) (.node o2 (.node o10 (.node (o22 P) (.node o12 (.node o98 (L o184) (L o0)) (.node o0 (L o221) .nil)) (.node o78 (.node o117 (L o202) (L o277)) (.node (o160 P) (L o0) .nil))) (.node o37 (.node o0 (.node o107 (L o0) (L o268)) (.node o146 (L o1) .nil)) (.node o0 (.node o1 (L o211) .nil) (.node o172 (L o250) .nil)))) (.node o0 (.node o0 (.node o61 (.node o0 (L o189) (L o1)) (.node o141 (L o0) .nil)) (.node o83 (.node o0 (L o0) (L o282)) (.node o0 (L o245) .nil))) (.node o48 (.node o70 (.node o112 (L o1) (L o0)) (.node (o152 P) (L o236) .nil)) (.node o1 (.node (o132 P) (L o216) .nil) (.node o177 (L o255) .nil))))))) (.node (o4 P) (.node (boot_o_4 P) (.node (boot_o_8 P) (.node o1 (.node o0 (.node o51 (.node o95 (L o0) (L o256)) (.node o134 (L o1) .nil)) (.node o73 (.node o1 (L o199) (L o275)) (.node o155 (L o238) .nil))) (.node o33 (.node o63 (.node o105 (L o190) (L o265)) (.node o0 (L o0) .nil)) (.node o84 (.node o0 (L o209) .nil) (.node o167 (L o0) .nil)))) (.node (o13 P) (.node o25 (.node o58 (.node o100 (L o1) (L o0)) (.node o139 (L o222) .nil)) (.node o1 (.node o118 (L o204) (L o0)) (.node o162 (L o243) .nil))) (.node o43 (.node o68 (.node o0 (L o0) (L o270)) (.node o1 (L o233) .nil)) (.node o0 (.node o127 (L o0) .nil) (.node o175 (L o1) .nil))))) (.node o231 (.node o9 (.node o21 (.node o0 (.node o1 (L o183) (L o259)) (.node o136 (L o220) .nil)) (.node o77 (.node o116 (L o1) (L o0)) (.node o12 (L o240) .nil))) (.node o36 (.node o65 (.node o0 (L o193) (L o1)) (.node o145 (L o0) .nil)) (.node o87 (.node o0 (L o0) .nil) (.node o171 (L o249) .nil)))) (.node o16 (.node (o31 P) (.node o1 (.node o102 (L o188) (L o0)) (.node o0 (L o225) .nil)) (.node o82 (.node o121 (L o206) (L o281)) (.node o164 (L o0) .nil))) (.node o47 (.node o0 (.node o111 (L o0) (L o272)) (.node o151 (L o1) .nil)) (.node o0 (.node o12 (L o215) .nil) (.node o0 (L o254) .nil)))))) (.node (boot_o_6 P) (.node (boot_o_10 P) (.node o0 (.node o19 (.node o53 (.node o97 (L o182) (L o257)) (.node o0 (L o0) .nil)) (.node o75 (.node o0 (L o201) (L o1)) (.node o157 (L o0) .nil))) (.node (o34 P) (.node o0 (.node o1 (L o191) (L o267)) (.node o144 (L o228) .nil)) (.node o85 (.node o124 (L o1) .nil) (.node (o169 P) (L o248) .nil)))) (.node o14 (.node o30 (.node o60 (.node o0 (L o0) (L o262)) (.node o1 (L o223) .nil)) (.node o0 (.node o119 (L o0) (L o280)) (.node o0 (L o1) .nil))) (.node o45 (.node o1 (.node o110 (L o196) (L o0)) (.node o149 (L o235) .nil)) (.node o90 (.node o129 (L o214) .nil) (.node o1 (L o0) .nil))))) (.node o3 (.node o11 (.node o29 (.node (o57 P) (.node o0 (L o185) (L o1)) (.node o137 (L o0) .nil)) (.node o79 (.node o0 (L o0) (L o278)) (.node o0 (L o241) .nil))) (.node o39 (.node o66 (.node o108 (L o1) (L o0)) (.node o147 (L o232) .nil)) (.node o1 (.node o126 (L o212) .nil) (.node o173 (L o251) .nil)))) (.node o1 (.node o1 (.node o0 (.node o103 (L o0) (L o264)) (.node o142 (L o1) .nil)) (.node o0 (.node o1 (L o207) (L o283)) (.node o165 (L o246) .nil))) (.node o49 (.node o71 (.node o113 (L o198) (L o273)) (.node o153 (L o0) .nil)) (.node o94 (.node o0 (L o217) .nil) (.node o178 (L o0) .nil))))))))
theorem p11 (w : World) : Pc 90 13 386 340 823 t10 ⟨300, 0, 301, 61⟩ 431 922 t11 ⟨375, 0, 391, 41⟩ w := by kernel_rfl
noncomputable def e110 (P : Params) : DictEntry := ke P "__name__" 165 (.str "framerune.cscore" 930)
noncomputable def e111 (P : Params) : DictEntry := ke P "fold" 929 (.ref 437)
noncomputable def o284 (P : Params) : Obj := ⟨(.type "dict"), none, .dict (.mk (e110 P :: e1 P :: e2 P :: e3 P :: e4 P :: e5 P :: e6 P :: e7 P :: e8 P :: e9 P :: e10 P :: e11 P :: e12 P :: e13 P :: e14 P :: e15 P :: e16 P :: e17 P :: e18 P :: e19 P :: e20 P :: e21 P :: e22 P :: e23 P :: e24 P :: e25 P :: e26 P :: e27 P :: e28 P :: e29 P :: e30 P :: e31 P :: e32 P :: e33 P :: e34 P :: e35 P :: e36 P :: e37 P :: e38 P :: e39 P :: e40 P :: e41 P :: e42 P :: e43 P :: e44 P :: e45 P :: e46 P :: e47 P :: e48 P :: e49 P :: e51 P :: e52 P :: e53 P :: e54 P :: e55 P :: e56 P :: e57 P :: e58 P :: e59 P :: e61 P :: e62 P :: e63 P :: e64 P :: e65 P :: e66 P :: e67 P :: e68 P :: e69 P :: e71 P :: e72 P :: e73 P :: e74 P :: e75 P :: e76 P :: e77 P :: e78 P :: e79 P :: e80 P :: e81 P :: e82 P :: e83 P :: e84 P :: e85 P :: e86 P :: e87 P :: e88 P :: e89 P :: e90 P :: e91 P :: e92 P :: e93 P :: e94 P :: e95 P :: e96 P :: e97 P :: e98 P :: e99 P :: e100 P :: e101 P :: e102 P :: e103 P :: e104 P :: e105 P :: e106 P :: e107 P :: e108 P :: e109 P :: e111 P :: [])) 108, .mk []⟩
noncomputable def o285 : Obj := ⟨.none, none, (.fields (.mk ((.int 1 0) :: (.int 0 0) :: (.ref 20) :: (.int 5 0) :: (.int 0 0) :: (.ref 27) :: (.int 10 0) :: (.int 0 0) :: (.ref 47) :: (.int 47 0) :: (.int 0 0) :: (.ref 73) :: (.int 96 0) :: (.int 0 0) :: (.ref 108) :: (.int 105 0) :: (.int 0 0) :: (.ref 115) :: (.int 109 0) :: (.int 0 0) :: (.ref 122) :: (.int 115 0) :: (.int 0 0) :: (.ref 129) :: (.int 137 0) :: (.int 0 0) :: (.ref 136) :: (.int 141 0) :: (.int 0 0) :: (.ref 143) :: (.int 145 0) :: (.int 0 0) :: (.ref 150) :: (.int 150 0) :: (.int 0 0) :: (.ref 157) :: (.int 159 0) :: (.int 0 0) :: (.ref 164) :: (.int 163 0) :: (.int 0 0) :: (.ref 171) :: (.int 166 0) :: (.int 0 0) :: (.ref 178) :: (.int 170 0) :: (.int 0 0) :: (.ref 185) :: (.int 173 0) :: (.int 0 0) :: (.ref 192) :: (.int 203 0) :: (.int 0 0) :: (.ref 232) :: (.int 220 0) :: (.int 0 0) :: (.ref 254) :: (.int 223 0) :: (.int 0 0) :: (.ref 261) :: (.int 226 0) :: (.int 0 0) :: (.ref 268) :: (.int 230 0) :: (.int 0 0) :: (.ref 275) :: (.int 242 0) :: (.int 0 0) :: (.ref 282) :: (.int 248 0) :: (.int 0 0) :: (.ref 289) :: (.int 253 0) :: (.int 0 0) :: (.ref 296) :: (.int 267 0) :: (.int 0 0) :: (.ref 303) :: (.int 273 0) :: (.int 0 0) :: (.ref 310) :: (.int 287 0) :: (.int 0 0) :: (.ref 317) :: (.int 293 0) :: (.int 0 0) :: (.ref 324) :: (.int 298 0) :: (.int 0 0) :: (.ref 331) :: (.int 300 0) :: (.int 0 0) :: (.ref 338) :: (.int 302 0) :: (.int 0 0) :: (.ref 345) :: (.int 306 0) :: (.int 0 0) :: (.ref 352) :: (.int 314 0) :: (.int 0 0) :: (.ref 359) :: (.int 316 0) :: (.int 0 0) :: (.ref 366) :: (.int 320 0) :: (.int 0 0) :: (.ref 373) :: (.int 324 0) :: (.int 0 0) :: (.ref 380) :: (.int 330 0) :: (.int 0 0) :: (.ref 387) :: (.int 336 0) :: (.int 0 0) :: (.ref 394) :: (.int 340 0) :: (.int 0 0) :: (.ref 401) :: (.int 346 0) :: (.int 0 0) :: (.ref 408) :: (.int 361 0) :: (.int 0 0) :: (.ref 415) :: (.int 367 0) :: (.int 0 0) :: (.ref 422) :: (.int 375 0) :: (.int 0 0) :: (.ref 429) :: (.int 392 0) :: (.int 0 0) :: (.ref 436) :: []))), .mk []⟩
noncomputable def o286 : Obj := ⟨(.type "tuple"), none, (.seq (.mk [(.str "e" 925), (.str "code" 926)]) 0), .mk []⟩
noncomputable def o287 : Obj := ⟨.none, none, (fd (tS 103) "fold" 0 .none .none .none .none none .none .none), .mk []⟩
noncomputable def o288 : Obj := ⟨(.type "code"), none, (.fields (.mk [(.str "fold" 922), (.str "fold" 923), (.str "/claim/cut.py" 924), (.int 392 0), (.int 1 0), (.int 0 0), (.int 0 0), (.int 3 0), (.ref 431), (.bool true), (.int 181 0), (.ref 432), .none, (.ref 433), (.ref 434), (.ref 435), (.int 927 0), (.int 392 0), (.str "/claim/cut.py" 928)])), .mk []⟩
noncomputable def o289 : Obj := ⟨(.type "function"), none, (fd (tS 103) "fold" 3 .none .none .none (.str "framerune.csfold" 685) none (.ref 436) .none), .mk []⟩
noncomputable def t12 (P : Params) : BT := (.node (boot_o_0 P) (.node (boot_o_1 P) (.node (o284 P) (.node (boot_o_7 P) (.node o0 (.node o17 (.node o50 (.node o0 (L o179) (L o1)) (.node o133 (L o0) .nil)) (.node o72 (.node o0 (L o0) (L o274)) (.node o154 (L o237) .nil))) (.node o32 (.node o62 (.node o104 (L o1) (L o0)) (.node o143 (L o226) .nil)) (.node o1 (.node o122 (L o208) (L o0)) (.node o166 (L o247) .nil)))) (.node o12 (.node o24 (.node o0 (.node o99 (L o0) (L o260)) (.node o138 (L o1) .nil)) (.node o0 (.node o1 (L o203) (L o279)) (.node o161 (L o242) .nil))) (.node o41 (.node o67 (.node o109 (L o194) (L o269)) (.node o0 (L o0) .nil)) (.node o88 (.node o0 (L o213) .nil) (.node o174 (L o0) .nil))))) (.node o0 (.node o8 (.node o20 (.node o54 (.node o0 (L o0) (L o258)) (.node o1 (L o219) .nil)) (.node o76 (.node o115 (L o0) (L o276)) (.node o0 (L o1) .nil))) (.node o35 (.node o1 (.node o106 (L o192) (L o0)) (.node o0 (L o229) .nil)) (.node o86 (.node o125 (L o210) (L o287)) (.node o170 (L o0) .nil)))) (.node o15 (.node o12 (.node o0 (.node o1 (L o187) (L o263)) (.node o140 (L o224) .nil)) (.node o81 (.node o120 (L o1) (L o0)) (.node o1 (L o244) .nil))) (.node o46 (.node o69 (.node o0 (L o197) (L o1)) (.node o150 (L o0) .nil)) (.node o91 (.node o0 (L o0) .nil) (.node o176 (L o253) .nil)))))) (.node (boot_o_5 P) (.node (boot_o_9 P) (.node o7 (.node o18 (.node o52 (.node o96 (L o1) (L o0)) (.node o135 (L o218) .nil)) (.node (o74 P) (.node o114 (L o200) (L o0)) (.node o156 (L o239) .nil))) (.node o0 (.node o64 (.node o0 (L o0) (L o266)) (.node o1 (L o227) .nil)) (.node o0 (.node o123 (L o0) (L o286)) (.node o168 (L o1) .nil)))) (.node o0 (.node o26 (.node o59 (.node o101 (L o186) (L o261)) (.node o0 (L o0) .nil)) (.node o80 (.node o0 (L o205) (L o1)) (.node o163 (L o0) .nil))) (.node o44 (.node o0 (.node o1 (L o195) (L o271)) (.node o148 (L o234) .nil)) (.node o89 (.node o128 (L o1) .nil) (.node o0 (L o252) .nil))))) (.node o2 (.node o10 (.node (o22 P) (.node o12 (.node o98 (L o184) (L o0)) (.node o0 (L o221) .nil)) (.node o78 (.node o117 (L o202) (L o277)) (.node (o160 P) (L o0) .nil))) (.node o37 (.node o0 (.node o107 (L o0) (L o268)) (.node o146 (L o1) .nil)) (.node o0 (.node o1 (L o211) (L o289)) (.node o172 (L o250) .nil)))) (.node o0 (.node o0 (.node o61 (.node o0 (L o189) (L o1)) (.node o141 (L o0) .nil)) (.node o83 (.node o0 (L o0) (L o282)) (.node o0 (L o245) .nil))) (.node o48 (.node o70 (.node o112 (L o1) (L o0)) (.node (o152 P) (L o236) .nil)) (.node o1 (.node (o132 P) (L o216) .nil) (.node o177 (L o255) .nil))))))) (.node (o4 P) (.node (boot_o_4 P) (.node (boot_o_8 P) (.node o1 (.node o0 (.node o51 (.node o95 (L o0) (L o256)) (.node o134 (L o1) .nil)) (.node o73 (.node o1 (L o199) (L o275)) (.node o155 (L o238) .nil))) (.node o33 (.node o63 (.node o105 (L o190) (L o265)) (.node o0 (L o0) .nil)) (.node o84 (.node o0 (L o209) (L o1)) (.node o167 (L o0) .nil)))) (.node (o13 P) (.node o25 (.node o58 (.node o100 (L o1) (L o0)) (.node o139 (L o222) .nil)) (.node o1 (.node o118 (L o204) (L o0)) (.node o162 (L o243) .nil))) (.node o43 (.node o68 (.node o0 (L o0) (L o270)) (.node o1 (L o233) .nil)) (.node o0 (.node o127 (L o0) .nil) (.node o175 (L o1) .nil))))) (.node o285 (.node o9 (.node o21 (.node o0 (.node o1 (L o183) (L o259)) (.node o136 (L o220) .nil)) (.node o77 (.node o116 (L o1) (L o0)) (.node o12 (L o240) .nil))) (.node o36 (.node o65 (.node o0 (L o193) (L o1)) (.node o145 (L o0) .nil)) (.node o87 (.node o0 (L o0) (L o288)) (.node o171 (L o249) .nil)))) (.node o16 (.node (o31 P) (.node o1 (.node o102 (L o188) (L o0)) (.node o0 (L o225) .nil)) (.node o82 (.node o121 (L o206) (L o281)) (.node o164 (L o0) .nil))) (.node o47 (.node o0 (.node o111 (L o0) (L o272)) (.node o151 (L o1) .nil)) (.node o0 (.node o12 (L o215) .nil) (.node o0 (L o254) .nil)))))) (.node (boot_o_6 P) (.node (boot_o_10 P) (.node o0 (.node o19 (.node o53 (.node o97 (L o182) (L o257)) (.node o0 (L o0) .nil)) (.node o75 (.node o0 (L o201) (L o1)) (.node o157 (L o0) .nil))) (.node (o34 P) (.node o0 (.node o1 (L o191) (L o267)) (.node o144 (L o228) .nil)) (.node o85 (.node o124 (L o1) (L o0)) (.node (o169 P) (L o248) .nil)))) (.node o14 (.node o30 (.node o60 (.node o0 (L o0) (L o262)) (.node o1 (L o223) .nil)) (.node o0 (.node o119 (L o0) (L o280)) (.node o0 (L o1) .nil))) (.node o45 (.node o1 (.node o110 (L o196) (L o0)) (.node o149 (L o235) .nil)) (.node o90 (.node o129 (L o214) .nil) (.node o1 (L o0) .nil))))) (.node o3 (.node o11 (.node o29 (.node (o57 P) (.node o0 (L o185) (L o1)) (.node o137 (L o0) .nil)) (.node o79 (.node o0 (L o0) (L o278)) (.node o0 (L o241) .nil))) (.node o39 (.node o66 (.node o108 (L o1) (L o0)) (.node o147 (L o232) .nil)) (.node o1 (.node o126 (L o212) .nil) (.node o173 (L o251) .nil)))) (.node o1 (.node o1 (.node o0 (.node o103 (L o0) (L o264)) (.node o142 (L o1) .nil)) (.node o0 (.node o1 (L o207) (L o283)) (.node o165 (L o246) .nil))) (.node o49 (.node o71 (.node o113 (L o198) (L o273)) (.node o153 (L o0) .nil)) (.node o94 (.node o0 (L o217) .nil) (.node o178 (L o0) .nil))))))))
theorem p12 (w : World) : Pc 103 2 40 431 922 t11 ⟨375, 0, 391, 41⟩ 438 932 t12 ⟨409, 0, 409, 8⟩ w := by kernel_rfl
noncomputable def e112 (P : Params) : DictEntry := ke P "Turner" 1070 (.ref 531)
noncomputable def o290 (P : Params) : Obj := ⟨(.type "dict"), none, .dict (.mk (e110 P :: e1 P :: e2 P :: e3 P :: e4 P :: e5 P :: e6 P :: e7 P :: e8 P :: e9 P :: e10 P :: e11 P :: e12 P :: e13 P :: e14 P :: e15 P :: e16 P :: e17 P :: e18 P :: e19 P :: e20 P :: e21 P :: e22 P :: e23 P :: e24 P :: e25 P :: e26 P :: e27 P :: e28 P :: e29 P :: e30 P :: e31 P :: e32 P :: e33 P :: e34 P :: e35 P :: e36 P :: e37 P :: e38 P :: e39 P :: e40 P :: e41 P :: e42 P :: e43 P :: e44 P :: e45 P :: e46 P :: e47 P :: e48 P :: e49 P :: e51 P :: e52 P :: e53 P :: e54 P :: e55 P :: e56 P :: e57 P :: e58 P :: e59 P :: e61 P :: e62 P :: e63 P :: e64 P :: e65 P :: e66 P :: e67 P :: e68 P :: e69 P :: e71 P :: e72 P :: e73 P :: e74 P :: e75 P :: e76 P :: e77 P :: e78 P :: e79 P :: e80 P :: e81 P :: e82 P :: e83 P :: e84 P :: e85 P :: e86 P :: e87 P :: e88 P :: e89 P :: e90 P :: e91 P :: e92 P :: e93 P :: e94 P :: e95 P :: e96 P :: e97 P :: e98 P :: e99 P :: e100 P :: e101 P :: e102 P :: e103 P :: e104 P :: e105 P :: e106 P :: e107 P :: e108 P :: e109 P :: e111 P :: e112 P :: [])) 109, .mk []⟩
noncomputable def o291 : Obj := ⟨.none, none, (.fields (.mk ((.int 1 0) :: (.int 0 0) :: (.ref 20) :: (.int 5 0) :: (.int 0 0) :: (.ref 27) :: (.int 10 0) :: (.int 0 0) :: (.ref 47) :: (.int 47 0) :: (.int 0 0) :: (.ref 73) :: (.int 96 0) :: (.int 0 0) :: (.ref 108) :: (.int 105 0) :: (.int 0 0) :: (.ref 115) :: (.int 109 0) :: (.int 0 0) :: (.ref 122) :: (.int 115 0) :: (.int 0 0) :: (.ref 129) :: (.int 137 0) :: (.int 0 0) :: (.ref 136) :: (.int 141 0) :: (.int 0 0) :: (.ref 143) :: (.int 145 0) :: (.int 0 0) :: (.ref 150) :: (.int 150 0) :: (.int 0 0) :: (.ref 157) :: (.int 159 0) :: (.int 0 0) :: (.ref 164) :: (.int 163 0) :: (.int 0 0) :: (.ref 171) :: (.int 166 0) :: (.int 0 0) :: (.ref 178) :: (.int 170 0) :: (.int 0 0) :: (.ref 185) :: (.int 173 0) :: (.int 0 0) :: (.ref 192) :: (.int 203 0) :: (.int 0 0) :: (.ref 232) :: (.int 220 0) :: (.int 0 0) :: (.ref 254) :: (.int 223 0) :: (.int 0 0) :: (.ref 261) :: (.int 226 0) :: (.int 0 0) :: (.ref 268) :: (.int 230 0) :: (.int 0 0) :: (.ref 275) :: (.int 242 0) :: (.int 0 0) :: (.ref 282) :: (.int 248 0) :: (.int 0 0) :: (.ref 289) :: (.int 253 0) :: (.int 0 0) :: (.ref 296) :: (.int 267 0) :: (.int 0 0) :: (.ref 303) :: (.int 273 0) :: (.int 0 0) :: (.ref 310) :: (.int 287 0) :: (.int 0 0) :: (.ref 317) :: (.int 293 0) :: (.int 0 0) :: (.ref 324) :: (.int 298 0) :: (.int 0 0) :: (.ref 331) :: (.int 300 0) :: (.int 0 0) :: (.ref 338) :: (.int 302 0) :: (.int 0 0) :: (.ref 345) :: (.int 306 0) :: (.int 0 0) :: (.ref 352) :: (.int 314 0) :: (.int 0 0) :: (.ref 359) :: (.int 316 0) :: (.int 0 0) :: (.ref 366) :: (.int 320 0) :: (.int 0 0) :: (.ref 373) :: (.int 324 0) :: (.int 0 0) :: (.ref 380) :: (.int 330 0) :: (.int 0 0) :: (.ref 387) :: (.int 336 0) :: (.int 0 0) :: (.ref 394) :: (.int 340 0) :: (.int 0 0) :: (.ref 401) :: (.int 346 0) :: (.int 0 0) :: (.ref 408) :: (.int 361 0) :: (.int 0 0) :: (.ref 415) :: (.int 367 0) :: (.int 0 0) :: (.ref 422) :: (.int 375 0) :: (.int 0 0) :: (.ref 429) :: (.int 392 0) :: (.int 0 0) :: (.ref 436) :: (.int 410 0) :: (.int 0 0) :: (.ref 443) :: []))), .mk []⟩
noncomputable def o292 (P : Params) : Obj := ⟨(.type "dict"), none, (.dict (.mk [ke P "__module__" 939 (.str "framerune.cscore" 930), ke P "__qualname__" 941 (.str "Turner" 940), ke P "__firstlineno__" 943 (.int 410 942), ke P "__init__" 950 (.ref 451), ke P "convert" 962 (.ref 458), ke P "can" 972 (.ref 465), ke P "sure" 982 (.ref 472), ke P "may_be" 992 (.ref 479), ke P "is_enum" 1001 (.ref 486), ke P "under" 1010 (.ref 493), ke P "inner" 1019 (.ref 500), ke P "governs" 1028 (.ref 507), ke P "never_null" 1037 (.ref 514), ke P "equal" 1048 (.ref 521), ke P "settle" 1058 (.ref 528), ke P "__static_attributes__" 1063 (.ref 529)]) 16), .mk []⟩
noncomputable def o293 : Obj := ⟨.none, none, (.fields (.mk [(.int 412 0), (.int 4 0), (.ref 450), (.int 418 0), (.int 4 0), (.ref 457), (.int 421 0), (.int 4 0), (.ref 464), (.int 424 0), (.int 4 0), (.ref 471), (.int 427 0), (.int 4 0), (.ref 478), (.int 430 0), (.int 4 0), (.ref 485), (.int 433 0), (.int 4 0), (.ref 492), (.int 436 0), (.int 4 0), (.ref 499), (.int 439 0), (.int 4 0), (.ref 506), (.int 442 0), (.int 4 0), (.ref 513), (.int 445 0), (.int 4 0), (.ref 520), (.int 448 0), (.int 4 0), (.ref 527)])), .mk []⟩
noncomputable def o294 : Obj := ⟨(.type "code"), none, (.fields (.mk [(.str "Turner" 934), (.str "Turner" 935), (.str "/claim/cut.py" 936), (.int 410 0), (.int 0 0), (.int 0 0), (.int 0 0), (.int 0 0), (.ref 441), (.bool false), (.int 181 0), (.ref 442), .none, .none, .none, .none, (.int 937 0), (.int 410 0), (.str "/claim/cut.py" 938)])), .mk []⟩
noncomputable def o295 : Obj := ⟨(.type "frame"), none, .plain, .mk [(some (.ref 443)), (some (.ref 3)), (some (.ref 440)), none, (some (.str "framerune.cscore" 930)), none, (some (.ref 0))]⟩
noncomputable def o296 : Obj := ⟨(.type "tuple"), none, (.seq (.mk [(.str "self" 947)]) 0), .mk []⟩
noncomputable def o297 : Obj := ⟨.none, none, (fd (mS 105 0) "Turner.__init__" 0 .none .none .none .none none .none .none), .mk []⟩
noncomputable def o298 : Obj := ⟨(.type "code"), none, (.fields (.mk [(.str "__init__" 944), (.str "Turner.__init__" 945), (.str "/claim/cut.py" 946), (.int 412 0), (.int 1 0), (.int 0 0), (.int 0 0), (.int 3 0), (.ref 445), (.bool true), (.int 181 0), (.ref 446), .none, (.ref 447), (.ref 448), (.ref 449), (.int 948 0), (.int 412 0), (.str "/claim/cut.py" 949)])), .mk []⟩
noncomputable def o299 : Obj := ⟨(.type "function"), none, (fd (mS 105 0) "Turner.__init__" 3 .none .none .none (.str "framerune.cscore" 930) none (.ref 450) .none), .mk []⟩
noncomputable def o300 : Obj := ⟨(.type "tuple"), none, (.seq (.mk [(.str "self" 954), (.str "cx" 955), (.str "e" 956), (.str "k" 957), (.str "node" 958), (.str "explicit" 959)]) 0), .mk []⟩
noncomputable def o301 : Obj := ⟨.none, none, (fd (mS 105 1) "Turner.convert" 0 .none .none .none .none none .none .none), .mk []⟩
noncomputable def o302 : Obj := ⟨(.type "code"), none, (.fields (.mk [(.str "convert" 951), (.str "Turner.convert" 952), (.str "/claim/cut.py" 953), (.int 418 0), (.int 6 0), (.int 0 0), (.int 0 0), (.int 3 0), (.ref 452), (.bool true), (.int 181 0), (.ref 453), .none, (.ref 454), (.ref 455), (.ref 456), (.int 960 0), (.int 418 0), (.str "/claim/cut.py" 961)])), .mk []⟩
noncomputable def o303 : Obj := ⟨(.type "function"), none, (fd (mS 105 1) "Turner.convert" 3 .none .none .none (.str "framerune.cscore" 930) none (.ref 457) .none), .mk []⟩
noncomputable def o304 : Obj := ⟨(.type "tuple"), none, (.seq (.mk [(.str "self" 966), (.str "cx" 967), (.str "e" 968), (.str "k" 969)]) 0), .mk []⟩
noncomputable def o305 : Obj := ⟨.none, none, (fd (mS 105 2) "Turner.can" 0 .none .none .none .none none .none .none), .mk []⟩
noncomputable def o306 : Obj := ⟨(.type "code"), none, (.fields (.mk [(.str "can" 963), (.str "Turner.can" 964), (.str "/claim/cut.py" 965), (.int 421 0), (.int 4 0), (.int 0 0), (.int 0 0), (.int 3 0), (.ref 459), (.bool true), (.int 181 0), (.ref 460), .none, (.ref 461), (.ref 462), (.ref 463), (.int 970 0), (.int 421 0), (.str "/claim/cut.py" 971)])), .mk []⟩
noncomputable def o307 : Obj := ⟨(.type "function"), none, (fd (mS 105 2) "Turner.can" 3 .none .none .none (.str "framerune.cscore" 930) none (.ref 464) .none), .mk []⟩
noncomputable def o308 : Obj := ⟨(.type "tuple"), none, (.seq (.mk [(.str "self" 976), (.str "cx" 977), (.str "s" 978), (.str "t" 979)]) 0), .mk []⟩
noncomputable def o309 : Obj := ⟨.none, none, (fd (mS 105 3) "Turner.sure" 0 .none .none .none .none none .none .none), .mk []⟩
noncomputable def o310 : Obj := ⟨(.type "code"), none, (.fields (.mk [(.str "sure" 973), (.str "Turner.sure" 974), (.str "/claim/cut.py" 975), (.int 424 0), (.int 4 0), (.int 0 0), (.int 0 0), (.int 3 0), (.ref 466), (.bool true), (.int 181 0), (.ref 467), .none, (.ref 468), (.ref 469), (.ref 470), (.int 980 0), (.int 424 0), (.str "/claim/cut.py" 981)])), .mk []⟩
noncomputable def o311 : Obj := ⟨(.type "function"), none, (fd (mS 105 3) "Turner.sure" 3 .none .none .none (.str "framerune.cscore" 930) none (.ref 471) .none), .mk []⟩
noncomputable def o312 : Obj := ⟨(.type "tuple"), none, (.seq (.mk [(.str "self" 986), (.str "cx" 987), (.str "s" 988), (.str "k" 989)]) 0), .mk []⟩
noncomputable def o313 : Obj := ⟨.none, none, (fd (mS 105 4) "Turner.may_be" 0 .none .none .none .none none .none .none), .mk []⟩
noncomputable def o314 : Obj := ⟨(.type "code"), none, (.fields (.mk [(.str "may_be" 983), (.str "Turner.may_be" 984), (.str "/claim/cut.py" 985), (.int 427 0), (.int 4 0), (.int 0 0), (.int 0 0), (.int 3 0), (.ref 473), (.bool true), (.int 181 0), (.ref 474), .none, (.ref 475), (.ref 476), (.ref 477), (.int 990 0), (.int 427 0), (.str "/claim/cut.py" 991)])), .mk []⟩
noncomputable def o315 : Obj := ⟨(.type "function"), none, (fd (mS 105 4) "Turner.may_be" 3 .none .none .none (.str "framerune.cscore" 930) none (.ref 478) .none), .mk []⟩
noncomputable def o316 : Obj := ⟨(.type "tuple"), none, (.seq (.mk [(.str "self" 996), (.str "cx" 997), (.str "k" 998)]) 0), .mk []⟩
noncomputable def o317 : Obj := ⟨.none, none, (fd (mS 105 5) "Turner.is_enum" 0 .none .none .none .none none .none .none), .mk []⟩
noncomputable def o318 : Obj := ⟨(.type "code"), none, (.fields (.mk [(.str "is_enum" 993), (.str "Turner.is_enum" 994), (.str "/claim/cut.py" 995), (.int 430 0), (.int 3 0), (.int 0 0), (.int 0 0), (.int 3 0), (.ref 480), (.bool true), (.int 181 0), (.ref 481), .none, (.ref 482), (.ref 483), (.ref 484), (.int 999 0), (.int 430 0), (.str "/claim/cut.py" 1000)])), .mk []⟩
noncomputable def o319 : Obj := ⟨(.type "function"), none, (fd (mS 105 5) "Turner.is_enum" 3 .none .none .none (.str "framerune.cscore" 930) none (.ref 485) .none), .mk []⟩
noncomputable def o320 : Obj := ⟨(.type "tuple"), none, (.seq (.mk [(.str "self" 1005), (.str "cx" 1006), (.str "k" 1007)]) 0), .mk []⟩
noncomputable def o321 : Obj := ⟨.none, none, (fd (mS 105 6) "Turner.under" 0 .none .none .none .none none .none .none), .mk []⟩
noncomputable def o322 : Obj := ⟨(.type "code"), none, (.fields (.mk [(.str "under" 1002), (.str "Turner.under" 1003), (.str "/claim/cut.py" 1004), (.int 433 0), (.int 3 0), (.int 0 0), (.int 0 0), (.int 3 0), (.ref 487), (.bool true), (.int 181 0), (.ref 488), .none, (.ref 489), (.ref 490), (.ref 491), (.int 1008 0), (.int 433 0), (.str "/claim/cut.py" 1009)])), .mk []⟩
noncomputable def o323 : Obj := ⟨(.type "function"), none, (fd (mS 105 6) "Turner.under" 3 .none .none .none (.str "framerune.cscore" 930) none (.ref 492) .none), .mk []⟩
noncomputable def o324 : Obj := ⟨(.type "tuple"), none, (.seq (.mk [(.str "self" 1014), (.str "cx" 1015), (.str "k" 1016)]) 0), .mk []⟩
noncomputable def o325 : Obj := ⟨.none, none, (fd (mS 105 7) "Turner.inner" 0 .none .none .none .none none .none .none), .mk []⟩
noncomputable def o326 : Obj := ⟨(.type "code"), none, (.fields (.mk [(.str "inner" 1011), (.str "Turner.inner" 1012), (.str "/claim/cut.py" 1013), (.int 436 0), (.int 3 0), (.int 0 0), (.int 0 0), (.int 3 0), (.ref 494), (.bool true), (.int 181 0), (.ref 495), .none, (.ref 496), (.ref 497), (.ref 498), (.int 1017 0), (.int 436 0), (.str "/claim/cut.py" 1018)])), .mk []⟩
noncomputable def o327 : Obj := ⟨(.type "function"), none, (fd (mS 105 7) "Turner.inner" 3 .none .none .none (.str "framerune.cscore" 930) none (.ref 499) .none), .mk []⟩
noncomputable def o328 : Obj := ⟨(.type "tuple"), none, (.seq (.mk [(.str "self" 1023), (.str "cx" 1024), (.str "k" 1025)]) 0), .mk []⟩
noncomputable def o329 : Obj := ⟨.none, none, (fd (mS 105 8) "Turner.governs" 0 .none .none .none .none none .none .none), .mk []⟩
noncomputable def o330 : Obj := ⟨(.type "code"), none, (.fields (.mk [(.str "governs" 1020), (.str "Turner.governs" 1021), (.str "/claim/cut.py" 1022), (.int 439 0), (.int 3 0), (.int 0 0), (.int 0 0), (.int 3 0), (.ref 501), (.bool true), (.int 181 0), (.ref 502), .none, (.ref 503), (.ref 504), (.ref 505), (.int 1026 0), (.int 439 0), (.str "/claim/cut.py" 1027)])), .mk []⟩
noncomputable def o331 : Obj := ⟨(.type "function"), none, (fd (mS 105 8) "Turner.governs" 3 .none .none .none (.str "framerune.cscore" 930) none (.ref 506) .none), .mk []⟩
noncomputable def o332 : Obj := ⟨(.type "tuple"), none, (.seq (.mk [(.str "self" 1032), (.str "cx" 1033), (.str "k" 1034)]) 0), .mk []⟩
noncomputable def o333 : Obj := ⟨.none, none, (fd (mS 105 9) "Turner.never_null" 0 .none .none .none .none none .none .none), .mk []⟩
noncomputable def o334 : Obj := ⟨(.type "code"), none, (.fields (.mk [(.str "never_null" 1029), (.str "Turner.never_null" 1030), (.str "/claim/cut.py" 1031), (.int 442 0), (.int 3 0), (.int 0 0), (.int 0 0), (.int 3 0), (.ref 508), (.bool true), (.int 181 0), (.ref 509), .none, (.ref 510), (.ref 511), (.ref 512), (.int 1035 0), (.int 442 0), (.str "/claim/cut.py" 1036)])), .mk []⟩
noncomputable def o335 : Obj := ⟨(.type "function"), none, (fd (mS 105 9) "Turner.never_null" 3 .none .none .none (.str "framerune.cscore" 930) none (.ref 513) .none), .mk []⟩
noncomputable def o336 : Obj := ⟨(.type "tuple"), none, (.seq (.mk [(.str "self" 1041), (.str "cx" 1042), (.str "l" 1043), (.str "r" 1044), (.str "node" 1045)]) 0), .mk []⟩
noncomputable def o337 : Obj := ⟨.none, none, (fd (mS 105 10) "Turner.equal" 0 .none .none .none .none none .none .none), .mk []⟩
noncomputable def o338 : Obj := ⟨(.type "code"), none, (.fields (.mk [(.str "equal" 1038), (.str "Turner.equal" 1039), (.str "/claim/cut.py" 1040), (.int 445 0), (.int 5 0), (.int 0 0), (.int 0 0), (.int 3 0), (.ref 515), (.bool true), (.int 181 0), (.ref 516), .none, (.ref 517), (.ref 518), (.ref 519), (.int 1046 0), (.int 445 0), (.str "/claim/cut.py" 1047)])), .mk []⟩
noncomputable def o339 : Obj := ⟨(.type "function"), none, (fd (mS 105 10) "Turner.equal" 3 .none .none .none (.str "framerune.cscore" 930) none (.ref 520) .none), .mk []⟩
noncomputable def o340 : Obj := ⟨(.type "tuple"), none, (.seq (.mk [(.str "self" 1052), (.str "cx" 1053), (.str "e" 1054), (.str "node" 1055)]) 0), .mk []⟩
noncomputable def o341 : Obj := ⟨.none, none, (fd (mS 105 11) "Turner.settle" 0 .none .none .none .none none .none .none), .mk []⟩
noncomputable def o342 : Obj := ⟨(.type "code"), none, (.fields (.mk [(.str "settle" 1049), (.str "Turner.settle" 1050), (.str "/claim/cut.py" 1051), (.int 448 0), (.int 4 0), (.int 0 0), (.int 0 0), (.int 3 0), (.ref 522), (.bool true), (.int 181 0), (.ref 523), .none, (.ref 524), (.ref 525), (.ref 526), (.int 1056 0), (.int 448 0), (.str "/claim/cut.py" 1057)])), .mk []⟩
noncomputable def o343 : Obj := ⟨(.type "function"), none, (fd (mS 105 11) "Turner.settle" 3 .none .none .none (.str "framerune.cscore" 930) none (.ref 527) .none), .mk []⟩
noncomputable def o344 : Obj := ⟨(.type "tuple"), none, (.seq (.mk [(.str "goes" 1059), (.str "inners" 1060), (.str "sames" 1061), (.str "unders" 1062)]) 0), .mk []⟩
noncomputable def o345 (P : Params) : Obj := ⟨(.type "dict"), none, (.dict (.mk [ke P "__module__" 939 (.str "framerune.cscore" 930), ke P "__firstlineno__" 943 (.int 410 942), ke P "__init__" 950 (.ref 451), ke P "convert" 962 (.ref 458), ke P "can" 972 (.ref 465), ke P "sure" 982 (.ref 472), ke P "may_be" 992 (.ref 479), ke P "is_enum" 1001 (.ref 486), ke P "under" 1010 (.ref 493), ke P "inner" 1019 (.ref 500), ke P "governs" 1028 (.ref 507), ke P "never_null" 1037 (.ref 514), ke P "equal" 1048 (.ref 521), ke P "settle" 1058 (.ref 528), ke P "__static_attributes__" 1063 (.ref 529), ke P "__dict__" 1065 (.ref 532), ke P "__weakref__" 1067 (.ref 533), ke P "__doc__" 1068 .none]) 4), .mk []⟩
noncomputable def o346 : Obj := ⟨(.type "type"), none, (.cls ⟨"Turner", [(.type "object")], [(.ref 531), (.type "object")], 530, "Turner", true, [], [], false, none, false⟩), .mk [none, none, (some (.str "Turner" 932)), (some (.str "Turner" 940)), (some (.builtin "object.__new__")), (some (.bool true))]⟩
noncomputable def o347 : Obj := ⟨(.type "getset_descriptor"), none, (.fields (.mk [(.str "__dict__" 1064), (.ref 531), (.builtin "function.__dict__"), (.builtin "function.__dict__#set")])), .mk []⟩
noncomputable def o348 : Obj := ⟨(.type "getset_descriptor"), none, (.fields (.mk [(.str "__weakref__" 1066), (.ref 531), (.builtin "ExceptionGroup.__weakref__"), .none])), .mk []⟩
noncomputable def o349 : Obj := ⟨(.type "super"), none, (.fields (.mk [(.ref 531), (.ref 531), (.ref 531)])), .mk []⟩
noncomputable def o350 : Obj := ⟨(.type "builtin_function_or_method"), none, (.fields (.mk [(.builtin "object.__init_subclass__"), (.ref 531)])), .mk []⟩
noncomputable def t13 (P : Params) : BT := (.node (boot_o_0 P) (.node (boot_o_1 P) (.node (o290 P) (.node (boot_o_7 P) (.node o0 (.node o17 (.node o50 (.node o0 (.node o179 (L o0) .nil) (L o1)) (.node o133 (L o0) (L o296))) (.node o72 (.node o0 (L o0) (L o274)) (.node o154 (L o237) (L o315)))) (.node o32 (.node o62 (.node o104 (.node o1 (L o342) .nil) (L o0)) (.node o143 (L o226) (L o305))) (.node o1 (.node o122 (L o208) (L o0)) (.node o166 (L o247) (L o1))))) (.node o12 (.node o24 (.node o0 (.node o99 (.node o0 (L o337) .nil) (L o260)) (.node o138 (L o1) (L o0))) (.node o0 (.node o1 (L o203) (L o279)) (.node o161 (L o242) (L o0)))) (.node o41 (.node o67 (.node o109 (.node o194 (L o350) .nil) (L o269)) (.node o0 (L o0) (L o310))) (.node o88 (.node o0 (L o213) (L o12)) (.node o174 (L o0) (L o328)))))) (.node o0 (.node o8 (.node o20 (.node o54 (.node o0 (.node o0 (L o0) .nil) (L o258)) (.node o1 (L o219) (L o299))) (.node o76 (.node o115 (L o0) (L o276)) (.node o0 (L o1) (L o0)))) (.node o35 (.node o1 (.node o106 (.node o192 (L o346) .nil) (L o0)) (.node o0 (L o229) (L o1))) (.node o86 (.node o125 (L o210) (L o287)) (.node o170 (L o0) (L o326))))) (.node o15 (.node o12 (.node o0 (.node o1 (.node o187 (L o1) .nil) (L o263)) (.node o140 (L o224) (L o0))) (.node o81 (.node o120 (L o1) (L o0)) (.node o1 (L o244) (L o321)))) (.node o46 (.node o69 (.node o0 (L o197) (L o1)) (.node o150 (L o0) (L o312))) (.node o91 (.node o0 (L o0) (L o294)) (.node o176 (L o253) (L o331))))))) (.node (boot_o_5 P) (.node (boot_o_9 P) (.node o7 (.node o18 (.node o52 (.node o96 (.node o1 (L o334) .nil) (L o0)) (.node o135 (L o218) (L o297))) (.node (o74 P) (.node o114 (L o200) (L o0)) (.node o156 (L o239) (L o1)))) (.node o0 (.node o64 (.node o0 (.node o0 (L o344) .nil) (L o266)) (.node o1 (L o227) (L o307))) (.node o0 (.node o123 (L o0) (L o286)) (.node o168 (L o1) (L o0))))) (.node o0 (.node o26 (.node o59 (.node o101 (.node o186 (L o339) .nil) (L o261)) (.node o0 (L o0) (L o302))) (.node o80 (.node o0 (L o205) (L o1)) (.node o163 (L o0) (L o320)))) (.node o44 (.node o0 (.node o1 (L o195) (L o271)) (.node o148 (L o234) (L o0))) (.node o89 (.node o128 (L o1) (L o0)) (.node o0 (L o252) (L o329)))))) (.node o2 (.node o10 (.node (o22 P) (.node o12 (.node o98 (.node o184 (L o336) .nil) (L o0)) (.node o0 (L o221) (L o1))) (.node o78 (.node o117 (L o202) (L o277)) (.node (o160 P) (L o0) (L o318)))) (.node o37 (.node o0 (.node o107 (.node o0 (L o348) .nil) (L o268)) (.node o146 (L o1) (L o0))) (.node o0 (.node o1 (L o211) (L o289)) (.node o172 (L o250) (L o0))))) (.node o0 (.node o0 (.node o61 (.node o0 (.node o189 (L o0) .nil) (L o1)) (.node o141 (L o0) (L o304))) (.node o83 (.node o0 (L o0) (L o282)) (.node o0 (L o245) (L o323)))) (.node o48 (.node o70 (.node o112 (L o1) (L o0)) (.node (o152 P) (L o236) (L o313))) (.node o1 (.node (o132 P) (L o216) (L o0)) (.node o177 (L o255) (L o1)))))))) (.node (o4 P) (.node (boot_o_4 P) (.node (boot_o_8 P) (.node o1 (.node o0 (.node o51 (.node o95 (.node o0 (L o333) .nil) (L o256)) (.node o134 (L o1) (L o0))) (.node o73 (.node o1 (L o199) (L o275)) (.node o155 (L o238) (L o0)))) (.node o33 (.node o63 (.node o105 (.node o190 (L o343) .nil) (L o265)) (.node o0 (L o0) (L o306))) (.node o84 (.node o0 (L o209) (L o1)) (.node o167 (L o0) (L o324))))) (.node (o13 P) (.node o25 (.node o58 (.node o100 (.node o1 (L o338) .nil) (L o0)) (.node o139 (L o222) (L o301))) (.node o1 (.node o118 (L o204) (L o0)) (.node o162 (L o243) (L o1)))) (.node o43 (.node o68 (.node o0 (L o0) (L o270)) (.node o1 (L o233) (L o311))) (.node o0 (.node o127 (L o0) (L (o292 P))) (.node o175 (L o1) (L o0)))))) (.node o291 (.node o9 (.node o21 (.node o0 (.node o1 (.node o183 (L o1) .nil) (L o259)) (.node o136 (L o220) (L o0))) (.node o77 (.node o116 (L o1) (L o0)) (.node o12 (L o240) (L o317)))) (.node o36 (.node o65 (.node o0 (.node o193 (L o347) .nil) (L o1)) (.node o145 (L o0) (L o308))) (.node o87 (.node o0 (L o0) (L o288)) (.node o171 (L o249) (L o327))))) (.node o16 (.node (o31 P) (.node o1 (.node o102 (.node o188 (L o340) .nil) (L o0)) (.node o0 (L o225) (L o1))) (.node o82 (.node o121 (L o206) (L o281)) (.node o164 (L o0) (L o322)))) (.node o47 (.node o0 (.node o111 (L o0) (L o272)) (.node o151 (L o1) (L o0))) (.node o0 (.node o12 (L o215) (L o295)) (.node o0 (L o254) (L o0))))))) (.node (boot_o_6 P) (.node (boot_o_10 P) (.node o0 (.node o19 (.node o53 (.node o97 (.node o182 (L o335) .nil) (L o257)) (.node o0 (L o0) (L o298))) (.node o75 (.node o0 (L o201) (L o1)) (.node o157 (L o0) (L o316)))) (.node (o34 P) (.node o0 (.node o1 (.node o191 (L (o345 P)) .nil) (L o267)) (.node o144 (L o228) (L o0))) (.node o85 (.node o124 (L o1) (L o0)) (.node (o169 P) (L o248) (L o325))))) (.node o14 (.node o30 (.node o60 (.node o0 (.node o0 (L o0) .nil) (L o262)) (.node o1 (L o223) (L o303))) (.node o0 (.node o119 (L o0) (L o280)) (.node o0 (L o1) (L o0)))) (.node o45 (.node o1 (.node o110 (L o196) (L o0)) (.node o149 (L o235) (L o1))) (.node o90 (.node o129 (L o214) (L o293)) (.node o1 (L o0) (L o330)))))) (.node o3 (.node o11 (.node o29 (.node (o57 P) (.node o0 (.node o185 (L o0) .nil) (L o1)) (.node o137 (L o0) (L o300))) (.node o79 (.node o0 (L o0) (L o278)) (.node o0 (L o241) (L o319)))) (.node o39 (.node o66 (.node o108 (.node o1 (L o349) .nil) (L o0)) (.node o147 (L o232) (L o309))) (.node o1 (.node o126 (L o212) (L o0)) (.node o173 (L o251) (L o1))))) (.node o1 (.node o1 (.node o0 (.node o103 (.node o0 (L o341) .nil) (L o264)) (.node o142 (L o1) (L o0))) (.node o0 (.node o1 (L o207) (L o283)) (.node o165 (L o246) (L o0)))) (.node o49 (.node o71 (.node o113 (L o198) (L o273)) (.node o153 (L o0) (L o314))) (.node o94 (.node o0 (L o217) (L o1)) (.node o178 (L o0) (L o332)))))))))
theorem p13 (w : World) : Pc 105 1 597 438 932 t12 ⟨409, 0, 409, 8⟩ 536 1071 t13 ⟨410, 0, 449, 16⟩ w := by kernel_rfl
noncomputable def e113 (P : Params) : DictEntry := ke P "Yard" 1148 (.ref 580)
noncomputable def o351 (P : Params) : Obj := ⟨(.type "dict"), none, .dict (.mk (e110 P :: e1 P :: e2 P :: e3 P :: e4 P :: e5 P :: e6 P :: e7 P :: e8 P :: e9 P :: e10 P :: e11 P :: e12 P :: e13 P :: e14 P :: e15 P :: e16 P :: e17 P :: e18 P :: e19 P :: e20 P :: e21 P :: e22 P :: e23 P :: e24 P :: e25 P :: e26 P :: e27 P :: e28 P :: e29 P :: e30 P :: e31 P :: e32 P :: e33 P :: e34 P :: e35 P :: e36 P :: e37 P :: e38 P :: e39 P :: e40 P :: e41 P :: e42 P :: e43 P :: e44 P :: e45 P :: e46 P :: e47 P :: e48 P :: e49 P :: e51 P :: e52 P :: e53 P :: e54 P :: e55 P :: e56 P :: e57 P :: e58 P :: e59 P :: e61 P :: e62 P :: e63 P :: e64 P :: e65 P :: e66 P :: e67 P :: e68 P :: e69 P :: e71 P :: e72 P :: e73 P :: e74 P :: e75 P :: e76 P :: e77 P :: e78 P :: e79 P :: e80 P :: e81 P :: e82 P :: e83 P :: e84 P :: e85 P :: e86 P :: e87 P :: e88 P :: e89 P :: e90 P :: e91 P :: e92 P :: e93 P :: e94 P :: e95 P :: e96 P :: e97 P :: e98 P :: e99 P :: e100 P :: e101 P :: e102 P :: e103 P :: e104 P :: e105 P :: e106 P :: e107 P :: e108 P :: e109 P :: e111 P :: e112 P :: e113 P :: [])) 110, .mk []⟩
noncomputable def o352 : Obj := ⟨.none, none, (.fields (.mk ((.int 1 0) :: (.int 0 0) :: (.ref 20) :: (.int 5 0) :: (.int 0 0) :: (.ref 27) :: (.int 10 0) :: (.int 0 0) :: (.ref 47) :: (.int 47 0) :: (.int 0 0) :: (.ref 73) :: (.int 96 0) :: (.int 0 0) :: (.ref 108) :: (.int 105 0) :: (.int 0 0) :: (.ref 115) :: (.int 109 0) :: (.int 0 0) :: (.ref 122) :: (.int 115 0) :: (.int 0 0) :: (.ref 129) :: (.int 137 0) :: (.int 0 0) :: (.ref 136) :: (.int 141 0) :: (.int 0 0) :: (.ref 143) :: (.int 145 0) :: (.int 0 0) :: (.ref 150) :: (.int 150 0) :: (.int 0 0) :: (.ref 157) :: (.int 159 0) :: (.int 0 0) :: (.ref 164) :: (.int 163 0) :: (.int 0 0) :: (.ref 171) :: (.int 166 0) :: (.int 0 0) :: (.ref 178) :: (.int 170 0) :: (.int 0 0) :: (.ref 185) :: (.int 173 0) :: (.int 0 0) :: (.ref 192) :: (.int 203 0) :: (.int 0 0) :: (.ref 232) :: (.int 220 0) :: (.int 0 0) :: (.ref 254) :: (.int 223 0) :: (.int 0 0) :: (.ref 261) :: (.int 226 0) :: (.int 0 0) :: (.ref 268) :: (.int 230 0) :: (.int 0 0) :: (.ref 275) :: (.int 242 0) :: (.int 0 0) :: (.ref 282) :: (.int 248 0) :: (.int 0 0) :: (.ref 289) :: (.int 253 0) :: (.int 0 0) :: (.ref 296) :: (.int 267 0) :: (.int 0 0) :: (.ref 303) :: (.int 273 0) :: (.int 0 0) :: (.ref 310) :: (.int 287 0) :: (.int 0 0) :: (.ref 317) :: (.int 293 0) :: (.int 0 0) :: (.ref 324) :: (.int 298 0) :: (.int 0 0) :: (.ref 331) :: (.int 300 0) :: (.int 0 0) :: (.ref 338) :: (.int 302 0) :: (.int 0 0) :: (.ref 345) :: (.int 306 0) :: (.int 0 0) :: (.ref 352) :: (.int 314 0) :: (.int 0 0) :: (.ref 359) :: (.int 316 0) :: (.int 0 0) :: (.ref 366) :: (.int 320 0) :: (.int 0 0) :: (.ref 373) :: (.int 324 0) :: (.int 0 0) :: (.ref 380) :: (.int 330 0) :: (.int 0 0) :: (.ref 387) :: (.int 336 0) :: (.int 0 0) :: (.ref 394) :: (.int 340 0) :: (.int 0 0) :: (.ref 401) :: (.int 346 0) :: (.int 0 0) :: (.ref 408) :: (.int 361 0) :: (.int 0 0) :: (.ref 415) :: (.int 367 0) :: (.int 0 0) :: (.ref 422) :: (.int 375 0) :: (.int 0 0) :: (.ref 429) :: (.int 392 0) :: (.int 0 0) :: (.ref 436) :: (.int 410 0) :: (.int 0 0) :: (.ref 443) :: (.int 450 0) :: (.int 0 0) :: (.ref 541) :: []))), .mk []⟩
noncomputable def o353 (P : Params) : Obj := ⟨(.type "dict"), none, (.dict (.mk [ke P "__module__" 1078 (.str "framerune.cscore" 930), ke P "__qualname__" 1080 (.str "Yard" 1079), ke P "__firstlineno__" 1082 (.int 450 1081), ke P "__init__" 1092 (.ref 549), ke P "kind" 1100 (.ref 556), ke P "fault" 1110 (.ref 563), ke P "show" 1118 (.ref 570), ke P "kept" 1127 (.ref 577), ke P "__static_attributes__" 1141 (.ref 578)]) 9), .mk []⟩
noncomputable def o354 : Obj := ⟨.none, none, (.fields (.mk [(.int 452 0), (.int 4 0), (.ref 548), (.int 467 0), (.int 4 0), (.ref 555), (.int 470 0), (.int 4 0), (.ref 562), (.int 473 0), (.int 4 0), (.ref 569), (.int 476 0), (.int 4 0), (.ref 576)])), .mk []⟩
noncomputable def o355 : Obj := ⟨(.type "code"), none, (.fields (.mk [(.str "Yard" 1073), (.str "Yard" 1074), (.str "/claim/cut.py" 1075), (.int 450 0), (.int 0 0), (.int 0 0), (.int 0 0), (.int 0 0), (.ref 539), (.bool false), (.int 181 0), (.ref 540), .none, .none, .none, .none, (.int 1076 0), (.int 450 0), (.str "/claim/cut.py" 1077)])), .mk []⟩
noncomputable def o356 : Obj := ⟨(.type "frame"), none, .plain, .mk [(some (.ref 541)), (some (.ref 3)), (some (.ref 538)), none, (some (.str "framerune.cscore" 930)), none, (some (.ref 0))]⟩
noncomputable def o357 : Obj := ⟨(.type "tuple"), none, (.seq (.mk [(.str "self" 1086), (.str "unit" 1087), (.str "host" 1088), (.str "asm" 1089)]) 0), .mk []⟩
noncomputable def o358 : Obj := ⟨.none, none, (fd (mS 106 0) "Yard.__init__" 0 .none .none .none .none none .none .none), .mk []⟩
noncomputable def o359 : Obj := ⟨(.type "code"), none, (.fields (.mk [(.str "__init__" 1083), (.str "Yard.__init__" 1084), (.str "/claim/cut.py" 1085), (.int 452 0), (.int 4 0), (.int 0 0), (.int 0 0), (.int 3 0), (.ref 543), (.bool true), (.int 181 0), (.ref 544), .none, (.ref 545), (.ref 546), (.ref 547), (.int 1090 0), (.int 452 0), (.str "/claim/cut.py" 1091)])), .mk []⟩
noncomputable def o360 : Obj := ⟨(.type "function"), none, (fd (mS 106 0) "Yard.__init__" 3 .none .none .none (.str "framerune.cscore" 930) none (.ref 548) .none), .mk []⟩
noncomputable def o361 : Obj := ⟨(.type "tuple"), none, (.seq (.mk [(.str "self" 1096), (.str "node" 1097)]) 0), .mk []⟩
noncomputable def o362 : Obj := ⟨.none, none, (fd (mS 106 1) "Yard.kind" 0 .none .none .none .none none .none .none), .mk []⟩
noncomputable def o363 : Obj := ⟨(.type "code"), none, (.fields (.mk [(.str "kind" 1093), (.str "Yard.kind" 1094), (.str "/claim/cut.py" 1095), (.int 467 0), (.int 2 0), (.int 0 0), (.int 0 0), (.int 3 0), (.ref 550), (.bool true), (.int 181 0), (.ref 551), .none, (.ref 552), (.ref 553), (.ref 554), (.int 1098 0), (.int 467 0), (.str "/claim/cut.py" 1099)])), .mk []⟩
noncomputable def o364 : Obj := ⟨(.type "function"), none, (fd (mS 106 1) "Yard.kind" 3 .none .none .none (.str "framerune.cscore" 930) none (.ref 555) .none), .mk []⟩
noncomputable def o365 : Obj := ⟨(.type "tuple"), none, (.seq (.mk [(.str "self" 1104), (.str "number" 1105), (.str "node" 1106), (.str "words" 1107)]) 0), .mk []⟩
noncomputable def o366 : Obj := ⟨.none, none, (fd (mS 106 2) "Yard.fault" 0 .none .none .none .none none .none .none), .mk []⟩
noncomputable def o367 : Obj := ⟨(.type "code"), none, (.fields (.mk [(.str "fault" 1101), (.str "Yard.fault" 1102), (.str "/claim/cut.py" 1103), (.int 470 0), (.int 4 0), (.int 0 0), (.int 0 0), (.int 3 0), (.ref 557), (.bool true), (.int 181 0), (.ref 558), .none, (.ref 559), (.ref 560), (.ref 561), (.int 1108 0), (.int 470 0), (.str "/claim/cut.py" 1109)])), .mk []⟩
noncomputable def o368 : Obj := ⟨(.type "function"), none, (fd (mS 106 2) "Yard.fault" 3 .none .none .none (.str "framerune.cscore" 930) none (.ref 562) .none), .mk []⟩
noncomputable def o369 : Obj := ⟨(.type "tuple"), none, (.seq (.mk [(.str "self" 1114), (.str "k" 1115)]) 0), .mk []⟩
noncomputable def o370 : Obj := ⟨.none, none, (fd (mS 106 3) "Yard.show" 0 .none .none .none .none none .none .none), .mk []⟩
noncomputable def o371 : Obj := ⟨(.type "code"), none, (.fields (.mk [(.str "show" 1111), (.str "Yard.show" 1112), (.str "/claim/cut.py" 1113), (.int 473 0), (.int 2 0), (.int 0 0), (.int 0 0), (.int 3 0), (.ref 564), (.bool true), (.int 181 0), (.ref 565), .none, (.ref 566), (.ref 567), (.ref 568), (.int 1116 0), (.int 473 0), (.str "/claim/cut.py" 1117)])), .mk []⟩
noncomputable def o372 : Obj := ⟨(.type "function"), none, (fd (mS 106 3) "Yard.show" 3 .none .none .none (.str "framerune.cscore" 930) none (.ref 569) .none), .mk []⟩
noncomputable def o373 : Obj := ⟨(.type "tuple"), none, (.seq (.mk [(.str "self" 1122), (.str "k" 1123), (.str "node" 1124)]) 0), .mk []⟩
noncomputable def o374 : Obj := ⟨.none, none, (fd (mS 106 4) "Yard.kept" 0 .none .none .none .none none .none .none), .mk []⟩
noncomputable def o375 : Obj := ⟨(.type "code"), none, (.fields (.mk [(.str "kept" 1119), (.str "Yard.kept" 1120), (.str "/claim/cut.py" 1121), (.int 476 0), (.int 3 0), (.int 0 0), (.int 0 0), (.int 3 0), (.ref 571), (.bool true), (.int 181 0), (.ref 572), .none, (.ref 573), (.ref 574), (.ref 575), (.int 1125 0), (.int 476 0), (.str "/claim/cut.py" 1126)])), .mk []⟩
noncomputable def o376 : Obj := ⟨(.type "function"), none, (fd (mS 106 4) "Yard.kept" 3 .none .none .none (.str "framerune.cscore" 930) none (.ref 576) .none), .mk []⟩
noncomputable def o377 : Obj := ⟨(.type "tuple"), none, (.seq (.mk [(.str "asm" 1128), (.str "early" 1129), (.str "host" 1130), (.str "kinds" 1131), (.str "kt" 1132), (.str "mid" 1133), (.str "owner" 1134), (.str "static" 1135), (.str "store" 1136), (.str "told" 1137), (.str "tparams" 1138), (.str "unit" 1139), (.str "unmet" 1140)]) 0), .mk []⟩
noncomputable def o378 (P : Params) : Obj := ⟨(.type "dict"), none, (.dict (.mk [ke P "__module__" 1078 (.str "framerune.cscore" 930), ke P "__firstlineno__" 1082 (.int 450 1081), ke P "__init__" 1092 (.ref 549), ke P "kind" 1100 (.ref 556), ke P "fault" 1110 (.ref 563), ke P "show" 1118 (.ref 570), ke P "kept" 1127 (.ref 577), ke P "__static_attributes__" 1141 (.ref 578), ke P "__dict__" 1143 (.ref 581), ke P "__weakref__" 1145 (.ref 582), ke P "__doc__" 1146 .none]) 4), .mk []⟩
noncomputable def o379 : Obj := ⟨(.type "type"), none, (.cls ⟨"Yard", [(.type "object")], [(.ref 580), (.type "object")], 579, "Yard", true, [], [], false, none, false⟩), .mk [none, none, (some (.str "Yard" 1071)), (some (.str "Yard" 1079)), (some (.builtin "object.__new__")), (some (.bool true))]⟩
noncomputable def o380 : Obj := ⟨(.type "getset_descriptor"), none, (.fields (.mk [(.str "__dict__" 1142), (.ref 580), (.builtin "function.__dict__"), (.builtin "function.__dict__#set")])), .mk []⟩
noncomputable def o381 : Obj := ⟨(.type "getset_descriptor"), none, (.fields (.mk [(.str "__weakref__" 1144), (.ref 580), (.builtin "ExceptionGroup.__weakref__"), .none])), .mk []⟩
noncomputable def o382 : Obj := ⟨(.type "super"), none, (.fields (.mk [(.ref 580), (.ref 580), (.ref 580)])), .mk []⟩
noncomputable def o383 : Obj := ⟨(.type "builtin_function_or_method"), none, (.fields (.mk [(.builtin "object.__init_subclass__"), (.ref 580)])), .mk []⟩
noncomputable def t14 (P : Params) : BT := (.node (boot_o_0 P) (.node (boot_o_1 P) (.node (o351 P) (.node (boot_o_7 P) (.node o0 (.node o17 (.node o50 (.node o0 (.node o179 (L o0) .nil) (L o1)) (.node o133 (.node o0 (L o374) .nil) (L o296))) (.node o72 (.node o0 (.node o0 (L o0) .nil) (L o274)) (.node o154 (L o237) (L o315)))) (.node o32 (.node o62 (.node o104 (.node o1 (L o342) .nil) (L o0)) (.node o143 (L o226) (L o305))) (.node o1 (.node o122 (.node o208 (L o365) .nil) (L o0)) (.node o166 (L o247) (L o1))))) (.node o12 (.node o24 (.node o0 (.node o99 (.node o0 (L o337) .nil) (L o260)) (.node o138 (.node o1 (L o382) .nil) (L o0))) (.node o0 (.node o1 (.node o203 (L o1) .nil) (L o279)) (.node o161 (L o242) (L o0)))) (.node o41 (.node o67 (.node o109 (.node o194 (L o350) .nil) (L o269)) (.node o0 (L o0) (L o310))) (.node o88 (.node o0 (.node o213 (L o0) .nil) (L o12)) (.node o174 (L o0) (L o328)))))) (.node o0 (.node o8 (.node o20 (.node o54 (.node o0 (.node o0 (L o0) .nil) (L o258)) (.node o1 (.node o219 (L (o378 P)) .nil) (L o299))) (.node o76 (.node o115 (.node o0 (L o358) .nil) (L o276)) (.node o0 (L o1) (L o0)))) (.node o35 (.node o1 (.node o106 (.node o192 (L o346) .nil) (L o0)) (.node o0 (L o229) (L o1))) (.node o86 (.node o125 (.node o210 (L o368) .nil) (L o287)) (.node o170 (L o0) (L o326))))) (.node o15 (.node o12 (.node o0 (.node o1 (.node o187 (L o1) .nil) (L o263)) (.node o140 (L o224) (L o0))) (.node o81 (.node o120 (.node o1 (L o363) .nil) (L o0)) (.node o1 (L o244) (L o321)))) (.node o46 (.node o69 (.node o0 (.node o197 (L o0) .nil) (L o1)) (.node o150 (L o0) (L o312))) (.node o91 (.node o0 (.node o0 (L o0) .nil) (L o294)) (.node o176 (L o253) (L o331))))))) (.node (boot_o_5 P) (.node (boot_o_9 P) (.node o7 (.node o18 (.node o52 (.node o96 (.node o1 (L o334) .nil) (L o0)) (.node o135 (.node o218 (L o376) .nil) (L o297))) (.node (o74 P) (.node o114 (.node o200 (L o357) .nil) (L o0)) (.node o156 (L o239) (L o1)))) (.node o0 (.node o64 (.node o0 (.node o0 (L o344) .nil) (L o266)) (.node o1 (L o227) (L o307))) (.node o0 (.node o123 (.node o0 (L o366) .nil) (L o286)) (.node o168 (L o1) (L o0))))) (.node o0 (.node o26 (.node o59 (.node o101 (.node o186 (L o339) .nil) (L o261)) (.node o0 (L o0) (L o302))) (.node o80 (.node o0 (.node o205 (L o0) .nil) (L o1)) (.node o163 (L o0) (L o320)))) (.node o44 (.node o0 (.node o1 (.node o195 (L o12) .nil) (L o271)) (.node o148 (L o234) (L o0))) (.node o89 (.node o128 (.node o1 (L o371) .nil) (L o0)) (.node o0 (L o252) (L o329)))))) (.node o2 (.node o10 (.node (o22 P) (.node o12 (.node o98 (.node o184 (L o336) .nil) (L o0)) (.node o0 (.node o221 (L o380) .nil) (L o1))) (.node o78 (.node o117 (.node o202 (L o360) .nil) (L o277)) (.node (o160 P) (L o0) (L o318)))) (.node o37 (.node o0 (.node o107 (.node o0 (L o348) .nil) (L o268)) (.node o146 (L o1) (L o0))) (.node o0 (.node o1 (.node o211 (L o1) .nil) (L o289)) (.node o172 (L o250) (L o0))))) (.node o0 (.node o0 (.node o61 (.node o0 (.node o189 (L o0) .nil) (L o1)) (.node o141 (L o0) (L o304))) (.node o83 (.node o0 (.node o0 (L o0) .nil) (L o282)) (.node o0 (L o245) (L o323)))) (.node o48 (.node o70 (.node o112 (.node o1 (L o355) .nil) (L o0)) (.node (o152 P) (L o236) (L o313))) (.node o1 (.node (o132 P) (.node o216 (L o373) .nil) (L o0)) (.node o177 (L o255) (L o1)))))))) (.node (o4 P) (.node (boot_o_4 P) (.node (boot_o_8 P) (.node o1 (.node o0 (.node o51 (.node o95 (.node o0 (L o333) .nil) (L o256)) (.node o134 (.node o1 (L o375) .nil) (L o0))) (.node o73 (.node o1 (.node o199 (L o1) .nil) (L o275)) (.node o155 (L o238) (L o0)))) (.node o33 (.node o63 (.node o105 (.node o190 (L o343) .nil) (L o265)) (.node o0 (L o0) (L o306))) (.node o84 (.node o0 (.node o209 (L o0) .nil) (L o1)) (.node o167 (L o0) (L o324))))) (.node (o13 P) (.node o25 (.node o58 (.node o100 (.node o1 (L o338) .nil) (L o0)) (.node o139 (.node o222 (L o383) .nil) (L o301))) (.node o1 (.node o118 (.node o204 (L o361) .nil) (L o0)) (.node o162 (L o243) (L o1)))) (.node o43 (.node o68 (.node o0 (.node o0 (L o0) .nil) (L o270)) (.node o1 (L o233) (L o311))) (.node o0 (.node o127 (.node o0 (L o370) .nil) (L (o292 P))) (.node o175 (L o1) (L o0)))))) (.node o352 (.node o9 (.node o21 (.node o0 (.node o1 (.node o183 (L o1) .nil) (L o259)) (.node o136 (.node o220 (L o379) .nil) (L o0))) (.node o77 (.node o116 (.node o1 (L o359) .nil) (L o0)) (.node o12 (L o240) (L o317)))) (.node o36 (.node o65 (.node o0 (.node o193 (L o347) .nil) (L o1)) (.node o145 (L o0) (L o308))) (.node o87 (.node o0 (.node o0 (L o0) .nil) (L o288)) (.node o171 (L o249) (L o327))))) (.node o16 (.node (o31 P) (.node o1 (.node o102 (.node o188 (L o340) .nil) (L o0)) (.node o0 (L o225) (L o1))) (.node o82 (.node o121 (.node o206 (L o364) .nil) (L o281)) (.node o164 (L o0) (L o322)))) (.node o47 (.node o0 (.node o111 (.node o0 (L o354) .nil) (L o272)) (.node o151 (L o1) (L o0))) (.node o0 (.node o12 (.node o215 (L o1) .nil) (L o295)) (.node o0 (L o254) (L o0))))))) (.node (boot_o_6 P) (.node (boot_o_10 P) (.node o0 (.node o19 (.node o53 (.node o97 (.node o182 (L o335) .nil) (L o257)) (.node o0 (.node o0 (L o377) .nil) (L o298))) (.node o75 (.node o0 (.node o201 (L o0) .nil) (L o1)) (.node o157 (L o0) (L o316)))) (.node (o34 P) (.node o0 (.node o1 (.node o191 (L (o345 P)) .nil) (L o267)) (.node o144 (L o228) (L o0))) (.node o85 (.node o124 (.node o1 (L o367) .nil) (L o0)) (.node (o169 P) (L o248) (L o325))))) (.node o14 (.node o30 (.node o60 (.node o0 (.node o0 (L o0) .nil) (L o262)) (.node o1 (L o223) (L o303))) (.node o0 (.node o119 (.node o0 (L o362) .nil) (L o280)) (.node o0 (L o1) (L o0)))) (.node o45 (.node o1 (.node o110 (.node o196 (L (o353 P)) .nil) (L o0)) (.node o149 (L o235) (L o1))) (.node o90 (.node o129 (.node o214 (L o372) .nil) (L o293)) (.node o1 (L o0) (L o330)))))) (.node o3 (.node o11 (.node o29 (.node (o57 P) (.node o0 (.node o185 (L o0) .nil) (L o1)) (.node o137 (.node o0 (L o381) .nil) (L o300))) (.node o79 (.node o0 (.node o0 (L o0) .nil) (L o278)) (.node o0 (L o241) (L o319)))) (.node o39 (.node o66 (.node o108 (.node o1 (L o349) .nil) (L o0)) (.node o147 (L o232) (L o309))) (.node o1 (.node o126 (.node o212 (L o369) .nil) (L o0)) (.node o173 (L o251) (L o1))))) (.node o1 (.node o1 (.node o0 (.node o103 (.node o0 (L o341) .nil) (L o264)) (.node o142 (L o1) (L o0))) (.node o0 (.node o1 (.node o207 (L o1) .nil) (L o283)) (.node o165 (L o246) (L o0)))) (.node o49 (.node o71 (.node o113 (.node o198 (L o356) .nil) (L o273)) (.node o153 (L o0) (L o314))) (.node o94 (.node o0 (.node o217 (L o0) .nil) (L o1)) (.node o178 (L o0) (L o332)))))))))
theorem p14 (w : World) : Pc 106 1 368 536 1071 t13 ⟨410, 0, 449, 16⟩ 585 1149 t14 ⟨450, 0, 477, 16⟩ w := by kernel_rfl
noncomputable def e114 (P : Params) : DictEntry := ke P "Pew" 1224 (.ref 622)
noncomputable def e115 (P : Params) : DictEntry := ke P "bad" 1231 (.ref 631)
noncomputable def o384 (P : Params) : Obj := ⟨(.type "dict"), none, .dict (.mk (e110 P :: e1 P :: e2 P :: e3 P :: e4 P :: e5 P :: e6 P :: e7 P :: e8 P :: e9 P :: e10 P :: e11 P :: e12 P :: e13 P :: e14 P :: e15 P :: e16 P :: e17 P :: e18 P :: e19 P :: e20 P :: e21 P :: e22 P :: e23 P :: e24 P :: e25 P :: e26 P :: e27 P :: e28 P :: e29 P :: e30 P :: e31 P :: e32 P :: e33 P :: e34 P :: e35 P :: e36 P :: e37 P :: e38 P :: e39 P :: e40 P :: e41 P :: e42 P :: e43 P :: e44 P :: e45 P :: e46 P :: e47 P :: e48 P :: e49 P :: e51 P :: e52 P :: e53 P :: e54 P :: e55 P :: e56 P :: e57 P :: e58 P :: e59 P :: e61 P :: e62 P :: e63 P :: e64 P :: e65 P :: e66 P :: e67 P :: e68 P :: e69 P :: e71 P :: e72 P :: e73 P :: e74 P :: e75 P :: e76 P :: e77 P :: e78 P :: e79 P :: e80 P :: e81 P :: e82 P :: e83 P :: e84 P :: e85 P :: e86 P :: e87 P :: e88 P :: e89 P :: e90 P :: e91 P :: e92 P :: e93 P :: e94 P :: e95 P :: e96 P :: e97 P :: e98 P :: e99 P :: e100 P :: e101 P :: e102 P :: e103 P :: e104 P :: e105 P :: e106 P :: e107 P :: e108 P :: e109 P :: e111 P :: e112 P :: e113 P :: e114 P :: e115 P :: [])) 112, .mk []⟩
noncomputable def o385 : Obj := ⟨.none, none, (.fields (.mk ((.int 1 0) :: (.int 0 0) :: (.ref 20) :: (.int 5 0) :: (.int 0 0) :: (.ref 27) :: (.int 10 0) :: (.int 0 0) :: (.ref 47) :: (.int 47 0) :: (.int 0 0) :: (.ref 73) :: (.int 96 0) :: (.int 0 0) :: (.ref 108) :: (.int 105 0) :: (.int 0 0) :: (.ref 115) :: (.int 109 0) :: (.int 0 0) :: (.ref 122) :: (.int 115 0) :: (.int 0 0) :: (.ref 129) :: (.int 137 0) :: (.int 0 0) :: (.ref 136) :: (.int 141 0) :: (.int 0 0) :: (.ref 143) :: (.int 145 0) :: (.int 0 0) :: (.ref 150) :: (.int 150 0) :: (.int 0 0) :: (.ref 157) :: (.int 159 0) :: (.int 0 0) :: (.ref 164) :: (.int 163 0) :: (.int 0 0) :: (.ref 171) :: (.int 166 0) :: (.int 0 0) :: (.ref 178) :: (.int 170 0) :: (.int 0 0) :: (.ref 185) :: (.int 173 0) :: (.int 0 0) :: (.ref 192) :: (.int 203 0) :: (.int 0 0) :: (.ref 232) :: (.int 220 0) :: (.int 0 0) :: (.ref 254) :: (.int 223 0) :: (.int 0 0) :: (.ref 261) :: (.int 226 0) :: (.int 0 0) :: (.ref 268) :: (.int 230 0) :: (.int 0 0) :: (.ref 275) :: (.int 242 0) :: (.int 0 0) :: (.ref 282) :: (.int 248 0) :: (.int 0 0) :: (.ref 289) :: (.int 253 0) :: (.int 0 0) :: (.ref 296) :: (.int 267 0) :: (.int 0 0) :: (.ref 303) :: (.int 273 0) :: (.int 0 0) :: (.ref 310) :: (.int 287 0) :: (.int 0 0) :: (.ref 317) :: (.int 293 0) :: (.int 0 0) :: (.ref 324) :: (.int 298 0) :: (.int 0 0) :: (.ref 331) :: (.int 300 0) :: (.int 0 0) :: (.ref 338) :: (.int 302 0) :: (.int 0 0) :: (.ref 345) :: (.int 306 0) :: (.int 0 0) :: (.ref 352) :: (.int 314 0) :: (.int 0 0) :: (.ref 359) :: (.int 316 0) :: (.int 0 0) :: (.ref 366) :: (.int 320 0) :: (.int 0 0) :: (.ref 373) :: (.int 324 0) :: (.int 0 0) :: (.ref 380) :: (.int 330 0) :: (.int 0 0) :: (.ref 387) :: (.int 336 0) :: (.int 0 0) :: (.ref 394) :: (.int 340 0) :: (.int 0 0) :: (.ref 401) :: (.int 346 0) :: (.int 0 0) :: (.ref 408) :: (.int 361 0) :: (.int 0 0) :: (.ref 415) :: (.int 367 0) :: (.int 0 0) :: (.ref 422) :: (.int 375 0) :: (.int 0 0) :: (.ref 429) :: (.int 392 0) :: (.int 0 0) :: (.ref 436) :: (.int 410 0) :: (.int 0 0) :: (.ref 443) :: (.int 450 0) :: (.int 0 0) :: (.ref 541) :: (.int 478 0) :: (.int 0 0) :: (.ref 590) :: (.int 510 0) :: (.int 0 0) :: (.ref 630) :: []))), .mk []⟩
noncomputable def o386 : Obj := ⟨(.type "type"), none, (.cls ⟨"Yard", [(.type "object")], [(.ref 580), (.type "object")], 579, "Yard", true, [], [(.ref 622)], false, none, false⟩), .mk [none, none, (some (.str "Yard" 1071)), (some (.str "Yard" 1079)), (some (.builtin "object.__new__")), (some (.bool true))]⟩
noncomputable def o387 : Obj := ⟨(.type "tuple"), none, (.seq (.mk [(.ref 580)]) 0), .mk []⟩
noncomputable def o388 (P : Params) : Obj := ⟨(.type "dict"), none, (.dict (.mk [ke P "__module__" 1156 (.str "framerune.cscore" 930), ke P "__qualname__" 1158 (.str "Pew" 1157), ke P "__firstlineno__" 1160 (.int 478 1159), ke P "__init__" 1170 (.ref 598), ke P "expr" 1179 (.ref 605), ke P "fits" 1189 (.ref 612), ke P "convert" 1200 (.ref 619), ke P "__static_attributes__" 1221 (.ref 620)]) 8), .mk []⟩
noncomputable def o389 : Obj := ⟨.none, none, (.fields (.mk [(.int 480 0), (.int 4 0), (.ref 597), (.int 502 0), (.int 4 0), (.ref 604), (.int 505 0), (.int 4 0), (.ref 611), (.int 508 0), (.int 4 0), (.ref 618)])), .mk []⟩
noncomputable def o390 : Obj := ⟨(.type "code"), none, (.fields (.mk [(.str "Pew" 1151), (.str "Pew" 1152), (.str "/claim/cut.py" 1153), (.int 478 0), (.int 0 0), (.int 0 0), (.int 0 0), (.int 0 0), (.ref 588), (.bool false), (.int 181 0), (.ref 589), .none, .none, .none, .none, (.int 1154 0), (.int 478 0), (.str "/claim/cut.py" 1155)])), .mk []⟩
noncomputable def o391 : Obj := ⟨(.type "frame"), none, .plain, .mk [(some (.ref 590)), (some (.ref 3)), (some (.ref 587)), none, (some (.str "framerune.cscore" 930)), none, (some (.ref 0))]⟩
noncomputable def o392 : Obj := ⟨(.type "tuple"), none, (.seq (.mk [(.str "self" 1164), (.str "unit" 1165), (.str "asm" 1166), (.str "host" 1167)]) 0), .mk []⟩
noncomputable def o393 : Obj := ⟨.none, none, (fd (mS 107 0) "Pew.__init__" 0 .none .none .none .none none .none .none), .mk []⟩
noncomputable def o394 : Obj := ⟨(.type "code"), none, (.fields (.mk [(.str "__init__" 1161), (.str "Pew.__init__" 1162), (.str "/claim/cut.py" 1163), (.int 480 0), (.int 4 0), (.int 0 0), (.int 0 0), (.int 3 0), (.ref 592), (.bool true), (.int 181 0), (.ref 593), .none, (.ref 594), (.ref 595), (.ref 596), (.int 1168 0), (.int 480 0), (.str "/claim/cut.py" 1169)])), .mk []⟩
noncomputable def o395 : Obj := ⟨(.type "function"), none, (fd (mS 107 0) "Pew.__init__" 3 .none .none .none (.str "framerune.cscore" 930) none (.ref 597) .none), .mk []⟩
noncomputable def o396 : Obj := ⟨(.type "tuple"), none, (.seq (.mk [(.str "self" 1174), (.str "node" 1175), (.str "want" 1176)]) 0), .mk []⟩
noncomputable def o397 : Obj := ⟨.none, none, (fd (mS 107 1) "Pew.expr" 0 .none .none .none .none none .none .none), .mk []⟩
noncomputable def o398 : Obj := ⟨(.type "code"), none, (.fields (.mk [(.str "expr" 1171), (.str "Pew.expr" 1172), (.str "/claim/cut.py" 1173), (.int 502 0), (.int 3 0), (.int 0 0), (.int 0 0), (.int 3 0), (.ref 599), (.bool true), (.int 181 0), (.ref 600), .none, (.ref 601), (.ref 602), (.ref 603), (.int 1177 0), (.int 502 0), (.str "/claim/cut.py" 1178)])), .mk []⟩
noncomputable def o399 : Obj := ⟨(.type "function"), none, (fd (mS 107 1) "Pew.expr" 3 .none .none .none (.str "framerune.cscore" 930) none (.ref 604) .none), .mk []⟩
noncomputable def o400 : Obj := ⟨(.type "tuple"), none, (.seq (.mk [(.str "self" 1183), (.str "e" 1184), (.str "k" 1185), (.str "node" 1186)]) 0), .mk []⟩
noncomputable def o401 : Obj := ⟨.none, none, (fd (mS 107 2) "Pew.fits" 0 .none .none .none .none none .none .none), .mk []⟩
noncomputable def o402 : Obj := ⟨(.type "code"), none, (.fields (.mk [(.str "fits" 1180), (.str "Pew.fits" 1181), (.str "/claim/cut.py" 1182), (.int 505 0), (.int 4 0), (.int 0 0), (.int 0 0), (.int 3 0), (.ref 606), (.bool true), (.int 181 0), (.ref 607), .none, (.ref 608), (.ref 609), (.ref 610), (.int 1187 0), (.int 505 0), (.str "/claim/cut.py" 1188)])), .mk []⟩
noncomputable def o403 : Obj := ⟨(.type "function"), none, (fd (mS 107 2) "Pew.fits" 3 .none .none .none (.str "framerune.cscore" 930) none (.ref 611) .none), .mk []⟩
noncomputable def o404 : Obj := ⟨(.type "tuple"), none, (.seq (.mk [(.str "self" 1193), (.str "e" 1194), (.str "k" 1195), (.str "node" 1196), (.str "explicit" 1197)]) 0), .mk []⟩
noncomputable def o405 : Obj := ⟨.none, none, (fd (mS 107 3) "Pew.convert" 0 .none .none .none .none none .none .none), .mk []⟩
noncomputable def o406 : Obj := ⟨(.type "code"), none, (.fields (.mk [(.str "convert" 1190), (.str "Pew.convert" 1191), (.str "/claim/cut.py" 1192), (.int 508 0), (.int 5 0), (.int 0 0), (.int 0 0), (.int 3 0), (.ref 613), (.bool true), (.int 181 0), (.ref 614), .none, (.ref 615), (.ref 616), (.ref 617), (.int 1198 0), (.int 508 0), (.str "/claim/cut.py" 1199)])), .mk []⟩
noncomputable def o407 : Obj := ⟨(.type "function"), none, (fd (mS 107 3) "Pew.convert" 3 .none .none .none (.str "framerune.cscore" 930) none (.ref 618) .none), .mk []⟩
noncomputable def o408 : Obj := ⟨(.type "tuple"), none, (.seq (.mk [(.str "asm" 1201), (.str "at" 1202), (.str "checked" 1203), (.str "deep" 1204), (.str "early" 1205), (.str "exprs" 1206), (.str "fn" 1207), (.str "free" 1208), (.str "host" 1209), (.str "kinds" 1210), (.str "kt" 1211), (.str "mid" 1212), (.str "owner" 1213), (.str "static" 1214), (.str "store" 1215), (.str "told" 1216), (.str "tparams" 1217), (.str "turner" 1218), (.str "unit" 1219), (.str "unmet" 1220)]) 0), .mk []⟩
noncomputable def o409 (P : Params) : Obj := ⟨(.type "dict"), none, (.dict (.mk [ke P "__module__" 1156 (.str "framerune.cscore" 930), ke P "__firstlineno__" 1160 (.int 478 1159), ke P "__init__" 1170 (.ref 598), ke P "expr" 1179 (.ref 605), ke P "fits" 1189 (.ref 612), ke P "convert" 1200 (.ref 619), ke P "__static_attributes__" 1221 (.ref 620), ke P "__doc__" 1222 .none]) 2), .mk []⟩
noncomputable def o410 : Obj := ⟨(.type "type"), none, (.cls ⟨"Pew", [(.ref 580)], [(.ref 622), (.ref 580), (.type "object")], 621, "Pew", true, [], [], false, none, false⟩), .mk [(some (.ref 585)), none, (some (.str "Pew" 1149)), (some (.str "Pew" 1157)), (some (.builtin "object.__new__")), (some (.bool true))]⟩
noncomputable def o411 : Obj := ⟨(.type "super"), none, (.fields (.mk [(.ref 622), (.ref 622), (.ref 622)])), .mk []⟩
noncomputable def o412 : Obj := ⟨(.type "builtin_function_or_method"), none, (.fields (.mk [(.builtin "object.__init_subclass__"), (.ref 622)])), .mk []⟩
noncomputable def o413 : Obj := ⟨(.type "tuple"), none, (.seq (.mk [(.str "kind" 1228)]) 0), .mk []⟩
noncomputable def o414 : Obj := ⟨.none, none, (fd (tS 108) "bad" 0 .none .none .none .none none .none .none), .mk []⟩
noncomputable def o415 : Obj := ⟨(.type "code"), none, (.fields (.mk [(.str "bad" 1225), (.str "bad" 1226), (.str "/claim/cut.py" 1227), (.int 510 0), (.int 1 0), (.int 0 0), (.int 0 0), (.int 3 0), (.ref 625), (.bool true), (.int 181 0), (.ref 626), .none, (.ref 627), (.ref 628), (.ref 629), (.int 1229 0), (.int 510 0), (.str "/claim/cut.py" 1230)])), .mk []⟩
noncomputable def o416 : Obj := ⟨(.type "function"), none, (fd (tS 108) "bad" 3 .none .none .none (.str "framerune.cscore" 930) none (.ref 630) .none), .mk []⟩
noncomputable def t15 (P : Params) : BT := (.node (boot_o_0 P) (.node (boot_o_1 P) (.node (o384 P) (.node (boot_o_7 P) (.node o0 (.node o17 (.node o50 (.node o0 (.node o179 (L o0) .nil) (L o1)) (.node o133 (.node o0 (L o374) .nil) (L o296))) (.node o72 (.node o0 (.node o0 (L o0) .nil) (L o274)) (.node o154 (.node o237 (L o1) .nil) (L o315)))) (.node o32 (.node o62 (.node o104 (.node o1 (L o342) .nil) (L o0)) (.node o143 (.node o226 (L o391) .nil) (L o305))) (.node o1 (.node o122 (.node o208 (L o365) .nil) (L o0)) (.node o166 (.node o247 (L o411) .nil) (L o1))))) (.node o12 (.node o24 (.node o0 (.node o99 (.node o0 (L o337) .nil) (L o260)) (.node o138 (.node o1 (L o382) .nil) (L o0))) (.node o0 (.node o1 (.node o203 (L o1) .nil) (L o279)) (.node o161 (.node o242 (L o404) .nil) (L o0)))) (.node o41 (.node o67 (.node o109 (.node o194 (L o350) .nil) (L o269)) (.node o0 (.node o0 (L o0) .nil) (L o310))) (.node o88 (.node o0 (.node o213 (L o0) .nil) (L o12)) (.node o174 (.node o0 (L o416) .nil) (L o328)))))) (.node o0 (.node o8 (.node o20 (.node o54 (.node o0 (.node o0 (L o0) .nil) (L o258)) (.node o1 (.node o219 (L (o378 P)) .nil) (L o299))) (.node o76 (.node o115 (.node o0 (L o358) .nil) (L o276)) (.node o0 (.node o1 (L o402) .nil) (L o0)))) (.node o35 (.node o1 (.node o106 (.node o192 (L o346) .nil) (L o0)) (.node o0 (.node o229 (L o0) .nil) (L o1))) (.node o86 (.node o125 (.node o210 (L o368) .nil) (L o287)) (.node o170 (.node o0 (L o413) .nil) (L o326))))) (.node o15 (.node o12 (.node o0 (.node o1 (.node o187 (L o1) .nil) (L o263)) (.node o140 (.node o224 (L (o388 P)) .nil) (L o0))) (.node o81 (.node o120 (.node o1 (L o363) .nil) (L o0)) (.node o1 (.node o244 (L o407) .nil) (L o321)))) (.node o46 (.node o69 (.node o0 (.node o197 (L o0) .nil) (L o1)) (.node o150 (.node o0 (L o397) .nil) (L o312))) (.node o91 (.node o0 (.node o0 (L o0) .nil) (L o294)) (.node o176 (L o253) (L o331))))))) (.node (boot_o_5 P) (.node (boot_o_9 P) (.node o7 (.node o18 (.node o52 (.node o96 (.node o1 (L o334) .nil) (L o0)) (.node o135 (.node o218 (L o376) .nil) (L o297))) (.node (o74 P) (.node o114 (.node o200 (L o357) .nil) (L o0)) (.node o156 (.node o239 (L o0) .nil) (L o1)))) (.node o0 (.node o64 (.node o0 (.node o0 (L o344) .nil) (L o266)) (.node o1 (.node o227 (L o1) .nil) (L o307))) (.node o0 (.node o123 (.node o0 (L o366) .nil) (L o286)) (.node o168 (.node o1 (L o0) .nil) (L o0))))) (.node o0 (.node o26 (.node o59 (.node o101 (.node o186 (L o339) .nil) (L o261)) (.node o0 (.node o0 (L o387) .nil) (L o302))) (.node o80 (.node o0 (.node o205 (L o0) .nil) (L o1)) (.node o163 (.node o0 (L o405) .nil) (L o320)))) (.node o44 (.node o0 (.node o1 (.node o195 (L o12) .nil) (L o271)) (.node o148 (.node o234 (L o396) .nil) (L o0))) (.node o89 (.node o128 (.node o1 (L o371) .nil) (L o0)) (.node o0 (L o252) (L o329)))))) (.node o2 (.node o10 (.node (o22 P) (.node o12 (.node o98 (.node o184 (L o336) .nil) (L o0)) (.node o0 (.node o221 (L o380) .nil) (L o1))) (.node o78 (.node o117 (.node o202 (L o360) .nil) (L o277)) (.node (o160 P) (.node o0 (L o0) .nil) (L o318)))) (.node o37 (.node o0 (.node o107 (.node o0 (L o348) .nil) (L o268)) (.node o146 (.node o1 (L o394) .nil) (L o0))) (.node o0 (.node o1 (.node o211 (L o1) .nil) (L o289)) (.node o172 (.node o250 (L o414) .nil) (L o0))))) (.node o0 (.node o0 (.node o61 (.node o0 (.node o189 (L o0) .nil) (L o1)) (.node o141 (.node o0 (L o389) .nil) (L o304))) (.node o83 (.node o0 (.node o0 (L o0) .nil) (L o282)) (.node o0 (.node o245 (L (o409 P)) .nil) (L o323)))) (.node o48 (.node o70 (.node o112 (.node o1 (L o355) .nil) (L o0)) (.node (o152 P) (.node o236 (L o399) .nil) (L o313))) (.node o1 (.node (o132 P) (.node o216 (L o373) .nil) (L o0)) (.node o177 (L o255) (L o1)))))))) (.node (o4 P) (.node (boot_o_4 P) (.node (boot_o_8 P) (.node o1 (.node o0 (.node o51 (.node o95 (.node o0 (L o333) .nil) (L o256)) (.node o134 (.node o1 (L o375) .nil) (L o0))) (.node o73 (.node o1 (.node o199 (L o1) .nil) (L o275)) (.node o155 (.node o238 (L o400) .nil) (L o0)))) (.node o33 (.node o63 (.node o105 (.node o190 (L o343) .nil) (L o265)) (.node o0 (.node o0 (L o0) .nil) (L o306))) (.node o84 (.node o0 (.node o209 (L o0) .nil) (L o1)) (.node o167 (.node o0 (L o412) .nil) (L o324))))) (.node (o13 P) (.node o25 (.node o58 (.node o100 (.node o1 (L o338) .nil) (L o0)) (.node o139 (.node o222 (L o383) .nil) (L o301))) (.node o1 (.node o118 (.node o204 (L o361) .nil) (L o0)) (.node o162 (.node o243 (L o0) .nil) (L o1)))) (.node o43 (.node o68 (.node o0 (.node o0 (L o0) .nil) (L o270)) (.node o1 (.node o233 (L o1) .nil) (L o311))) (.node o0 (.node o127 (.node o0 (L o370) .nil) (L (o292 P))) (.node o175 (L o1) (L o0)))))) (.node o385 (.node o9 (.node o21 (.node o0 (.node o1 (.node o183 (L o1) .nil) (L o259)) (.node o136 (.node o220 (L o386) .nil) (L o0))) (.node o77 (.node o116 (.node o1 (L o359) .nil) (L o0)) (.node o12 (.node o240 (L o403) .nil) (L o317)))) (.node o36 (.node o65 (.node o0 (.node o193 (L o347) .nil) (L o1)) (.node o145 (.node o0 (L o393) .nil) (L o308))) (.node o87 (.node o0 (.node o0 (L o0) .nil) (L o288)) (.node o171 (.node o249 (L o0) .nil) (L o327))))) (.node o16 (.node (o31 P) (.node o1 (.node o102 (.node o188 (L o340) .nil) (L o0)) (.node o0 (.node o225 (L o0) .nil) (L o1))) (.node o82 (.node o121 (.node o206 (L o364) .nil) (L o281)) (.node o164 (.node o0 (L o408) .nil) (L o322)))) (.node o47 (.node o0 (.node o111 (.node o0 (L o354) .nil) (L o272)) (.node o151 (.node o1 (L o398) .nil) (L o0))) (.node o0 (.node o12 (.node o215 (L o1) .nil) (L o295)) (.node o0 (L o254) (L o0))))))) (.node (boot_o_6 P) (.node (boot_o_10 P) (.node o0 (.node o19 (.node o53 (.node o97 (.node o182 (L o335) .nil) (L o257)) (.node o0 (.node o0 (L o377) .nil) (L o298))) (.node o75 (.node o0 (.node o201 (L o0) .nil) (L o1)) (.node o157 (.node o0 (L o401) .nil) (L o316)))) (.node (o34 P) (.node o0 (.node o1 (.node o191 (L (o345 P)) .nil) (L o267)) (.node o144 (.node o228 (L o392) .nil) (L o0))) (.node o85 (.node o124 (.node o1 (L o367) .nil) (L o0)) (.node (o169 P) (.node o248 (L o1) .nil) (L o325))))) (.node o14 (.node o30 (.node o60 (.node o0 (.node o0 (L o0) .nil) (L o262)) (.node o1 (.node o223 (L o12) .nil) (L o303))) (.node o0 (.node o119 (.node o0 (L o362) .nil) (L o280)) (.node o0 (.node o1 (L o406) .nil) (L o0)))) (.node o45 (.node o1 (.node o110 (.node o196 (L (o353 P)) .nil) (L o0)) (.node o149 (.node o235 (L o0) .nil) (L o1))) (.node o90 (.node o129 (.node o214 (L o372) .nil) (L o293)) (.node o1 (L o0) (L o330)))))) (.node o3 (.node o11 (.node o29 (.node (o57 P) (.node o0 (.node o185 (L o0) .nil) (L o1)) (.node o137 (.node o0 (L o381) .nil) (L o300))) (.node o79 (.node o0 (.node o0 (L o0) .nil) (L o278)) (.node o0 (.node o241 (L o1) .nil) (L o319)))) (.node o39 (.node o66 (.node o108 (.node o1 (L o349) .nil) (L o0)) (.node o147 (.node o232 (L o395) .nil) (L o309))) (.node o1 (.node o126 (.node o212 (L o369) .nil) (L o0)) (.node o173 (.node o251 (L o415) .nil) (L o1))))) (.node o1 (.node o1 (.node o0 (.node o103 (.node o0 (L o341) .nil) (L o264)) (.node o142 (.node o1 (L o390) .nil) (L o0))) (.node o0 (.node o1 (.node o207 (L o1) .nil) (L o283)) (.node o165 (.node o246 (L o410) .nil) (L o0)))) (.node o49 (.node o71 (.node o113 (.node o198 (L o356) .nil) (L o273)) (.node o153 (.node o0 (L o0) .nil) (L o314))) (.node o94 (.node o0 (.node o217 (L o0) .nil) (L o1)) (.node o178 (L o0) (L o332)))))))))
theorem p15 (w : World) : Pc 107 2 398 585 1149 t14 ⟨450, 0, 477, 16⟩ 632 1232 t15 ⟨510, 0, 511, 28⟩ w := by kernel_rfl
noncomputable def e116 (P : Params) : DictEntry := ke P "__name__" 165 (.str "framerune.kindrel" 1269)
noncomputable def e117 (P : Params) : DictEntry := ke P "turn_by_rows" 1243 (.ref 638)
noncomputable def e118 (P : Params) : DictEntry := ke P "MOST_LETTERS" 1247 (.int 65535 1246)
noncomputable def e119 (P : Params) : DictEntry := ke P "bind_concat" 1259 (.ref 645)
noncomputable def e120 (P : Params) : DictEntry := ke P "ops_part" 1268 (.ref 652)
noncomputable def o417 (P : Params) : Obj := ⟨(.type "dict"), none, .dict (.mk (e116 P :: e1 P :: e2 P :: e3 P :: e4 P :: e5 P :: e6 P :: e7 P :: e8 P :: e9 P :: e10 P :: e11 P :: e12 P :: e13 P :: e14 P :: e15 P :: e16 P :: e17 P :: e18 P :: e19 P :: e20 P :: e21 P :: e22 P :: e23 P :: e24 P :: e25 P :: e26 P :: e27 P :: e28 P :: e29 P :: e30 P :: e31 P :: e32 P :: e33 P :: e34 P :: e35 P :: e36 P :: e37 P :: e38 P :: e39 P :: e40 P :: e41 P :: e42 P :: e43 P :: e44 P :: e45 P :: e46 P :: e47 P :: e48 P :: e49 P :: e51 P :: e52 P :: e53 P :: e54 P :: e55 P :: e56 P :: e57 P :: e58 P :: e59 P :: e61 P :: e62 P :: e63 P :: e64 P :: e65 P :: e66 P :: e67 P :: e68 P :: e69 P :: e71 P :: e72 P :: e73 P :: e74 P :: e75 P :: e76 P :: e77 P :: e78 P :: e79 P :: e80 P :: e81 P :: e82 P :: e83 P :: e84 P :: e85 P :: e86 P :: e87 P :: e88 P :: e89 P :: e90 P :: e91 P :: e92 P :: e93 P :: e94 P :: e95 P :: e96 P :: e97 P :: e98 P :: e99 P :: e100 P :: e101 P :: e102 P :: e103 P :: e104 P :: e105 P :: e106 P :: e107 P :: e108 P :: e109 P :: e111 P :: e112 P :: e113 P :: e114 P :: e115 P :: e117 P :: e118 P :: e119 P :: e120 P :: [])) 116, .mk []⟩
noncomputable def o418 : Obj := ⟨.none, none, (.fields (.mk ((.int 1 0) :: (.int 0 0) :: (.ref 20) :: (.int 5 0) :: (.int 0 0) :: (.ref 27) :: (.int 10 0) :: (.int 0 0) :: (.ref 47) :: (.int 47 0) :: (.int 0 0) :: (.ref 73) :: (.int 96 0) :: (.int 0 0) :: (.ref 108) :: (.int 105 0) :: (.int 0 0) :: (.ref 115) :: (.int 109 0) :: (.int 0 0) :: (.ref 122) :: (.int 115 0) :: (.int 0 0) :: (.ref 129) :: (.int 137 0) :: (.int 0 0) :: (.ref 136) :: (.int 141 0) :: (.int 0 0) :: (.ref 143) :: (.int 145 0) :: (.int 0 0) :: (.ref 150) :: (.int 150 0) :: (.int 0 0) :: (.ref 157) :: (.int 159 0) :: (.int 0 0) :: (.ref 164) :: (.int 163 0) :: (.int 0 0) :: (.ref 171) :: (.int 166 0) :: (.int 0 0) :: (.ref 178) :: (.int 170 0) :: (.int 0 0) :: (.ref 185) :: (.int 173 0) :: (.int 0 0) :: (.ref 192) :: (.int 203 0) :: (.int 0 0) :: (.ref 232) :: (.int 220 0) :: (.int 0 0) :: (.ref 254) :: (.int 223 0) :: (.int 0 0) :: (.ref 261) :: (.int 226 0) :: (.int 0 0) :: (.ref 268) :: (.int 230 0) :: (.int 0 0) :: (.ref 275) :: (.int 242 0) :: (.int 0 0) :: (.ref 282) :: (.int 248 0) :: (.int 0 0) :: (.ref 289) :: (.int 253 0) :: (.int 0 0) :: (.ref 296) :: (.int 267 0) :: (.int 0 0) :: (.ref 303) :: (.int 273 0) :: (.int 0 0) :: (.ref 310) :: (.int 287 0) :: (.int 0 0) :: (.ref 317) :: (.int 293 0) :: (.int 0 0) :: (.ref 324) :: (.int 298 0) :: (.int 0 0) :: (.ref 331) :: (.int 300 0) :: (.int 0 0) :: (.ref 338) :: (.int 302 0) :: (.int 0 0) :: (.ref 345) :: (.int 306 0) :: (.int 0 0) :: (.ref 352) :: (.int 314 0) :: (.int 0 0) :: (.ref 359) :: (.int 316 0) :: (.int 0 0) :: (.ref 366) :: (.int 320 0) :: (.int 0 0) :: (.ref 373) :: (.int 324 0) :: (.int 0 0) :: (.ref 380) :: (.int 330 0) :: (.int 0 0) :: (.ref 387) :: (.int 336 0) :: (.int 0 0) :: (.ref 394) :: (.int 340 0) :: (.int 0 0) :: (.ref 401) :: (.int 346 0) :: (.int 0 0) :: (.ref 408) :: (.int 361 0) :: (.int 0 0) :: (.ref 415) :: (.int 367 0) :: (.int 0 0) :: (.ref 422) :: (.int 375 0) :: (.int 0 0) :: (.ref 429) :: (.int 392 0) :: (.int 0 0) :: (.ref 436) :: (.int 410 0) :: (.int 0 0) :: (.ref 443) :: (.int 450 0) :: (.int 0 0) :: (.ref 541) :: (.int 478 0) :: (.int 0 0) :: (.ref 590) :: (.int 510 0) :: (.int 0 0) :: (.ref 630) :: (.int 512 0) :: (.int 0 0) :: (.ref 637) :: (.int 522 0) :: (.int 0 0) :: (.ref 644) :: (.int 529 0) :: (.int 0 0) :: (.ref 651) :: []))), .mk []⟩
noncomputable def o419 : Obj := ⟨(.type "tuple"), none, (.seq (.mk [(.str "table" 1235), (.str "cx" 1236), (.str "e" 1237), (.str "k" 1238), (.str "node" 1239), (.str "cv" 1240)]) 0), .mk []⟩
noncomputable def o420 : Obj := ⟨.none, none, (fd (tS 109) "turn_by_rows" 0 .none .none .none .none none .none .none), .mk []⟩
noncomputable def o421 : Obj := ⟨(.type "code"), none, (.fields (.mk [(.str "turn_by_rows" 1232), (.str "turn_by_rows" 1233), (.str "/claim/cut.py" 1234), (.int 512 0), (.int 5 0), (.int 0 0), (.int 0 0), (.int 3 0), (.ref 632), (.bool true), (.int 181 0), (.ref 633), .none, (.ref 634), (.ref 635), (.ref 636), (.int 1241 0), (.int 512 0), (.str "/claim/cut.py" 1242)])), .mk []⟩
noncomputable def o422 : Obj := ⟨(.type "function"), none, (fd (tS 109) "turn_by_rows" 3 .none .none .none (.str "framerune.cscore" 930) none (.ref 637) .none), .mk []⟩
noncomputable def o423 : Obj := ⟨(.type "tuple"), none, (.seq (.mk [(.str "cx" 1251), (.str "l" 1252), (.str "r" 1253), (.str "node" 1254), (.str "first" 1255), (.str "built" 1256)]) 0), .mk []⟩
noncomputable def o424 : Obj := ⟨.none, none, (fd (tS 112) "bind_concat" 0 .none .none .none .none none .none .none), .mk []⟩
noncomputable def o425 : Obj := ⟨(.type "code"), none, (.fields (.mk [(.str "bind_concat" 1248), (.str "bind_concat" 1249), (.str "/claim/cut.py" 1250), (.int 522 0), (.int 4 0), (.int 0 0), (.int 0 0), (.int 3 0), (.ref 639), (.bool true), (.int 181 0), (.ref 640), .none, (.ref 641), (.ref 642), (.ref 643), (.int 1257 0), (.int 522 0), (.str "/claim/cut.py" 1258)])), .mk []⟩
noncomputable def o426 : Obj := ⟨(.type "function"), none, (fd (tS 112) "bind_concat" 3 .none .none .none (.str "framerune.csops" 1244) none (.ref 644) .none), .mk []⟩
noncomputable def o427 : Obj := ⟨(.type "tuple"), none, (.seq (.mk [(.str "cx" 1263), (.str "e" 1264), (.str "node" 1265)]) 0), .mk []⟩
noncomputable def o428 : Obj := ⟨.none, none, (fd (tS 113) "ops_part" 0 .none .none .none .none none .none .none), .mk []⟩
noncomputable def o429 : Obj := ⟨(.type "code"), none, (.fields (.mk [(.str "ops_part" 1260), (.str "ops_part" 1261), (.str "/claim/cut.py" 1262), (.int 529 0), (.int 3 0), (.int 0 0), (.int 0 0), (.int 3 0), (.ref 646), (.bool true), (.int 181 0), (.ref 647), .none, (.ref 648), (.ref 649), (.ref 650), (.int 1266 0), (.int 529 0), (.str "/claim/cut.py" 1267)])), .mk []⟩
noncomputable def o430 : Obj := ⟨(.type "function"), none, (fd (tS 113) "ops_part" 3 .none .none .none (.str "framerune.csops" 1244) none (.ref 651) .none), .mk []⟩
noncomputable def t16 (P : Params) : BT := (.node (boot_o_0 P) (.node (boot_o_1 P) (.node (o417 P) (.node (boot_o_7 P) (.node o0 (.node o17 (.node o50 (.node o0 (.node o179 (L o0) .nil) (.node o1 (L o0) .nil)) (.node o133 (.node o0 (L o374) .nil) (L o296))) (.node o72 (.node o0 (.node o0 (L o0) .nil) (L o274)) (.node o154 (.node o237 (L o1) .nil) (L o315)))) (.node o32 (.node o62 (.node o104 (.node o1 (L o342) .nil) (L o0)) (.node o143 (.node o226 (L o391) .nil) (L o305))) (.node o1 (.node o122 (.node o208 (L o365) .nil) (L o0)) (.node o166 (.node o247 (L o411) .nil) (L o1))))) (.node o12 (.node o24 (.node o0 (.node o99 (.node o0 (L o337) .nil) (.node o260 (L o1) .nil)) (.node o138 (.node o1 (L o382) .nil) (L o0))) (.node o0 (.node o1 (.node o203 (L o1) .nil) (L o279)) (.node o161 (.node o242 (L o404) .nil) (L o0)))) (.node o41 (.node o67 (.node o109 (.node o194 (L o350) .nil) (L o269)) (.node o0 (.node o0 (L o0) .nil) (L o310))) (.node o88 (.node o0 (.node o213 (L o0) .nil) (L o12)) (.node o174 (.node o0 (L o416) .nil) (L o328)))))) (.node o0 (.node o8 (.node o20 (.node o54 (.node o0 (.node o0 (L o0) .nil) (.node o258 (L o424) .nil)) (.node o1 (.node o219 (L (o378 P)) .nil) (L o299))) (.node o76 (.node o115 (.node o0 (L o358) .nil) (L o276)) (.node o0 (.node o1 (L o402) .nil) (L o0)))) (.node o35 (.node o1 (.node o106 (.node o192 (L o346) .nil) (L o0)) (.node o0 (.node o229 (L o0) .nil) (L o1))) (.node o86 (.node o125 (.node o210 (L o368) .nil) (L o287)) (.node o170 (.node o0 (L o413) .nil) (L o326))))) (.node o15 (.node o12 (.node o0 (.node o1 (.node o187 (L o1) .nil) (.node o263 (L o429) .nil)) (.node o140 (.node o224 (L (o388 P)) .nil) (L o0))) (.node o81 (.node o120 (.node o1 (L o363) .nil) (L o0)) (.node o1 (.node o244 (L o407) .nil) (L o321)))) (.node o46 (.node o69 (.node o0 (.node o197 (L o0) .nil) (L o1)) (.node o150 (.node o0 (L o397) .nil) (L o312))) (.node o91 (.node o0 (.node o0 (L o0) .nil) (L o294)) (.node o176 (.node o253 (L o0) .nil) (L o331))))))) (.node (boot_o_5 P) (.node (boot_o_9 P) (.node o7 (.node o18 (.node o52 (.node o96 (.node o1 (L o334) .nil) (.node o0 (L o423) .nil)) (.node o135 (.node o218 (L o376) .nil) (L o297))) (.node (o74 P) (.node o114 (.node o200 (L o357) .nil) (L o0)) (.node o156 (.node o239 (L o0) .nil) (L o1)))) (.node o0 (.node o64 (.node o0 (.node o0 (L o344) .nil) (L o266)) (.node o1 (.node o227 (L o1) .nil) (L o307))) (.node o0 (.node o123 (.node o0 (L o366) .nil) (L o286)) (.node o168 (.node o1 (L o0) .nil) (L o0))))) (.node o0 (.node o26 (.node o59 (.node o101 (.node o186 (L o339) .nil) (.node o261 (L o0) .nil)) (.node o0 (.node o0 (L o387) .nil) (L o302))) (.node o80 (.node o0 (.node o205 (L o0) .nil) (L o1)) (.node o163 (.node o0 (L o405) .nil) (L o320)))) (.node o44 (.node o0 (.node o1 (.node o195 (L o12) .nil) (L o271)) (.node o148 (.node o234 (L o396) .nil) (L o0))) (.node o89 (.node o128 (.node o1 (L o371) .nil) (L o0)) (.node o0 (.node o252 (L o1) .nil) (L o329)))))) (.node o2 (.node o10 (.node (o22 P) (.node o12 (.node o98 (.node o184 (L o336) .nil) (.node o0 (L o426) .nil)) (.node o0 (.node o221 (L o380) .nil) (L o1))) (.node o78 (.node o117 (.node o202 (L o360) .nil) (L o277)) (.node (o160 P) (.node o0 (L o0) .nil) (L o318)))) (.node o37 (.node o0 (.node o107 (.node o0 (L o348) .nil) (L o268)) (.node o146 (.node o1 (L o394) .nil) (L o0))) (.node o0 (.node o1 (.node o211 (L o1) .nil) (L o289)) (.node o172 (.node o250 (L o414) .nil) (L o0))))) (.node o0 (.node o0 (.node o61 (.node o0 (.node o189 (L o0) .nil) (L o1)) (.node o141 (.node o0 (L o389) .nil) (L o304))) (.node o83 (.node o0 (.node o0 (L o0) .nil) (L o282)) (.node o0 (.node o245 (L (o409 P)) .nil) (L o323)))) (.node o48 (.node o70 (.node o112 (.node o1 (L o355) .nil) (L o0)) (.node (o152 P) (.node o236 (L o399) .nil) (L o313))) (.node o1 (.node (o132 P) (.node o216 (L o373) .nil) (L o0)) (.node o177 (.node o255 (L o421) .nil) (L o1)))))))) (.node (o4 P) (.node (boot_o_4 P) (.node (boot_o_8 P) (.node o1 (.node o0 (.node o51 (.node o95 (.node o0 (L o333) .nil) (.node o256 (L o1) .nil)) (.node o134 (.node o1 (L o375) .nil) (L o0))) (.node o73 (.node o1 (.node o199 (L o1) .nil) (L o275)) (.node o155 (.node o238 (L o400) .nil) (L o0)))) (.node o33 (.node o63 (.node o105 (.node o190 (L o343) .nil) (L o265)) (.node o0 (.node o0 (L o0) .nil) (L o306))) (.node o84 (.node o0 (.node o209 (L o0) .nil) (L o1)) (.node o167 (.node o0 (L o412) .nil) (L o324))))) (.node (o13 P) (.node o25 (.node o58 (.node o100 (.node o1 (L o338) .nil) (.node o0 (L o427) .nil)) (.node o139 (.node o222 (L o383) .nil) (L o301))) (.node o1 (.node o118 (.node o204 (L o361) .nil) (L o0)) (.node o162 (.node o243 (L o0) .nil) (L o1)))) (.node o43 (.node o68 (.node o0 (.node o0 (L o0) .nil) (L o270)) (.node o1 (.node o233 (L o1) .nil) (L o311))) (.node o0 (.node o127 (.node o0 (L o370) .nil) (L (o292 P))) (.node o175 (.node o1 (L o0) .nil) (L o0)))))) (.node o418 (.node o9 (.node o21 (.node o0 (.node o1 (.node o183 (L o1) .nil) (.node o259 (L o425) .nil)) (.node o136 (.node o220 (L o386) .nil) (L o0))) (.node o77 (.node o116 (.node o1 (L o359) .nil) (L o0)) (.node o12 (.node o240 (L o403) .nil) (L o317)))) (.node o36 (.node o65 (.node o0 (.node o193 (L o347) .nil) (L o1)) (.node o145 (.node o0 (L o393) .nil) (L o308))) (.node o87 (.node o0 (.node o0 (L o0) .nil) (L o288)) (.node o171 (.node o249 (L o0) .nil) (L o327))))) (.node o16 (.node (o31 P) (.node o1 (.node o102 (.node o188 (L o340) .nil) (.node o0 (L o430) .nil)) (.node o0 (.node o225 (L o0) .nil) (L o1))) (.node o82 (.node o121 (.node o206 (L o364) .nil) (L o281)) (.node o164 (.node o0 (L o408) .nil) (L o322)))) (.node o47 (.node o0 (.node o111 (.node o0 (L o354) .nil) (L o272)) (.node o151 (.node o1 (L o398) .nil) (L o0))) (.node o0 (.node o12 (.node o215 (L o1) .nil) (L o295)) (.node o0 (.node o254 (L o420) .nil) (L o0))))))) (.node (boot_o_6 P) (.node (boot_o_10 P) (.node o0 (.node o19 (.node o53 (.node o97 (.node o182 (L o335) .nil) (.node o257 (L o0) .nil)) (.node o0 (.node o0 (L o377) .nil) (L o298))) (.node o75 (.node o0 (.node o201 (L o0) .nil) (L o1)) (.node o157 (.node o0 (L o401) .nil) (L o316)))) (.node (o34 P) (.node o0 (.node o1 (.node o191 (L (o345 P)) .nil) (L o267)) (.node o144 (.node o228 (L o392) .nil) (L o0))) (.node o85 (.node o124 (.node o1 (L o367) .nil) (L o0)) (.node (o169 P) (.node o248 (L o1) .nil) (L o325))))) (.node o14 (.node o30 (.node o60 (.node o0 (.node o0 (L o0) .nil) (.node o262 (L o428) .nil)) (.node o1 (.node o223 (L o12) .nil) (L o303))) (.node o0 (.node o119 (.node o0 (L o362) .nil) (L o280)) (.node o0 (.node o1 (L o406) .nil) (L o0)))) (.node o45 (.node o1 (.node o110 (.node o196 (L (o353 P)) .nil) (L o0)) (.node o149 (.node o235 (L o0) .nil) (L o1))) (.node o90 (.node o129 (.node o214 (L o372) .nil) (L o293)) (.node o1 (.node o0 (L o419) .nil) (L o330)))))) (.node o3 (.node o11 (.node o29 (.node (o57 P) (.node o0 (.node o185 (L o0) .nil) (.node o1 (L o0) .nil)) (.node o137 (.node o0 (L o381) .nil) (L o300))) (.node o79 (.node o0 (.node o0 (L o0) .nil) (L o278)) (.node o0 (.node o241 (L o1) .nil) (L o319)))) (.node o39 (.node o66 (.node o108 (.node o1 (L o349) .nil) (L o0)) (.node o147 (.node o232 (L o395) .nil) (L o309))) (.node o1 (.node o126 (.node o212 (L o369) .nil) (L o0)) (.node o173 (.node o251 (L o415) .nil) (L o1))))) (.node o1 (.node o1 (.node o0 (.node o103 (.node o0 (L o341) .nil) (L o264)) (.node o142 (.node o1 (L o390) .nil) (L o0))) (.node o0 (.node o1 (.node o207 (L o1) .nil) (L o283)) (.node o165 (.node o246 (L o410) .nil) (L o0)))) (.node o49 (.node o71 (.node o113 (.node o198 (L o356) .nil) (L o273)) (.node o153 (.node o0 (L o0) .nil) (L o314))) (.node o94 (.node o0 (.node o217 (L o0) .nil) (L o1)) (.node o178 (.node o0 (L o422) .nil) (L o332)))))))))
theorem p16 (w : World) : Pc 109 6 127 632 1232 t15 ⟨510, 0, 511, 28⟩ 653 1271 t16 ⟨535, 0, 535, 8⟩ w := by kernel_rfl
noncomputable def e121 (P : Params) : DictEntry := ke P "BareHost" 1355 (.ref 711)
noncomputable def o431 (P : Params) : Obj := ⟨(.type "dict"), none, .dict (.mk (e116 P :: e1 P :: e2 P :: e3 P :: e4 P :: e5 P :: e6 P :: e7 P :: e8 P :: e9 P :: e10 P :: e11 P :: e12 P :: e13 P :: e14 P :: e15 P :: e16 P :: e17 P :: e18 P :: e19 P :: e20 P :: e21 P :: e22 P :: e23 P :: e24 P :: e25 P :: e26 P :: e27 P :: e28 P :: e29 P :: e30 P :: e31 P :: e32 P :: e33 P :: e34 P :: e35 P :: e36 P :: e37 P :: e38 P :: e39 P :: e40 P :: e41 P :: e42 P :: e43 P :: e44 P :: e45 P :: e46 P :: e47 P :: e48 P :: e49 P :: e51 P :: e52 P :: e53 P :: e54 P :: e55 P :: e56 P :: e57 P :: e58 P :: e59 P :: e61 P :: e62 P :: e63 P :: e64 P :: e65 P :: e66 P :: e67 P :: e68 P :: e69 P :: e71 P :: e72 P :: e73 P :: e74 P :: e75 P :: e76 P :: e77 P :: e78 P :: e79 P :: e80 P :: e81 P :: e82 P :: e83 P :: e84 P :: e85 P :: e86 P :: e87 P :: e88 P :: e89 P :: e90 P :: e91 P :: e92 P :: e93 P :: e94 P :: e95 P :: e96 P :: e97 P :: e98 P :: e99 P :: e100 P :: e101 P :: e102 P :: e103 P :: e104 P :: e105 P :: e106 P :: e107 P :: e108 P :: e109 P :: e111 P :: e112 P :: e113 P :: e114 P :: e115 P :: e117 P :: e118 P :: e119 P :: e120 P :: e121 P :: [])) 117, .mk []⟩
noncomputable def o432 : Obj := ⟨.none, none, (.fields (.mk ((.int 1 0) :: (.int 0 0) :: (.ref 20) :: (.int 5 0) :: (.int 0 0) :: (.ref 27) :: (.int 10 0) :: (.int 0 0) :: (.ref 47) :: (.int 47 0) :: (.int 0 0) :: (.ref 73) :: (.int 96 0) :: (.int 0 0) :: (.ref 108) :: (.int 105 0) :: (.int 0 0) :: (.ref 115) :: (.int 109 0) :: (.int 0 0) :: (.ref 122) :: (.int 115 0) :: (.int 0 0) :: (.ref 129) :: (.int 137 0) :: (.int 0 0) :: (.ref 136) :: (.int 141 0) :: (.int 0 0) :: (.ref 143) :: (.int 145 0) :: (.int 0 0) :: (.ref 150) :: (.int 150 0) :: (.int 0 0) :: (.ref 157) :: (.int 159 0) :: (.int 0 0) :: (.ref 164) :: (.int 163 0) :: (.int 0 0) :: (.ref 171) :: (.int 166 0) :: (.int 0 0) :: (.ref 178) :: (.int 170 0) :: (.int 0 0) :: (.ref 185) :: (.int 173 0) :: (.int 0 0) :: (.ref 192) :: (.int 203 0) :: (.int 0 0) :: (.ref 232) :: (.int 220 0) :: (.int 0 0) :: (.ref 254) :: (.int 223 0) :: (.int 0 0) :: (.ref 261) :: (.int 226 0) :: (.int 0 0) :: (.ref 268) :: (.int 230 0) :: (.int 0 0) :: (.ref 275) :: (.int 242 0) :: (.int 0 0) :: (.ref 282) :: (.int 248 0) :: (.int 0 0) :: (.ref 289) :: (.int 253 0) :: (.int 0 0) :: (.ref 296) :: (.int 267 0) :: (.int 0 0) :: (.ref 303) :: (.int 273 0) :: (.int 0 0) :: (.ref 310) :: (.int 287 0) :: (.int 0 0) :: (.ref 317) :: (.int 293 0) :: (.int 0 0) :: (.ref 324) :: (.int 298 0) :: (.int 0 0) :: (.ref 331) :: (.int 300 0) :: (.int 0 0) :: (.ref 338) :: (.int 302 0) :: (.int 0 0) :: (.ref 345) :: (.int 306 0) :: (.int 0 0) :: (.ref 352) :: (.int 314 0) :: (.int 0 0) :: (.ref 359) :: (.int 316 0) :: (.int 0 0) :: (.ref 366) :: (.int 320 0) :: (.int 0 0) :: (.ref 373) :: (.int 324 0) :: (.int 0 0) :: (.ref 380) :: (.int 330 0) :: (.int 0 0) :: (.ref 387) :: (.int 336 0) :: (.int 0 0) :: (.ref 394) :: (.int 340 0) :: (.int 0 0) :: (.ref 401) :: (.int 346 0) :: (.int 0 0) :: (.ref 408) :: (.int 361 0) :: (.int 0 0) :: (.ref 415) :: (.int 367 0) :: (.int 0 0) :: (.ref 422) :: (.int 375 0) :: (.int 0 0) :: (.ref 429) :: (.int 392 0) :: (.int 0 0) :: (.ref 436) :: (.int 410 0) :: (.int 0 0) :: (.ref 443) :: (.int 450 0) :: (.int 0 0) :: (.ref 541) :: (.int 478 0) :: (.int 0 0) :: (.ref 590) :: (.int 510 0) :: (.int 0 0) :: (.ref 630) :: (.int 512 0) :: (.int 0 0) :: (.ref 637) :: (.int 522 0) :: (.int 0 0) :: (.ref 644) :: (.int 529 0) :: (.int 0 0) :: (.ref 651) :: (.int 536 0) :: (.int 0 0) :: (.ref 658) :: []))), .mk []⟩
noncomputable def o433 (P : Params) : Obj := ⟨(.type "dict"), none, (.dict (.mk [ke P "__module__" 1278 (.str "framerune.kindrel" 1269), ke P "__qualname__" 1280 (.str "BareHost" 1279), ke P "__firstlineno__" 1282 (.int 536 1281), ke P "__init__" 1290 (.ref 666), ke P "base" 1298 (.ref 673), ke P "ifaces_at" 1306 (.ref 680), ke P "sort" 1314 (.ref 687), ke P "variance" 1322 (.ref 694), ke P "under" 1330 (.ref 701), ke P "has_new" 1338 (.ref 708), ke P "__static_attributes__" 1348 (.ref 709)]) 11), .mk []⟩
noncomputable def o434 : Obj := ⟨.none, none, (.fields (.mk [(.int 538 0), (.int 4 0), (.ref 665), (.int 549 0), (.int 4 0), (.ref 672), (.int 552 0), (.int 4 0), (.ref 679), (.int 555 0), (.int 4 0), (.ref 686), (.int 558 0), (.int 4 0), (.ref 693), (.int 561 0), (.int 4 0), (.ref 700), (.int 564 0), (.int 4 0), (.ref 707)])), .mk []⟩
noncomputable def o435 : Obj := ⟨(.type "code"), none, (.fields (.mk [(.str "BareHost" 1273), (.str "BareHost" 1274), (.str "/claim/cut.py" 1275), (.int 536 0), (.int 0 0), (.int 0 0), (.int 0 0), (.int 0 0), (.ref 656), (.bool false), (.int 181 0), (.ref 657), .none, .none, .none, .none, (.int 1276 0), (.int 536 0), (.str "/claim/cut.py" 1277)])), .mk []⟩
noncomputable def o436 : Obj := ⟨(.type "frame"), none, .plain, .mk [(some (.ref 658)), (some (.ref 3)), (some (.ref 655)), none, (some (.str "framerune.kindrel" 1269)), none, (some (.ref 0))]⟩
noncomputable def o437 : Obj := ⟨(.type "tuple"), none, (.seq (.mk [(.str "self" 1286), (.str "kt" 1287)]) 0), .mk []⟩
noncomputable def o438 : Obj := ⟨.none, none, (fd (mS 115 0) "BareHost.__init__" 0 .none .none .none .none none .none .none), .mk []⟩
noncomputable def o439 : Obj := ⟨(.type "code"), none, (.fields (.mk [(.str "__init__" 1283), (.str "BareHost.__init__" 1284), (.str "/claim/cut.py" 1285), (.int 538 0), (.int 2 0), (.int 0 0), (.int 0 0), (.int 3 0), (.ref 660), (.bool true), (.int 181 0), (.ref 661), .none, (.ref 662), (.ref 663), (.ref 664), (.int 1288 0), (.int 538 0), (.str "/claim/cut.py" 1289)])), .mk []⟩
noncomputable def o440 : Obj := ⟨(.type "function"), none, (fd (mS 115 0) "BareHost.__init__" 3 .none .none .none (.str "framerune.kindrel" 1269) none (.ref 665) .none), .mk []⟩
noncomputable def o441 : Obj := ⟨(.type "tuple"), none, (.seq (.mk [(.str "self" 1294), (.str "k" 1295)]) 0), .mk []⟩
noncomputable def o442 : Obj := ⟨.none, none, (fd (mS 115 1) "BareHost.base" 0 .none .none .none .none none .none .none), .mk []⟩
noncomputable def o443 : Obj := ⟨(.type "code"), none, (.fields (.mk [(.str "base" 1291), (.str "BareHost.base" 1292), (.str "/claim/cut.py" 1293), (.int 549 0), (.int 2 0), (.int 0 0), (.int 0 0), (.int 3 0), (.ref 667), (.bool true), (.int 181 0), (.ref 668), .none, (.ref 669), (.ref 670), (.ref 671), (.int 1296 0), (.int 549 0), (.str "/claim/cut.py" 1297)])), .mk []⟩
noncomputable def o444 : Obj := ⟨(.type "function"), none, (fd (mS 115 1) "BareHost.base" 3 .none .none .none (.str "framerune.kindrel" 1269) none (.ref 672) .none), .mk []⟩
noncomputable def o445 : Obj := ⟨(.type "tuple"), none, (.seq (.mk [(.str "self" 1302), (.str "k" 1303)]) 0), .mk []⟩
noncomputable def o446 : Obj := ⟨.none, none, (fd (mS 115 2) "BareHost.ifaces_at" 0 .none .none .none .none none .none .none), .mk []⟩
noncomputable def o447 : Obj := ⟨(.type "code"), none, (.fields (.mk [(.str "ifaces_at" 1299), (.str "BareHost.ifaces_at" 1300), (.str "/claim/cut.py" 1301), (.int 552 0), (.int 2 0), (.int 0 0), (.int 0 0), (.int 3 0), (.ref 674), (.bool true), (.int 181 0), (.ref 675), .none, (.ref 676), (.ref 677), (.ref 678), (.int 1304 0), (.int 552 0), (.str "/claim/cut.py" 1305)])), .mk []⟩
noncomputable def o448 : Obj := ⟨(.type "function"), none, (fd (mS 115 2) "BareHost.ifaces_at" 3 .none .none .none (.str "framerune.kindrel" 1269) none (.ref 679) .none), .mk []⟩
noncomputable def o449 : Obj := ⟨(.type "tuple"), none, (.seq (.mk [(.str "self" 1310), (.str "k" 1311)]) 0), .mk []⟩
noncomputable def o450 : Obj := ⟨.none, none, (fd (mS 115 3) "BareHost.sort" 0 .none .none .none .none none .none .none), .mk []⟩
noncomputable def o451 : Obj := ⟨(.type "code"), none, (.fields (.mk [(.str "sort" 1307), (.str "BareHost.sort" 1308), (.str "/claim/cut.py" 1309), (.int 555 0), (.int 2 0), (.int 0 0), (.int 0 0), (.int 3 0), (.ref 681), (.bool true), (.int 181 0), (.ref 682), .none, (.ref 683), (.ref 684), (.ref 685), (.int 1312 0), (.int 555 0), (.str "/claim/cut.py" 1313)])), .mk []⟩
noncomputable def o452 : Obj := ⟨(.type "function"), none, (fd (mS 115 3) "BareHost.sort" 3 .none .none .none (.str "framerune.kindrel" 1269) none (.ref 686) .none), .mk []⟩
noncomputable def o453 : Obj := ⟨(.type "tuple"), none, (.seq (.mk [(.str "self" 1318), (.str "tid" 1319)]) 0), .mk []⟩
noncomputable def o454 : Obj := ⟨.none, none, (fd (mS 115 4) "BareHost.variance" 0 .none .none .none .none none .none .none), .mk []⟩
noncomputable def o455 : Obj := ⟨(.type "code"), none, (.fields (.mk [(.str "variance" 1315), (.str "BareHost.variance" 1316), (.str "/claim/cut.py" 1317), (.int 558 0), (.int 2 0), (.int 0 0), (.int 0 0), (.int 3 0), (.ref 688), (.bool true), (.int 181 0), (.ref 689), .none, (.ref 690), (.ref 691), (.ref 692), (.int 1320 0), (.int 558 0), (.str "/claim/cut.py" 1321)])), .mk []⟩
noncomputable def o456 : Obj := ⟨(.type "function"), none, (fd (mS 115 4) "BareHost.variance" 3 .none .none .none (.str "framerune.kindrel" 1269) none (.ref 693) .none), .mk []⟩
noncomputable def o457 : Obj := ⟨(.type "tuple"), none, (.seq (.mk [(.str "self" 1326), (.str "k" 1327)]) 0), .mk []⟩
noncomputable def o458 : Obj := ⟨.none, none, (fd (mS 115 5) "BareHost.under" 0 .none .none .none .none none .none .none), .mk []⟩
noncomputable def o459 : Obj := ⟨(.type "code"), none, (.fields (.mk [(.str "under" 1323), (.str "BareHost.under" 1324), (.str "/claim/cut.py" 1325), (.int 561 0), (.int 2 0), (.int 0 0), (.int 0 0), (.int 3 0), (.ref 695), (.bool true), (.int 181 0), (.ref 696), .none, (.ref 697), (.ref 698), (.ref 699), (.int 1328 0), (.int 561 0), (.str "/claim/cut.py" 1329)])), .mk []⟩
noncomputable def o460 : Obj := ⟨(.type "function"), none, (fd (mS 115 5) "BareHost.under" 3 .none .none .none (.str "framerune.kindrel" 1269) none (.ref 700) .none), .mk []⟩
noncomputable def o461 : Obj := ⟨(.type "tuple"), none, (.seq (.mk [(.str "self" 1334), (.str "k" 1335)]) 0), .mk []⟩
noncomputable def o462 : Obj := ⟨.none, none, (fd (mS 115 6) "BareHost.has_new" 0 .none .none .none .none none .none .none), .mk []⟩
noncomputable def o463 : Obj := ⟨(.type "code"), none, (.fields (.mk [(.str "has_new" 1331), (.str "BareHost.has_new" 1332), (.str "/claim/cut.py" 1333), (.int 564 0), (.int 2 0), (.int 0 0), (.int 0 0), (.int 3 0), (.ref 702), (.bool true), (.int 181 0), (.ref 703), .none, (.ref 704), (.ref 705), (.ref 706), (.int 1336 0), (.int 564 0), (.str "/claim/cut.py" 1337)])), .mk []⟩
noncomputable def o464 : Obj := ⟨(.type "function"), none, (fd (mS 115 6) "BareHost.has_new" 3 .none .none .none (.str "framerune.kindrel" 1269) none (.ref 707) .none), .mk []⟩
noncomputable def o465 : Obj := ⟨(.type "tuple"), none, (.seq (.mk [(.str "bases" 1339), (.str "bounds" 1340), (.str "gflags" 1341), (.str "ifaces" 1342), (.str "kt" 1343), (.str "news" 1344), (.str "sorts" 1345), (.str "unders" 1346), (.str "variances" 1347)]) 0), .mk []⟩
noncomputable def o466 (P : Params) : Obj := ⟨(.type "dict"), none, (.dict (.mk [ke P "__module__" 1278 (.str "framerune.kindrel" 1269), ke P "__firstlineno__" 1282 (.int 536 1281), ke P "__init__" 1290 (.ref 666), ke P "base" 1298 (.ref 673), ke P "ifaces_at" 1306 (.ref 680), ke P "sort" 1314 (.ref 687), ke P "variance" 1322 (.ref 694), ke P "under" 1330 (.ref 701), ke P "has_new" 1338 (.ref 708), ke P "__static_attributes__" 1348 (.ref 709), ke P "__dict__" 1350 (.ref 712), ke P "__weakref__" 1352 (.ref 713), ke P "__doc__" 1353 .none]) 4), .mk []⟩
noncomputable def o467 : Obj := ⟨(.type "type"), none, (.cls ⟨"BareHost", [(.type "object")], [(.ref 711), (.type "object")], 710, "BareHost", true, [], [], false, none, false⟩), .mk [none, none, (some (.str "BareHost" 1271)), (some (.str "BareHost" 1279)), (some (.builtin "object.__new__")), (some (.bool true))]⟩
noncomputable def o468 : Obj := ⟨(.type "getset_descriptor"), none, (.fields (.mk [(.str "__dict__" 1349), (.ref 711), (.builtin "function.__dict__"), (.builtin "function.__dict__#set")])), .mk []⟩
noncomputable def o469 : Obj := ⟨(.type "getset_descriptor"), none, (.fields (.mk [(.str "__weakref__" 1351), (.ref 711), (.builtin "ExceptionGroup.__weakref__"), .none])), .mk []⟩
noncomputable def o470 : Obj := ⟨(.type "super"), none, (.fields (.mk [(.ref 711), (.ref 711), (.ref 711)])), .mk []⟩
noncomputable def o471 : Obj := ⟨(.type "builtin_function_or_method"), none, (.fields (.mk [(.builtin "object.__init_subclass__"), (.ref 711)])), .mk []⟩
noncomputable def t17 (P : Params) : BT := (.node (boot_o_0 P) (.node (boot_o_1 P) (.node (o431 P) (.node (boot_o_7 P) (.node o0 (.node o17 (.node o50 (.node o0 (.node o179 (L o0) .nil) (.node o1 (L o0) .nil)) (.node o133 (.node o0 (L o374) .nil) (.node o296 (L o1) .nil))) (.node o72 (.node o0 (.node o0 (L o0) .nil) (.node o274 (L o442) .nil)) (.node o154 (.node o237 (L o1) .nil) (L o315)))) (.node o32 (.node o62 (.node o104 (.node o1 (L o342) .nil) (.node o0 (L (o433 P)) .nil)) (.node o143 (.node o226 (L o391) .nil) (L o305))) (.node o1 (.node o122 (.node o208 (L o365) .nil) (.node o0 (L o452) .nil)) (.node o166 (.node o247 (L o411) .nil) (L o1))))) (.node o12 (.node o24 (.node o0 (.node o99 (.node o0 (L o337) .nil) (.node o260 (L o1) .nil)) (.node o138 (.node o1 (L o382) .nil) (.node o0 (L o467) .nil))) (.node o0 (.node o1 (.node o203 (L o1) .nil) (.node o279 (L o447) .nil)) (.node o161 (.node o242 (L o404) .nil) (L o0)))) (.node o41 (.node o67 (.node o109 (.node o194 (L o350) .nil) (.node o269 (L o0) .nil)) (.node o0 (.node o0 (L o0) .nil) (L o310))) (.node o88 (.node o0 (.node o213 (L o0) .nil) (.node o12 (L o0) .nil)) (.node o174 (.node o0 (L o416) .nil) (L o328)))))) (.node o0 (.node o8 (.node o20 (.node o54 (.node o0 (.node o0 (L o0) .nil) (.node o258 (L o424) .nil)) (.node o1 (.node o219 (L (o378 P)) .nil) (.node o299 (L o463) .nil))) (.node o76 (.node o115 (.node o0 (L o358) .nil) (.node o276 (L o1) .nil)) (.node o0 (.node o1 (L o402) .nil) (L o0)))) (.node o35 (.node o1 (.node o106 (.node o192 (L o346) .nil) (.node o0 (L o436) .nil)) (.node o0 (.node o229 (L o0) .nil) (L o1))) (.node o86 (.node o125 (.node o210 (L o368) .nil) (.node o287 (L o0) .nil)) (.node o170 (.node o0 (L o413) .nil) (L o326))))) (.node o15 (.node o12 (.node o0 (.node o1 (.node o187 (L o1) .nil) (.node o263 (L o429) .nil)) (.node o140 (.node o224 (L (o388 P)) .nil) (.node o0 (L o471) .nil))) (.node o81 (.node o120 (.node o1 (L o363) .nil) (.node o0 (L o449) .nil)) (.node o1 (.node o244 (L o407) .nil) (L o321)))) (.node o46 (.node o69 (.node o0 (.node o197 (L o0) .nil) (.node o1 (L o0) .nil)) (.node o150 (.node o0 (L o397) .nil) (L o312))) (.node o91 (.node o0 (.node o0 (L o0) .nil) (.node o294 (L o458) .nil)) (.node o176 (.node o253 (L o0) .nil) (L o331))))))) (.node (boot_o_5 P) (.node (boot_o_9 P) (.node o7 (.node o18 (.node o52 (.node o96 (.node o1 (L o334) .nil) (.node o0 (L o423) .nil)) (.node o135 (.node o218 (L o376) .nil) (.node o297 (L o0) .nil))) (.node (o74 P) (.node o114 (.node o200 (L o357) .nil) (.node o0 (L o444) .nil)) (.node o156 (.node o239 (L o0) .nil) (L o1)))) (.node o0 (.node o64 (.node o0 (.node o0 (L o344) .nil) (.node o266 (L o434) .nil)) (.node o1 (.node o227 (L o1) .nil) (L o307))) (.node o0 (.node o123 (.node o0 (L o366) .nil) (.node o286 (L o1) .nil)) (.node o168 (.node o1 (L o0) .nil) (L o0))))) (.node o0 (.node o26 (.node o59 (.node o101 (.node o186 (L o339) .nil) (.node o261 (L o0) .nil)) (.node o0 (.node o0 (L o387) .nil) (.node o302 (L o469) .nil))) (.node o80 (.node o0 (.node o205 (L o0) .nil) (.node o1 (L o0) .nil)) (.node o163 (.node o0 (L o405) .nil) (L o320)))) (.node o44 (.node o0 (.node o1 (.node o195 (L o12) .nil) (.node o271 (L o439) .nil)) (.node o148 (.node o234 (L o396) .nil) (L o0))) (.node o89 (.node o128 (.node o1 (L o371) .nil) (.node o0 (L o457) .nil)) (.node o0 (.node o252 (L o1) .nil) (L o329)))))) (.node o2 (.node o10 (.node (o22 P) (.node o12 (.node o98 (.node o184 (L o336) .nil) (.node o0 (L o426) .nil)) (.node o0 (.node o221 (L o380) .nil) (.node o1 (L o465) .nil))) (.node o78 (.node o117 (.node o202 (L o360) .nil) (.node o277 (L o0) .nil)) (.node (o160 P) (.node o0 (L o0) .nil) (L o318)))) (.node o37 (.node o0 (.node o107 (.node o0 (L o348) .nil) (.node o268 (L o1) .nil)) (.node o146 (.node o1 (L o394) .nil) (L o0))) (.node o0 (.node o1 (.node o211 (L o1) .nil) (.node o289 (L o455) .nil)) (.node o172 (.node o250 (L o414) .nil) (L o0))))) (.node o0 (.node o0 (.node o61 (.node o0 (.node o189 (L o0) .nil) (.node o1 (L o0) .nil)) (.node o141 (.node o0 (L o389) .nil) (L o304))) (.node o83 (.node o0 (.node o0 (L o0) .nil) (.node o282 (L o450) .nil)) (.node o0 (.node o245 (L (o409 P)) .nil) (L o323)))) (.node o48 (.node o70 (.node o112 (.node o1 (L o355) .nil) (.node o0 (L o441) .nil)) (.node (o152 P) (.node o236 (L o399) .nil) (L o313))) (.node o1 (.node (o132 P) (.node o216 (L o373) .nil) (.node o0 (L o460) .nil)) (.node o177 (.node o255 (L o421) .nil) (L o1)))))))) (.node (o4 P) (.node (boot_o_4 P) (.node (boot_o_8 P) (.node o1 (.node o0 (.node o51 (.node o95 (.node o0 (L o333) .nil) (.node o256 (L o1) .nil)) (.node o134 (.node o1 (L o375) .nil) (.node o0 (L o461) .nil))) (.node o73 (.node o1 (.node o199 (L o1) .nil) (.node o275 (L o443) .nil)) (.node o155 (.node o238 (L o400) .nil) (L o0)))) (.node o33 (.node o63 (.node o105 (.node o190 (L o343) .nil) (.node o265 (L o0) .nil)) (.node o0 (.node o0 (L o0) .nil) (L o306))) (.node o84 (.node o0 (.node o209 (L o0) .nil) (.node o1 (L o0) .nil)) (.node o167 (.node o0 (L o412) .nil) (L o324))))) (.node (o13 P) (.node o25 (.node o58 (.node o100 (.node o1 (L o338) .nil) (.node o0 (L o427) .nil)) (.node o139 (.node o222 (L o383) .nil) (.node o301 (L o468) .nil))) (.node o1 (.node o118 (.node o204 (L o361) .nil) (.node o0 (L o448) .nil)) (.node o162 (.node o243 (L o0) .nil) (L o1)))) (.node o43 (.node o68 (.node o0 (.node o0 (L o0) .nil) (.node o270 (L o438) .nil)) (.node o1 (.node o233 (L o1) .nil) (L o311))) (.node o0 (.node o127 (.node o0 (L o370) .nil) (.node (o292 P) (L o1) .nil)) (.node o175 (.node o1 (L o0) .nil) (L o0)))))) (.node o432 (.node o9 (.node o21 (.node o0 (.node o1 (.node o183 (L o1) .nil) (.node o259 (L o425) .nil)) (.node o136 (.node o220 (L o386) .nil) (.node o0 (L o464) .nil))) (.node o77 (.node o116 (.node o1 (L o359) .nil) (.node o0 (L o445) .nil)) (.node o12 (.node o240 (L o403) .nil) (L o317)))) (.node o36 (.node o65 (.node o0 (.node o193 (L o347) .nil) (.node o1 (L o0) .nil)) (.node o145 (.node o0 (L o393) .nil) (L o308))) (.node o87 (.node o0 (.node o0 (L o0) .nil) (.node o288 (L o454) .nil)) (.node o171 (.node o249 (L o0) .nil) (L o327))))) (.node o16 (.node (o31 P) (.node o1 (.node o102 (.node o188 (L o340) .nil) (.node o0 (L o430) .nil)) (.node o0 (.node o225 (L o0) .nil) (L o1))) (.node o82 (.node o121 (.node o206 (L o364) .nil) (.node o281 (L o0) .nil)) (.node o164 (.node o0 (L o408) .nil) (L o322)))) (.node o47 (.node o0 (.node o111 (.node o0 (L o354) .nil) (.node o272 (L o1) .nil)) (.node o151 (.node o1 (L o398) .nil) (L o0))) (.node o0 (.node o12 (.node o215 (L o1) .nil) (.node o295 (L o459) .nil)) (.node o0 (.node o254 (L o420) .nil) (L o0))))))) (.node (boot_o_6 P) (.node (boot_o_10 P) (.node o0 (.node o19 (.node o53 (.node o97 (.node o182 (L o335) .nil) (.node o257 (L o0) .nil)) (.node o0 (.node o0 (L o377) .nil) (.node o298 (L o462) .nil))) (.node o75 (.node o0 (.node o201 (L o0) .nil) (.node o1 (L o0) .nil)) (.node o157 (.node o0 (L o401) .nil) (L o316)))) (.node (o34 P) (.node o0 (.node o1 (.node o191 (L (o345 P)) .nil) (.node o267 (L o435) .nil)) (.node o144 (.node o228 (L o392) .nil) (L o0))) (.node o85 (.node o124 (.node o1 (L o367) .nil) (.node o0 (L o453) .nil)) (.node (o169 P) (.node o248 (L o1) .nil) (L o325))))) (.node o14 (.node o30 (.node o60 (.node o0 (.node o0 (L o0) .nil) (.node o262 (L o428) .nil)) (.node o1 (.node o223 (L o12) .nil) (.node o303 (L o470) .nil))) (.node o0 (.node o119 (.node o0 (L o362) .nil) (.node o280 (L o1) .nil)) (.node o0 (.node o1 (L o406) .nil) (L o0)))) (.node o45 (.node o1 (.node o110 (.node o196 (L (o353 P)) .nil) (.node o0 (L o440) .nil)) (.node o149 (.node o235 (L o0) .nil) (L o1))) (.node o90 (.node o129 (.node o214 (L o372) .nil) (.node o293 (L o0) .nil)) (.node o1 (.node o0 (L o419) .nil) (L o330)))))) (.node o3 (.node o11 (.node o29 (.node (o57 P) (.node o0 (.node o185 (L o0) .nil) (.node o1 (L o0) .nil)) (.node o137 (.node o0 (L o381) .nil) (.node o300 (L (o466 P)) .nil))) (.node o79 (.node o0 (.node o0 (L o0) .nil) (.node o278 (L o446) .nil)) (.node o0 (.node o241 (L o1) .nil) (L o319)))) (.node o39 (.node o66 (.node o108 (.node o1 (L o349) .nil) (.node o0 (L o437) .nil)) (.node o147 (.node o232 (L o395) .nil) (L o309))) (.node o1 (.node o126 (.node o212 (L o369) .nil) (.node o0 (L o456) .nil)) (.node o173 (.node o251 (L o415) .nil) (L o1))))) (.node o1 (.node o1 (.node o0 (.node o103 (.node o0 (L o341) .nil) (.node o264 (L o12) .nil)) (.node o142 (.node o1 (L o390) .nil) (L o0))) (.node o0 (.node o1 (.node o207 (L o1) .nil) (.node o283 (L o451) .nil)) (.node o165 (.node o246 (L o410) .nil) (L o0)))) (.node o49 (.node o71 (.node o113 (.node o198 (L o356) .nil) (.node o273 (L o0) .nil)) (.node o153 (.node o0 (L o0) .nil) (L o314))) (.node o94 (.node o0 (.node o217 (L o0) .nil) (.node o1 (L o0) .nil)) (.node o178 (.node o0 (L o422) .nil) (L o332)))))))))
theorem p17 (w : World) : Pc 115 1 423 653 1271 t16 ⟨535, 0, 535, 8⟩ 716 1356 t17 ⟨536, 0, 565, 17⟩ w := by kernel_rfl
noncomputable def e122 (P : Params) : DictEntry := ke P "__name__" 165 (.str "law_sj0001_01" 1394)
noncomputable def e123 (P : Params) : DictEntry := ke P "T_NULLABLE" 1359 (.int 8 1358)
noncomputable def e124 (P : Params) : DictEntry := ke P "Store" 1393 (.ref 732)
noncomputable def e125 (P : Params) : DictEntry := ke P "_law_texts" 1400 (.ref 737)
noncomputable def e126 (P : Params) : DictEntry := ke P "_law_joined" 1412 (.ref 744)
noncomputable def e127 (P : Params) : DictEntry := ke P "_law_operand" 1423 (.ref 751)
noncomputable def e128 (P : Params) : DictEntry := ke P "_law_row" 1437 (.ref 758)
noncomputable def e129 (P : Params) : DictEntry := ke P "law" 1443 (.ref 763)
noncomputable def o472 (P : Params) : Obj := ⟨(.type "dict"), none, .dict (.mk (e122 P :: e1 P :: e2 P :: e3 P :: e4 P :: e5 P :: e6 P :: e7 P :: e8 P :: e9 P :: e10 P :: e11 P :: e12 P :: e13 P :: e14 P :: e15 P :: e16 P :: e17 P :: e18 P :: e19 P :: e20 P :: e21 P :: e22 P :: e23 P :: e24 P :: e25 P :: e26 P :: e27 P :: e28 P :: e29 P :: e30 P :: e31 P :: e32 P :: e33 P :: e34 P :: e35 P :: e36 P :: e37 P :: e38 P :: e39 P :: e40 P :: e41 P :: e42 P :: e43 P :: e44 P :: e45 P :: e46 P :: e47 P :: e48 P :: e49 P :: e51 P :: e52 P :: e53 P :: e54 P :: e55 P :: e56 P :: e57 P :: e58 P :: e59 P :: e61 P :: e62 P :: e63 P :: e64 P :: e65 P :: e66 P :: e67 P :: e68 P :: e69 P :: e71 P :: e72 P :: e73 P :: e74 P :: e75 P :: e76 P :: e77 P :: e78 P :: e79 P :: e80 P :: e81 P :: e82 P :: e83 P :: e84 P :: e85 P :: e86 P :: e87 P :: e88 P :: e89 P :: e90 P :: e91 P :: e92 P :: e93 P :: e94 P :: e95 P :: e96 P :: e97 P :: e98 P :: e99 P :: e100 P :: e101 P :: e102 P :: e103 P :: e104 P :: e105 P :: e106 P :: e107 P :: e108 P :: e109 P :: e111 P :: e112 P :: e113 P :: e114 P :: e115 P :: e117 P :: e118 P :: e119 P :: e120 P :: e121 P :: e123 P :: e124 P :: e125 P :: e126 P :: e127 P :: e128 P :: e129 P :: [])) 124, .mk []⟩
noncomputable def o473 : Obj := ⟨.none, none, (.fields (.mk ((.int 1 0) :: (.int 0 0) :: (.ref 20) :: (.int 5 0) :: (.int 0 0) :: (.ref 27) :: (.int 10 0) :: (.int 0 0) :: (.ref 47) :: (.int 47 0) :: (.int 0 0) :: (.ref 73) :: (.int 96 0) :: (.int 0 0) :: (.ref 108) :: (.int 105 0) :: (.int 0 0) :: (.ref 115) :: (.int 109 0) :: (.int 0 0) :: (.ref 122) :: (.int 115 0) :: (.int 0 0) :: (.ref 129) :: (.int 137 0) :: (.int 0 0) :: (.ref 136) :: (.int 141 0) :: (.int 0 0) :: (.ref 143) :: (.int 145 0) :: (.int 0 0) :: (.ref 150) :: (.int 150 0) :: (.int 0 0) :: (.ref 157) :: (.int 159 0) :: (.int 0 0) :: (.ref 164) :: (.int 163 0) :: (.int 0 0) :: (.ref 171) :: (.int 166 0) :: (.int 0 0) :: (.ref 178) :: (.int 170 0) :: (.int 0 0) :: (.ref 185) :: (.int 173 0) :: (.int 0 0) :: (.ref 192) :: (.int 203 0) :: (.int 0 0) :: (.ref 232) :: (.int 220 0) :: (.int 0 0) :: (.ref 254) :: (.int 223 0) :: (.int 0 0) :: (.ref 261) :: (.int 226 0) :: (.int 0 0) :: (.ref 268) :: (.int 230 0) :: (.int 0 0) :: (.ref 275) :: (.int 242 0) :: (.int 0 0) :: (.ref 282) :: (.int 248 0) :: (.int 0 0) :: (.ref 289) :: (.int 253 0) :: (.int 0 0) :: (.ref 296) :: (.int 267 0) :: (.int 0 0) :: (.ref 303) :: (.int 273 0) :: (.int 0 0) :: (.ref 310) :: (.int 287 0) :: (.int 0 0) :: (.ref 317) :: (.int 293 0) :: (.int 0 0) :: (.ref 324) :: (.int 298 0) :: (.int 0 0) :: (.ref 331) :: (.int 300 0) :: (.int 0 0) :: (.ref 338) :: (.int 302 0) :: (.int 0 0) :: (.ref 345) :: (.int 306 0) :: (.int 0 0) :: (.ref 352) :: (.int 314 0) :: (.int 0 0) :: (.ref 359) :: (.int 316 0) :: (.int 0 0) :: (.ref 366) :: (.int 320 0) :: (.int 0 0) :: (.ref 373) :: (.int 324 0) :: (.int 0 0) :: (.ref 380) :: (.int 330 0) :: (.int 0 0) :: (.ref 387) :: (.int 336 0) :: (.int 0 0) :: (.ref 394) :: (.int 340 0) :: (.int 0 0) :: (.ref 401) :: (.int 346 0) :: (.int 0 0) :: (.ref 408) :: (.int 361 0) :: (.int 0 0) :: (.ref 415) :: (.int 367 0) :: (.int 0 0) :: (.ref 422) :: (.int 375 0) :: (.int 0 0) :: (.ref 429) :: (.int 392 0) :: (.int 0 0) :: (.ref 436) :: (.int 410 0) :: (.int 0 0) :: (.ref 443) :: (.int 450 0) :: (.int 0 0) :: (.ref 541) :: (.int 478 0) :: (.int 0 0) :: (.ref 590) :: (.int 510 0) :: (.int 0 0) :: (.ref 630) :: (.int 512 0) :: (.int 0 0) :: (.ref 637) :: (.int 522 0) :: (.int 0 0) :: (.ref 644) :: (.int 529 0) :: (.int 0 0) :: (.ref 651) :: (.int 536 0) :: (.int 0 0) :: (.ref 658) :: (.int 568 0) :: (.int 0 0) :: (.ref 721) :: (.int 580 0) :: (.int 0 0) :: (.ref 743) :: (.int 596 0) :: (.int 0 0) :: (.ref 750) :: (.int 609 0) :: (.int 0 0) :: (.ref 757) :: (.int 622 0) :: (.int 0 0) :: (.ref 762) :: []))), .mk []⟩
noncomputable def o474 (P : Params) : Obj := ⟨(.type "dict"), none, (.dict (.mk [ke P "__module__" 1367 (.str "framerune.store" 1356), ke P "__qualname__" 1369 (.str "Store" 1368), ke P "__firstlineno__" 1371 (.int 568 1370), ke P "__init__" 1378 (.ref 729), ke P "__static_attributes__" 1386 (.ref 730)]) 5), .mk []⟩
noncomputable def o475 : Obj := ⟨.none, none, (.fields (.mk [(.int 570 0), (.int 4 0), (.ref 728)])), .mk []⟩
noncomputable def o476 : Obj := ⟨(.type "code"), none, (.fields (.mk [(.str "Store" 1362), (.str "Store" 1363), (.str "/claim/cut.py" 1364), (.int 568 0), (.int 0 0), (.int 0 0), (.int 0 0), (.int 0 0), (.ref 719), (.bool false), (.int 181 0), (.ref 720), .none, .none, .none, .none, (.int 1365 0), (.int 568 0), (.str "/claim/cut.py" 1366)])), .mk []⟩
noncomputable def o477 : Obj := ⟨(.type "frame"), none, .plain, .mk [(some (.ref 721)), (some (.ref 3)), (some (.ref 718)), none, (some (.str "framerune.store" 1356)), none, (some (.ref 0))]⟩
noncomputable def o478 : Obj := ⟨(.type "tuple"), none, (.seq (.mk [(.str "self" 1375)]) 0), .mk []⟩
noncomputable def o479 : Obj := ⟨.none, none, (fd (mS 118 0) "Store.__init__" 0 .none .none .none .none none .none .none), .mk []⟩
noncomputable def o480 : Obj := ⟨(.type "code"), none, (.fields (.mk [(.str "__init__" 1372), (.str "Store.__init__" 1373), (.str "/claim/cut.py" 1374), (.int 570 0), (.int 1 0), (.int 0 0), (.int 0 0), (.int 3 0), (.ref 723), (.bool true), (.int 181 0), (.ref 724), .none, (.ref 725), (.ref 726), (.ref 727), (.int 1376 0), (.int 570 0), (.str "/claim/cut.py" 1377)])), .mk []⟩
noncomputable def o481 : Obj := ⟨(.type "function"), none, (fd (mS 118 0) "Store.__init__" 3 .none .none .none (.str "framerune.store" 1356) none (.ref 728) .none), .mk []⟩
noncomputable def o482 : Obj := ⟨(.type "tuple"), none, (.seq (.mk [(.str "asms" 1379), (.str "entry" 1380), (.str "fields_" 1381), (.str "kt" 1382), (.str "methods" 1383), (.str "names" 1384), (.str "types" 1385)]) 0), .mk []⟩
noncomputable def o483 (P : Params) : Obj := ⟨(.type "dict"), none, (.dict (.mk [ke P "__module__" 1367 (.str "framerune.store" 1356), ke P "__firstlineno__" 1371 (.int 568 1370), ke P "__init__" 1378 (.ref 729), ke P "__static_attributes__" 1386 (.ref 730), ke P "__dict__" 1388 (.ref 733), ke P "__weakref__" 1390 (.ref 734), ke P "__doc__" 1391 .none]) 4), .mk []⟩
noncomputable def o484 : Obj := ⟨(.type "type"), none, (.cls ⟨"Store", [(.type "object")], [(.ref 732), (.type "object")], 731, "Store", true, [], [], false, none, false⟩), .mk [none, none, (some (.str "Store" 1360)), (some (.str "Store" 1368)), (some (.builtin "object.__new__")), (some (.bool true))]⟩
noncomputable def o485 : Obj := ⟨(.type "getset_descriptor"), none, (.fields (.mk [(.str "__dict__" 1387), (.ref 732), (.builtin "function.__dict__"), (.builtin "function.__dict__#set")])), .mk []⟩
noncomputable def o486 : Obj := ⟨(.type "getset_descriptor"), none, (.fields (.mk [(.str "__weakref__" 1389), (.ref 732), (.builtin "ExceptionGroup.__weakref__"), .none])), .mk []⟩
noncomputable def o487 : Obj := ⟨(.type "super"), none, (.fields (.mk [(.ref 732), (.ref 732), (.ref 732)])), .mk []⟩
noncomputable def o488 : Obj := ⟨(.type "builtin_function_or_method"), none, (.fields (.mk [(.builtin "object.__init_subclass__"), (.ref 732)])), .mk []⟩
noncomputable def o489 : Obj := ⟨(.type "tuple"), none, (.seq (.mk [(.str "" 1396), (.str "a" 1397), (.str "b c" 1398), (.str "d" 1399), .none]) 0), .mk []⟩
noncomputable def o490 : Obj := ⟨(.type "tuple"), none, (.seq (.mk [(.str "cx" 1404), (.str "es" 1405), (.str "out" 1406), (.str "run" 1407), (.str "first" 1408), (.str "e" 1409)]) 0), .mk []⟩
noncomputable def o491 : Obj := ⟨.none, none, (fd (tS 121) "_law_joined" 0 .none .none .none .none none .none .none), .mk []⟩
noncomputable def o492 : Obj := ⟨(.type "code"), none, (.fields (.mk [(.str "_law_joined" 1401), (.str "_law_joined" 1402), (.str "/claim/cut.py" 1403), (.int 580 0), (.int 2 0), (.int 0 0), (.int 0 0), (.int 3 0), (.ref 738), (.bool true), (.int 181 0), (.ref 739), .none, (.ref 740), (.ref 741), (.ref 742), (.int 1410 0), (.int 580 0), (.str "/claim/cut.py" 1411)])), .mk []⟩
noncomputable def o493 : Obj := ⟨(.type "function"), none, (fd (tS 121) "_law_joined" 3 .none .none .none (.str "law_sj0001_01" 1394) none (.ref 743) .none), .mk []⟩
noncomputable def o494 : Obj := ⟨(.type "tuple"), none, (.seq (.mk [(.str "pool" 1416), (.str "r" 1417), (.str "at" 1418), (.str "sort" 1419), (.str "inner" 1420)]) 0), .mk []⟩
noncomputable def o495 : Obj := ⟨.none, none, (fd (tS 122) "_law_operand" 0 .none .none .none .none none .none .none), .mk []⟩
noncomputable def o496 : Obj := ⟨(.type "code"), none, (.fields (.mk [(.str "_law_operand" 1413), (.str "_law_operand" 1414), (.str "/claim/cut.py" 1415), (.int 596 0), (.int 3 0), (.int 0 0), (.int 0 0), (.int 3 0), (.ref 745), (.bool true), (.int 181 0), (.ref 746), .none, (.ref 747), (.ref 748), (.ref 749), (.int 1421 0), (.int 596 0), (.str "/claim/cut.py" 1422)])), .mk []⟩
noncomputable def o497 : Obj := ⟨(.type "function"), none, (fd (tS 122) "_law_operand" 3 .none .none .none (.str "law_sj0001_01" 1394) none (.ref 750) .none), .mk []⟩
noncomputable def o498 : Obj := ⟨(.type "tuple"), none, (.seq (.mk [(.str "pool" 1427), (.str "n" 1428), (.str "more" 1429), (.str "one" 1430), (.str "two" 1431), (.str "es" 1432), (.str "r" 1433), (.str "i" 1434)]) 0), .mk []⟩
noncomputable def o499 : Obj := ⟨.none, none, (fd (tS 123) "_law_row" 0 .none .none .none .none none .none .none), .mk []⟩
noncomputable def o500 : Obj := ⟨(.type "code"), none, (.fields (.mk [(.str "_law_row" 1424), (.str "_law_row" 1425), (.str "/claim/cut.py" 1426), (.int 609 0), (.int 3 0), (.int 0 0), (.int 0 0), (.int 3 0), (.ref 752), (.bool true), (.int 181 0), (.ref 753), .none, (.ref 754), (.ref 755), (.ref 756), (.int 1435 0), (.int 609 0), (.str "/claim/cut.py" 1436)])), .mk []⟩
noncomputable def o501 : Obj := ⟨(.type "function"), none, (fd (tS 123) "_law_row" 3 .none .none .none (.str "law_sj0001_01" 1394) none (.ref 757) .none), .mk []⟩
noncomputable def o502 : Obj := ⟨.none, none, (fd (tS 124) "law" 0 .none .none .none .none none .none .none), .mk []⟩
noncomputable def o503 : Obj := ⟨(.type "code"), none, (.fields (.mk [(.str "law" 1438), (.str "law" 1439), (.str "/claim/cut.py" 1440), (.int 622 0), (.int 1 0), (.int 0 0), (.int 0 0), (.int 3 0), (.ref 759), (.bool true), (.int 181 0), (.ref 760), .none, .none, .none, (.ref 761), (.int 1441 0), (.int 622 0), (.str "/claim/cut.py" 1442)])), .mk []⟩
noncomputable def o504 : Obj := ⟨(.type "function"), none, (fd (tS 124) "law" 3 .none .none .none (.str "law_sj0001_01" 1394) none (.ref 762) .none), .mk []⟩
noncomputable def t18 (P : Params) : BT := (.node (boot_o_0 P) (.node (boot_o_1 P) (.node (o472 P) (.node (boot_o_7 P) (.node o0 (.node o17 (.node o50 (.node o0 (.node o179 (L o0) .nil) (.node o1 (L o0) .nil)) (.node o133 (.node o0 (L o374) .nil) (.node o296 (L o1) .nil))) (.node o72 (.node o0 (.node o0 (L o0) .nil) (.node o274 (L o442) .nil)) (.node o154 (.node o237 (L o1) .nil) (.node o315 (L o487) .nil)))) (.node o32 (.node o62 (.node o104 (.node o1 (L o342) .nil) (.node o0 (L (o433 P)) .nil)) (.node o143 (.node o226 (L o391) .nil) (.node o305 (L o0) .nil))) (.node o1 (.node o122 (.node o208 (L o365) .nil) (.node o0 (L o452) .nil)) (.node o166 (.node o247 (L o411) .nil) (.node o1 (L o497) .nil))))) (.node o12 (.node o24 (.node o0 (.node o99 (.node o0 (L o337) .nil) (.node o260 (L o1) .nil)) (.node o138 (.node o1 (L o382) .nil) (.node o0 (L o467) .nil))) (.node o0 (.node o1 (.node o203 (L o1) .nil) (.node o279 (L o447) .nil)) (.node o161 (.node o242 (L o404) .nil) (.node o0 (L o492) .nil)))) (.node o41 (.node o67 (.node o109 (.node o194 (L o350) .nil) (.node o269 (L o0) .nil)) (.node o0 (.node o0 (L o0) .nil) (.node o310 (L o479) .nil))) (.node o88 (.node o0 (.node o213 (L o0) .nil) (.node o12 (L o0) .nil)) (.node o174 (.node o0 (L o416) .nil) (.node o328 (L o0) .nil)))))) (.node o0 (.node o8 (.node o20 (.node o54 (.node o0 (.node o0 (L o0) .nil) (.node o258 (L o424) .nil)) (.node o1 (.node o219 (L (o378 P)) .nil) (.node o299 (L o463) .nil))) (.node o76 (.node o115 (.node o0 (L o358) .nil) (.node o276 (L o1) .nil)) (.node o0 (.node o1 (L o402) .nil) (.node o0 (L o1) .nil)))) (.node o35 (.node o1 (.node o106 (.node o192 (L o346) .nil) (.node o0 (L o436) .nil)) (.node o0 (.node o229 (L o0) .nil) (.node o1 (L o0) .nil))) (.node o86 (.node o125 (.node o210 (L o368) .nil) (.node o287 (L o0) .nil)) (.node o170 (.node o0 (L o413) .nil) (.node o326 (L o0) .nil))))) (.node o15 (.node o12 (.node o0 (.node o1 (.node o187 (L o1) .nil) (.node o263 (L o429) .nil)) (.node o140 (.node o224 (L (o388 P)) .nil) (.node o0 (L o471) .nil))) (.node o81 (.node o120 (.node o1 (L o363) .nil) (.node o0 (L o449) .nil)) (.node o1 (.node o244 (L o407) .nil) (.node o321 (L o494) .nil)))) (.node o46 (.node o69 (.node o0 (.node o197 (L o0) .nil) (.node o1 (L o0) .nil)) (.node o150 (.node o0 (L o397) .nil) (.node o312 (L (o483 P)) .nil))) (.node o91 (.node o0 (.node o0 (L o0) .nil) (.node o294 (L o458) .nil)) (.node o176 (.node o253 (L o0) .nil) (.node o331 (L o504) .nil))))))) (.node (boot_o_5 P) (.node (boot_o_9 P) (.node o7 (.node o18 (.node o52 (.node o96 (.node o1 (L o334) .nil) (.node o0 (L o423) .nil)) (.node o135 (.node o218 (L o376) .nil) (.node o297 (L o0) .nil))) (.node (o74 P) (.node o114 (.node o200 (L o357) .nil) (.node o0 (L o444) .nil)) (.node o156 (.node o239 (L o0) .nil) (.node o1 (L o489) .nil)))) (.node o0 (.node o64 (.node o0 (.node o0 (L o344) .nil) (.node o266 (L o434) .nil)) (.node o1 (.node o227 (L o1) .nil) (.node o307 (L o476) .nil))) (.node o0 (.node o123 (.node o0 (L o366) .nil) (.node o286 (L o1) .nil)) (.node o168 (.node o1 (L o0) .nil) (.node o0 (L o1) .nil))))) (.node o0 (.node o26 (.node o59 (.node o101 (.node o186 (L o339) .nil) (.node o261 (L o0) .nil)) (.node o0 (.node o0 (L o387) .nil) (.node o302 (L o469) .nil))) (.node o80 (.node o0 (.node o205 (L o0) .nil) (.node o1 (L o0) .nil)) (.node o163 (.node o0 (L o405) .nil) (.node o320 (L o0) .nil)))) (.node o44 (.node o0 (.node o1 (.node o195 (L o12) .nil) (.node o271 (L o439) .nil)) (.node o148 (.node o234 (L o396) .nil) (.node o0 (L o481) .nil))) (.node o89 (.node o128 (.node o1 (L o371) .nil) (.node o0 (L o457) .nil)) (.node o0 (.node o252 (L o1) .nil) (.node o329 (L o502) .nil)))))) (.node o2 (.node o10 (.node (o22 P) (.node o12 (.node o98 (.node o184 (L o336) .nil) (.node o0 (L o426) .nil)) (.node o0 (.node o221 (L o380) .nil) (.node o1 (L o465) .nil))) (.node o78 (.node o117 (.node o202 (L o360) .nil) (.node o277 (L o0) .nil)) (.node (o160 P) (.node o0 (L o0) .nil) (.node o318 (L o0) .nil)))) (.node o37 (.node o0 (.node o107 (.node o0 (L o348) .nil) (.node o268 (L o1) .nil)) (.node o146 (.node o1 (L o394) .nil) (.node o0 (L o478) .nil))) (.node o0 (.node o1 (.node o211 (L o1) .nil) (.node o289 (L o455) .nil)) (.node o172 (.node o250 (L o414) .nil) (.node o0 (L o500) .nil))))) (.node o0 (.node o0 (.node o61 (.node o0 (.node o189 (L o0) .nil) (.node o1 (L o0) .nil)) (.node o141 (.node o0 (L o389) .nil) (.node o304 (L o12) .nil))) (.node o83 (.node o0 (.node o0 (L o0) .nil) (.node o282 (L o450) .nil)) (.node o0 (.node o245 (L (o409 P)) .nil) (.node o323 (L o495) .nil)))) (.node o48 (.node o70 (.node o112 (.node o1 (L o355) .nil) (.node o0 (L o441) .nil)) (.node (o152 P) (.node o236 (L o399) .nil) (.node o313 (L o485) .nil))) (.node o1 (.node (o132 P) (.node o216 (L o373) .nil) (.node o0 (L o460) .nil)) (.node o177 (.node o255 (L o421) .nil) (L o1)))))))) (.node (o4 P) (.node (boot_o_4 P) (.node (boot_o_8 P) (.node o1 (.node o0 (.node o51 (.node o95 (.node o0 (L o333) .nil) (.node o256 (L o1) .nil)) (.node o134 (.node o1 (L o375) .nil) (.node o0 (L o461) .nil))) (.node o73 (.node o1 (.node o199 (L o1) .nil) (.node o275 (L o443) .nil)) (.node o155 (.node o238 (L o400) .nil) (.node o0 (L o488) .nil)))) (.node o33 (.node o63 (.node o105 (.node o190 (L o343) .nil) (.node o265 (L o0) .nil)) (.node o0 (.node o0 (L o0) .nil) (.node o306 (L o475) .nil))) (.node o84 (.node o0 (.node o209 (L o0) .nil) (.node o1 (L o0) .nil)) (.node o167 (.node o0 (L o412) .nil) (.node o324 (L o0) .nil))))) (.node (o13 P) (.node o25 (.node o58 (.node o100 (.node o1 (L o338) .nil) (.node o0 (L o427) .nil)) (.node o139 (.node o222 (L o383) .nil) (.node o301 (L o468) .nil))) (.node o1 (.node o118 (.node o204 (L o361) .nil) (.node o0 (L o448) .nil)) (.node o162 (.node o243 (L o0) .nil) (.node o1 (L o493) .nil)))) (.node o43 (.node o68 (.node o0 (.node o0 (L o0) .nil) (.node o270 (L o438) .nil)) (.node o1 (.node o233 (L o1) .nil) (.node o311 (L o480) .nil))) (.node o0 (.node o127 (.node o0 (L o370) .nil) (.node (o292 P) (L o1) .nil)) (.node o175 (.node o1 (L o0) .nil) (.node o0 (L o1) .nil)))))) (.node o473 (.node o9 (.node o21 (.node o0 (.node o1 (.node o183 (L o1) .nil) (.node o259 (L o425) .nil)) (.node o136 (.node o220 (L o386) .nil) (.node o0 (L o464) .nil))) (.node o77 (.node o116 (.node o1 (L o359) .nil) (.node o0 (L o445) .nil)) (.node o12 (.node o240 (L o403) .nil) (.node o317 (L o490) .nil)))) (.node o36 (.node o65 (.node o0 (.node o193 (L o347) .nil) (.node o1 (L o0) .nil)) (.node o145 (.node o0 (L o393) .nil) (.node o308 (L o1) .nil))) (.node o87 (.node o0 (.node o0 (L o0) .nil) (.node o288 (L o454) .nil)) (.node o171 (.node o249 (L o0) .nil) (.node o327 (L o499) .nil))))) (.node o16 (.node (o31 P) (.node o1 (.node o102 (.node o188 (L o340) .nil) (.node o0 (L o430) .nil)) (.node o0 (.node o225 (L o0) .nil) (.node o1 (L o0) .nil))) (.node o82 (.node o121 (.node o206 (L o364) .nil) (.node o281 (L o0) .nil)) (.node o164 (.node o0 (L o408) .nil) (.node o322 (L o0) .nil)))) (.node o47 (.node o0 (.node o111 (.node o0 (L o354) .nil) (.node o272 (L o1) .nil)) (.node o151 (.node o1 (L o398) .nil) (.node o0 (L o484) .nil))) (.node o0 (.node o12 (.node o215 (L o1) .nil) (.node o295 (L o459) .nil)) (.node o0 (.node o254 (L o420) .nil) (L o0))))))) (.node (boot_o_6 P) (.node (boot_o_10 P) (.node o0 (.node o19 (.node o53 (.node o97 (.node o182 (L o335) .nil) (.node o257 (L o0) .nil)) (.node o0 (.node o0 (L o377) .nil) (.node o298 (L o462) .nil))) (.node o75 (.node o0 (.node o201 (L o0) .nil) (.node o1 (L o0) .nil)) (.node o157 (.node o0 (L o401) .nil) (.node o316 (L o0) .nil)))) (.node (o34 P) (.node o0 (.node o1 (.node o191 (L (o345 P)) .nil) (.node o267 (L o435) .nil)) (.node o144 (.node o228 (L o392) .nil) (.node o0 (L o477) .nil))) (.node o85 (.node o124 (.node o1 (L o367) .nil) (.node o0 (L o453) .nil)) (.node (o169 P) (.node o248 (L o1) .nil) (.node o325 (L o498) .nil))))) (.node o14 (.node o30 (.node o60 (.node o0 (.node o0 (L o0) .nil) (.node o262 (L o428) .nil)) (.node o1 (.node o223 (L o12) .nil) (.node o303 (L o470) .nil))) (.node o0 (.node o119 (.node o0 (L o362) .nil) (.node o280 (L o1) .nil)) (.node o0 (.node o1 (L o406) .nil) (.node o0 (L o1) .nil)))) (.node o45 (.node o1 (.node o110 (.node o196 (L (o353 P)) .nil) (.node o0 (L o440) .nil)) (.node o149 (.node o235 (L o0) .nil) (.node o1 (L o482) .nil))) (.node o90 (.node o129 (.node o214 (L o372) .nil) (.node o293 (L o0) .nil)) (.node o1 (.node o0 (L o419) .nil) (.node o330 (L o503) .nil)))))) (.node o3 (.node o11 (.node o29 (.node (o57 P) (.node o0 (.node o185 (L o0) .nil) (.node o1 (L o0) .nil)) (.node o137 (.node o0 (L o381) .nil) (.node o300 (L (o466 P)) .nil))) (.node o79 (.node o0 (.node o0 (L o0) .nil) (.node o278 (L o446) .nil)) (.node o0 (.node o241 (L o1) .nil) (.node o319 (L o491) .nil)))) (.node o39 (.node o66 (.node o108 (.node o1 (L o349) .nil) (.node o0 (L o437) .nil)) (.node o147 (.node o232 (L o395) .nil) (.node o309 (L o0) .nil))) (.node o1 (.node o126 (.node o212 (L o369) .nil) (.node o0 (L o456) .nil)) (.node o173 (.node o251 (L o415) .nil) (.node o1 (L o501) .nil))))) (.node o1 (.node o1 (.node o0 (.node o103 (.node o0 (L o341) .nil) (.node o264 (L o12) .nil)) (.node o142 (.node o1 (L o390) .nil) (.node o0 (L (o474 P)) .nil))) (.node o0 (.node o1 (.node o207 (L o1) .nil) (.node o283 (L o451) .nil)) (.node o165 (.node o246 (L o410) .nil) (.node o0 (L o496) .nil)))) (.node o49 (.node o71 (.node o113 (.node o198 (L o356) .nil) (.node o273 (L o0) .nil)) (.node o153 (.node o0 (L o0) .nil) (.node o314 (L o486) .nil))) (.node o94 (.node o0 (.node o217 (L o0) .nil) (.node o1 (L o0) .nil)) (.node o178 (.node o0 (L o422) .nil) (L o332)))))))))
theorem p18 (w : World) : Pc 116 9 398 716 1356 t17 ⟨536, 0, 565, 17⟩ 764 1444 t18 ⟨622, 0, 641, 24⟩ w := by kernel_rfl
noncomputable def hF (P : Params) : Heap := ⟨Array.mk ((boot_o_0 P) :: (boot_o_1 P) :: (o4 P) :: (o472 P) :: (boot_o_4 P) :: (boot_o_5 P) :: (boot_o_6 P) :: (boot_o_7 P) :: (boot_o_8 P) :: (boot_o_9 P) :: (boot_o_10 P) :: o0 :: o473 :: o2 :: o3 :: o0 :: o1 :: o7 :: o0 :: o8 :: o9 :: o10 :: o11 :: o12 :: (o13 P) :: o0 :: o14 :: o15 :: o16 :: o0 :: o1 :: o17 :: o0 :: o18 :: o19 :: o20 :: o21 :: (o22 P) :: o29 :: o24 :: o25 :: o26 :: o30 :: o12 :: (o31 P) :: o0 :: o1 :: o32 :: o33 :: o0 :: (o34 P) :: o35 :: o36 :: o37 :: o39 :: o41 :: o43 :: o44 :: o45 :: o46 :: o47 :: o48 :: o49 :: o50 :: o51 :: o52 :: o53 :: o54 :: o0 :: o12 :: (o57 P) :: o0 :: o58 :: o59 :: o60 :: o0 :: o1 :: o61 :: o0 :: o62 :: o63 :: o64 :: o0 :: o1 :: o65 :: o0 :: o66 :: o67 :: o68 :: o0 :: o1 :: o69 :: o0 :: o70 :: o71 :: o72 :: o73 :: (o74 P) :: o75 :: o76 :: o77 :: o78 :: o79 :: o0 :: o1 :: o80 :: o0 :: o81 :: o82 :: o83 :: o0 :: o1 :: o84 :: o0 :: o85 :: o86 :: o87 :: o0 :: o1 :: o88 :: o0 :: o89 :: o90 :: o91 :: o0 :: o1 :: o94 :: o0 :: o95 :: o96 :: o97 :: o0 :: o1 :: o98 :: o0 :: o99 :: o100 :: o101 :: o0 :: o1 :: o102 :: o0 :: o103 :: o104 :: o105 :: o0 :: o1 :: o106 :: o0 :: o107 :: o108 :: o109 :: o0 :: o1 :: o110 :: o0 :: o111 :: o112 :: o113 :: o0 :: o1 :: o114 :: o0 :: o115 :: o116 :: o117 :: o0 :: o1 :: o118 :: o0 :: o119 :: o120 :: o121 :: o0 :: o1 :: o122 :: o0 :: o123 :: o124 :: o125 :: o0 :: o1 :: o126 :: o0 :: o127 :: o128 :: o129 :: o0 :: o12 :: (o132 P) :: o0 :: o133 :: o134 :: o135 :: o0 :: o1 :: o136 :: o0 :: o137 :: o138 :: o139 :: o0 :: o1 :: o140 :: o0 :: o141 :: o142 :: o143 :: o0 :: o1 :: o144 :: o0 :: o145 :: o146 :: o147 :: o0 :: o1 :: o148 :: o149 :: o150 :: o151 :: (o152 P) :: o153 :: o154 :: o155 :: o156 :: o157 :: o0 :: o12 :: (o160 P) :: o0 :: o161 :: o162 :: o163 :: o0 :: o1 :: o164 :: o0 :: o165 :: o166 :: o167 :: o168 :: (o169 P) :: o170 :: o171 :: o172 :: o173 :: o174 :: o175 :: o0 :: o1 :: o176 :: o0 :: o177 :: o178 :: o179 :: o0 :: o1 :: o182 :: o0 :: o183 :: o184 :: o185 :: o0 :: o1 :: o186 :: o0 :: o187 :: o188 :: o189 :: o0 :: o1 :: o190 :: o0 :: o191 :: o192 :: o193 :: o0 :: o1 :: o194 :: o0 :: o195 :: o196 :: o197 :: o0 :: o1 :: o198 :: o0 :: o199 :: o200 :: o201 :: o0 :: o1 :: o202 :: o0 :: o203 :: o204 :: o205 :: o0 :: o1 :: o206 :: o0 :: o207 :: o208 :: o209 :: o0 :: o1 :: o210 :: o0 :: o211 :: o212 :: o213 :: o0 :: o1 :: o214 :: o0 :: o215 :: o216 :: o217 :: o0 :: o1 :: o218 :: o0 :: o219 :: o220 :: o221 :: o0 :: o1 :: o222 :: o0 :: o223 :: o224 :: o225 :: o0 :: o1 :: o226 :: o0 :: o227 :: o228 :: o229 :: o0 :: o1 :: o232 :: o0 :: o233 :: o234 :: o235 :: o0 :: o1 :: o236 :: o0 :: o237 :: o238 :: o239 :: o0 :: o1 :: o240 :: o0 :: o241 :: o242 :: o243 :: o0 :: o1 :: o244 :: o0 :: o245 :: o246 :: o247 :: o0 :: o1 :: o248 :: o0 :: o249 :: o250 :: o251 :: o0 :: o1 :: o252 :: o0 :: o253 :: o254 :: o255 :: o0 :: o1 :: o256 :: o0 :: o257 :: o258 :: o259 :: o0 :: o1 :: o260 :: o0 :: o261 :: o262 :: o263 :: o0 :: o1 :: o264 :: o0 :: o265 :: o266 :: o267 :: o0 :: o1 :: o268 :: o0 :: o269 :: o270 :: o271 :: o0 :: o1 :: o272 :: o0 :: o273 :: o274 :: o275 :: o0 :: o1 :: o276 :: o0 :: o277 :: o278 :: o279 :: o0 :: o1 :: o280 :: o0 :: o281 :: o282 :: o283 :: o0 :: o1 :: o286 :: o0 :: o287 :: o288 :: o289 :: o0 :: o12 :: (o292 P) :: o0 :: o293 :: o294 :: o295 :: o0 :: o1 :: o296 :: o0 :: o297 :: o298 :: o299 :: o0 :: o1 :: o300 :: o0 :: o301 :: o302 :: o303 :: o0 :: o1 :: o304 :: o0 :: o305 :: o306 :: o307 :: o0 :: o1 :: o308 :: o0 :: o309 :: o310 :: o311 :: o0 :: o1 :: o312 :: o0 :: o313 :: o314 :: o315 :: o0 :: o1 :: o316 :: o0 :: o317 :: o318 :: o319 :: o0 :: o1 :: o320 :: o0 :: o321 :: o322 :: o323 :: o0 :: o1 :: o324 :: o0 :: o325 :: o326 :: o327 :: o0 :: o1 :: o328 :: o0 :: o329 :: o330 :: o331 :: o0 :: o1 :: o332 :: o0 :: o333 :: o334 :: o335 :: o0 :: o1 :: o336 :: o0 :: o337 :: o338 :: o339 :: o0 :: o1 :: o340 :: o0 :: o341 :: o342 :: o343 :: o344 :: (o345 P) :: o346 :: o347 :: o348 :: o349 :: o350 :: o0 :: o12 :: (o353 P) :: o0 :: o354 :: o355 :: o356 :: o0 :: o1 :: o357 :: o0 :: o358 :: o359 :: o360 :: o0 :: o1 :: o361 :: o0 :: o362 :: o363 :: o364 :: o0 :: o1 :: o365 :: o0 :: o366 :: o367 :: o368 :: o0 :: o1 :: o369 :: o0 :: o370 :: o371 :: o372 :: o0 :: o1 :: o373 :: o0 :: o374 :: o375 :: o376 :: o377 :: (o378 P) :: o386 :: o380 :: o381 :: o382 :: o383 :: o387 :: o12 :: (o388 P) :: o0 :: o389 :: o390 :: o391 :: o0 :: o1 :: o392 :: o0 :: o393 :: o394 :: o395 :: o0 :: o1 :: o396 :: o0 :: o397 :: o398 :: o399 :: o0 :: o1 :: o400 :: o0 :: o401 :: o402 :: o403 :: o0 :: o1 :: o404 :: o0 :: o405 :: o406 :: o407 :: o408 :: (o409 P) :: o410 :: o411 :: o412 :: o0 :: o1 :: o413 :: o0 :: o414 :: o415 :: o416 :: o0 :: o1 :: o419 :: o0 :: o420 :: o421 :: o422 :: o0 :: o1 :: o423 :: o0 :: o424 :: o425 :: o426 :: o0 :: o1 :: o427 :: o0 :: o428 :: o429 :: o430 :: o0 :: o12 :: (o433 P) :: o0 :: o434 :: o435 :: o436 :: o0 :: o1 :: o437 :: o0 :: o438 :: o439 :: o440 :: o0 :: o1 :: o441 :: o0 :: o442 :: o443 :: o444 :: o0 :: o1 :: o445 :: o0 :: o446 :: o447 :: o448 :: o0 :: o1 :: o449 :: o0 :: o450 :: o451 :: o452 :: o0 :: o1 :: o453 :: o0 :: o454 :: o455 :: o456 :: o0 :: o1 :: o457 :: o0 :: o458 :: o459 :: o460 :: o0 :: o1 :: o461 :: o0 :: o462 :: o463 :: o464 :: o465 :: (o466 P) :: o467 :: o468 :: o469 :: o470 :: o471 :: o0 :: o12 :: (o474 P) :: o0 :: o475 :: o476 :: o477 :: o0 :: o1 :: o478 :: o0 :: o479 :: o480 :: o481 :: o482 :: (o483 P) :: o484 :: o485 :: o486 :: o487 :: o488 :: o489 :: o0 :: o1 :: o490 :: o0 :: o491 :: o492 :: o493 :: o0 :: o1 :: o494 :: o0 :: o495 :: o496 :: o497 :: o0 :: o1 :: o498 :: o0 :: o499 :: o500 :: o501 :: o0 :: o1 :: o502 :: o503 :: o504 :: []), {}⟩
theorem fin (w : World) : (fun os => TR TT pw w 11 ann 2 (sT 764 1444 t18 w os).abs ⟨doneF .next, cB, ⟨622, 0, 641, 24⟩, fB⟩) = fun os => some ⟨hF w.params, Array.mk [], {}, 1444, os⟩ := by kernel_rfl
theorem finO (w : World) (os : OsState) : topRun treeTable pw w 11 ann 2 (sT 764 1444 t18 w os).abs ⟨doneF .next, cB, ⟨622, 0, 641, 24⟩, fB⟩ = some ⟨hF w.params, Array.mk [], {}, 1444, os⟩ := by rw [tRun, tTab]; exact congrFun (fin w) os
theorem cut : behindTheImports pw = cutB 0 3 ++ (cutB 3 21 ++ (cutB 24 12 ++ (cutB 36 2 ++ (cutB 38 1 ++ (cutB 39 4 ++ (cutB 43 10 ++ (cutB 53 10 ++ (cutB 63 15 ++ (cutB 78 12 ++ (cutB 90 13 ++ (cutB 103 2 ++ (cutB 105 1 ++ (cutB 106 1 ++ (cutB 107 2 ++ (cutB 109 6 ++ (cutB 115 1 ++ (cutB 116 9 ++ ([])))))))))))))))))) := by kernel_rfl
theorem run (w : World) (os : OsState) : topRun treeTable pw w 11 ann (12 + (1 + (269 + (394 + (306 + (216 + (223 + (387 + (284 + (397 + (388 + (378 + (386 + (40 + (597 + (368 + (398 + (127 + (423 + (398 + (2))))))))))))))))))))) ⟨boot_heap w.params, Array.mk [], boot_drawn, boot_toks, os⟩ (topStub pw) = some ⟨hF w.params, Array.mk [], {}, 1444, os⟩ :=
  go_top (preO w os) (piece_block (blkO w os) ((congrArg (fun l => topRun treeTable pw w 11 ann _ (sT 15 187 t0 w os).abs (restOf l eB cB ⟨0, 0, 0, 0⟩ fB)) cut).trans (piece_app (at_ p1 w os) (piece_app (at_ p2 w os) (piece_app (at_ p3 w os) (piece_app (at_ p4 w os) (piece_app (at_ p5 w os) (piece_app (at_ p6 w os) (piece_app (at_ p7 w os) (piece_app (at_ p8 w os) (piece_app (at_ p9 w os) (piece_app (at_ p10 w os) (piece_app (at_ p11 w os) (piece_app (at_ p12 w os) (piece_app (at_ p13 w os) (piece_app (at_ p14 w os) (piece_app (at_ p15 w os) (piece_app (at_ p16 w os) (piece_app (at_ p17 w os) (piece_app (at_ p18 w os) (finO w os)))))))))))))))))))))
noncomputable def K (P : Params) : Frag := ((nat_lit 2, (o4 P)) :: (nat_lit 3, (o472 P)) :: (nat_lit 20, o9) :: (nat_lit 21, o10) :: (nat_lit 34, o19) :: (nat_lit 35, o20) :: (nat_lit 37, (o22 P)) :: (nat_lit 38, o29) :: (nat_lit 50, (o34 P)) :: (nat_lit 51, o35) :: (nat_lit 54, o39) :: (nat_lit 55, o41) :: (nat_lit 56, o43) :: (nat_lit 80, o63) :: (nat_lit 81, o64) :: (nat_lit 87, o67) :: (nat_lit 88, o68) :: (nat_lit 94, o71) :: (nat_lit 95, o72) :: (nat_lit 97, (o74 P)) :: (nat_lit 98, o75) :: (nat_lit 108, o82) :: (nat_lit 109, o83) :: (nat_lit 115, o86) :: (nat_lit 116, o87) :: (nat_lit 122, o90) :: (nat_lit 123, o91) :: (nat_lit 129, o96) :: (nat_lit 130, o97) :: (nat_lit 136, o100) :: (nat_lit 137, o101) :: (nat_lit 143, o104) :: (nat_lit 144, o105) :: (nat_lit 150, o108) :: (nat_lit 151, o109) :: (nat_lit 157, o112) :: (nat_lit 158, o113) :: (nat_lit 164, o116) :: (nat_lit 165, o117) :: (nat_lit 171, o120) :: (nat_lit 172, o121) :: (nat_lit 178, o124) :: (nat_lit 179, o125) :: (nat_lit 185, o128) :: (nat_lit 186, o129) :: (nat_lit 199, o138) :: (nat_lit 200, o139) :: (nat_lit 206, o142) :: (nat_lit 207, o143) :: (nat_lit 213, o146) :: (nat_lit 214, o147) :: (nat_lit 218, o149) :: (nat_lit 219, o150) :: (nat_lit 221, (o152 P)) :: (nat_lit 222, o153) :: (nat_lit 239, o166) :: (nat_lit 240, o167) :: (nat_lit 242, (o169 P)) :: (nat_lit 243, o170) :: (nat_lit 248, o175) :: (nat_lit 254, o178) :: (nat_lit 255, o179) :: (nat_lit 261, o184) :: (nat_lit 262, o185) :: (nat_lit 268, o188) :: (nat_lit 269, o189) :: (nat_lit 275, o192) :: (nat_lit 276, o193) :: (nat_lit 282, o196) :: (nat_lit 283, o197) :: (nat_lit 289, o200) :: (nat_lit 290, o201) :: (nat_lit 296, o204) :: (nat_lit 297, o205) :: (nat_lit 303, o208) :: (nat_lit 304, o209) :: (nat_lit 310, o212) :: (nat_lit 311, o213) :: (nat_lit 317, o216) :: (nat_lit 318, o217) :: (nat_lit 324, o220) :: (nat_lit 325, o221) :: (nat_lit 331, o224) :: (nat_lit 332, o225) :: (nat_lit 338, o228) :: (nat_lit 339, o229) :: (nat_lit 345, o234) :: (nat_lit 346, o235) :: (nat_lit 352, o238) :: (nat_lit 353, o239) :: (nat_lit 359, o242) :: (nat_lit 360, o243) :: (nat_lit 366, o246) :: (nat_lit 367, o247) :: (nat_lit 373, o250) :: (nat_lit 374, o251) :: (nat_lit 380, o254) :: (nat_lit 381, o255) :: (nat_lit 387, o258) :: (nat_lit 388, o259) :: (nat_lit 394, o262) :: (nat_lit 395, o263) :: (nat_lit 401, o266) :: (nat_lit 402, o267) :: (nat_lit 408, o270) :: (nat_lit 409, o271) :: (nat_lit 415, o274) :: (nat_lit 416, o275) :: (nat_lit 422, o278) :: (nat_lit 423, o279) :: (nat_lit 429, o282) :: (nat_lit 430, o283) :: (nat_lit 436, o288) :: (nat_lit 437, o289) :: (nat_lit 450, o298) :: (nat_lit 451, o299) :: (nat_lit 457, o302) :: (nat_lit 458, o303) :: (nat_lit 464, o306) :: (nat_lit 465, o307) :: (nat_lit 471, o310) :: (nat_lit 472, o311) :: (nat_lit 478, o314) :: (nat_lit 479, o315) :: (nat_lit 485, o318) :: (nat_lit 486, o319) :: (nat_lit 492, o322) :: (nat_lit 493, o323) :: (nat_lit 499, o326) :: (nat_lit 500, o327) :: (nat_lit 506, o330) :: (nat_lit 507, o331) :: (nat_lit 513, o334) :: (nat_lit 514, o335) :: (nat_lit 520, o338) :: (nat_lit 521, o339) :: (nat_lit 527, o342) :: (nat_lit 528, o343) :: (nat_lit 530, (o345 P)) :: (nat_lit 531, o346) :: (nat_lit 548, o359) :: (nat_lit 549, o360) :: (nat_lit 555, o363) :: (nat_lit 556, o364) :: (nat_lit 562, o367) :: (nat_lit 563, o368) :: (nat_lit 569, o371) :: (nat_lit 570, o372) :: (nat_lit 576, o375) :: (nat_lit 577, o376) :: (nat_lit 579, (o378 P)) :: (nat_lit 580, o386) :: (nat_lit 597, o394) :: (nat_lit 598, o395) :: (nat_lit 604, o398) :: (nat_lit 605, o399) :: (nat_lit 611, o402) :: (nat_lit 612, o403) :: (nat_lit 618, o406) :: (nat_lit 619, o407) :: (nat_lit 621, (o409 P)) :: (nat_lit 622, o410) :: (nat_lit 630, o415) :: (nat_lit 631, o416) :: (nat_lit 637, o421) :: (nat_lit 638, o422) :: (nat_lit 644, o425) :: (nat_lit 645, o426) :: (nat_lit 651, o429) :: (nat_lit 652, o430) :: (nat_lit 665, o439) :: (nat_lit 666, o440) :: (nat_lit 672, o443) :: (nat_lit 673, o444) :: (nat_lit 679, o447) :: (nat_lit 680, o448) :: (nat_lit 686, o451) :: (nat_lit 687, o452) :: (nat_lit 693, o455) :: (nat_lit 694, o456) :: (nat_lit 700, o459) :: (nat_lit 701, o460) :: (nat_lit 707, o463) :: (nat_lit 708, o464) :: (nat_lit 710, (o466 P)) :: (nat_lit 711, o467) :: (nat_lit 728, o480) :: (nat_lit 729, o481) :: (nat_lit 731, (o483 P)) :: (nat_lit 732, o484) :: (nat_lit 737, o489) :: (nat_lit 743, o492) :: (nat_lit 744, o493) :: (nat_lit 750, o496) :: (nat_lit 751, o497) :: (nat_lit 757, o500) :: (nat_lit 758, o501) :: (nat_lit 762, o503) :: (nat_lit 763, o504) :: [])
noncomputable def Ka : List Addr := (2 :: 3 :: 20 :: 21 :: 34 :: 35 :: 37 :: 38 :: 50 :: 51 :: 54 :: 55 :: 56 :: 80 :: 81 :: 87 :: 88 :: 94 :: 95 :: 97 :: 98 :: 108 :: 109 :: 115 :: 116 :: 122 :: 123 :: 129 :: 130 :: 136 :: 137 :: 143 :: 144 :: 150 :: 151 :: 157 :: 158 :: 164 :: 165 :: 171 :: 172 :: 178 :: 179 :: 185 :: 186 :: 199 :: 200 :: 206 :: 207 :: 213 :: 214 :: 218 :: 219 :: 221 :: 222 :: 239 :: 240 :: 242 :: 243 :: 248 :: 254 :: 255 :: 261 :: 262 :: 268 :: 269 :: 275 :: 276 :: 282 :: 283 :: 289 :: 290 :: 296 :: 297 :: 303 :: 304 :: 310 :: 311 :: 317 :: 318 :: 324 :: 325 :: 331 :: 332 :: 338 :: 339 :: 345 :: 346 :: 352 :: 353 :: 359 :: 360 :: 366 :: 367 :: 373 :: 374 :: 380 :: 381 :: 387 :: 388 :: 394 :: 395 :: 401 :: 402 :: 408 :: 409 :: 415 :: 416 :: 422 :: 423 :: 429 :: 430 :: 436 :: 437 :: 450 :: 451 :: 457 :: 458 :: 464 :: 465 :: 471 :: 472 :: 478 :: 479 :: 485 :: 486 :: 492 :: 493 :: 499 :: 500 :: 506 :: 507 :: 513 :: 514 :: 520 :: 521 :: 527 :: 528 :: 530 :: 531 :: 548 :: 549 :: 555 :: 556 :: 562 :: 563 :: 569 :: 570 :: 576 :: 577 :: 579 :: 580 :: 597 :: 598 :: 604 :: 605 :: 611 :: 612 :: 618 :: 619 :: 621 :: 622 :: 630 :: 631 :: 637 :: 638 :: 644 :: 645 :: 651 :: 652 :: 665 :: 666 :: 672 :: 673 :: 679 :: 680 :: 686 :: 687 :: 693 :: 694 :: 700 :: 701 :: 707 :: 708 :: 710 :: 711 :: 728 :: 729 :: 731 :: 732 :: 737 :: 743 :: 744 :: 750 :: 751 :: 757 :: 758 :: 762 :: 763 :: [])


/-! RowKey -/
/-- the keys of the table of kinds: two ints, or two ints and a tuple of ints -/
inductive Itm
  | i (n : Int)
  | t (ks : List Int)
  deriving DecidableEq
inductive RKey
  | two (a b : Int)
  | three (a b : Int) (ks : List Int)
  deriving DecidableEq
def RKey.its : RKey → List Itm
  | .two a b => [.i a, .i b]
  | .three a b ks => [.i a, .i b, .t ks]
theorem RKey.its_inj {x y : RKey} (h : x.its = y.its) : x = y := by
  cases x <;> cases y <;> simp_all [RKey.its]
section
variable {prog : Program} {w : World}
def ItmIs (prog : Program) (w : World) (h : Heap) : Itm → Value → Prop
  | .i n, v => ∃ t, v = .int n t
  | .t ks, v => ∃ a, v = .ref a ∧ IsTupleKey (intKind prog w) h ks a
def Itm.hash (prog : Program) (w : World) : Itm → Int
  | .i n => (intKind prog w).hash n
  | .t ks => tupleKeyHash (intKind prog w) ks
def Itm.draws : Itm → Nat
  | .i _ => 1
  | .t ks => ks.length + 1
inductive ItmsAre (prog : Program) (w : World) (h : Heap) : List Itm → List Value → Prop
  | nil : ItmsAre prog w h [] []
  | cons {k : Itm} {v : Value} {ks : List Itm} {vs : List Value} : ItmIs prog w h k v → ItmsAre prog w h ks vs → ItmsAre prog w h (k :: ks) (v :: vs)
theorem ItmIs.inj {h : Heap} {x y : Itm} {v : Value} (hx : ItmIs prog w h x v) (hy : ItmIs prog w h y v) : x = y := by
  cases x with
  | i a =>
    obtain ⟨t, rfl⟩ := hx
    cases y with
    | i b => obtain ⟨u, e⟩ := hy; cases e; rfl
    | t ks => obtain ⟨a, e, _⟩ := hy; cases e
  | t ks =>
    obtain ⟨a, rfl, hk⟩ := hx
    cases y with
    | i b => obtain ⟨u, e⟩ := hy; cases e
    | t ks' =>
      obtain ⟨b, e, hk'⟩ := hy
      cases e
      rw [hk.inj hk']
theorem ItmsAre.inj {h : Heap} {x y : List Itm} {vs : List Value} (hx : ItmsAre prog w h x vs) (hy : ItmsAre prog w h y vs) : x = y := by
  induction hx generalizing y with
  | nil => cases hy; rfl
  | cons h1 _ ih =>
    cases hy with
    | cons h2 t2 => rw [h1.inj h2, ih t2]
theorem ItmIs.keeps {h h' : Heap} {k : Itm} {v : Value} {d : Addr} {o : Obj} {es ep} (x : ItmIs prog w h k v) (ho : h.get? d = some o) (hd : o.data = .dict es ep) (hs : Heap.SameBut d h h') : ItmIs prog w h' k v := by
  cases k with
  | i a => exact x
  | t ks => obtain ⟨a, rfl, hk⟩ := x; exact ⟨a, rfl, hk.keeps ho hd hs⟩
theorem ItmsAre.keeps {h h' : Heap} {d : Addr} {o : Obj} {es ep} (ho : h.get? d = some o) (hd : o.data = .dict es ep) (hs : Heap.SameBut d h h') {ks : List Itm} {vs : List Value} (x : ItmsAre prog w h ks vs) : ItmsAre prog w h' ks vs := by
  induction x with
  | nil => exact .nil
  | cons h1 _ ih => exact .cons (h1.keeps ho hd hs) ih
def IsRow (prog : Program) (w : World) (h : Heap) (k : RKey) (a : Addr) : Prop := ∃ o items n, h.get? a = some o ∧ o.cls = .type "tuple" ∧ o.data = .seq items n ∧ ItmsAre prog w h k.its items.toList
theorem IsRow.typeIs {s : Shared} {k : RKey} {a : Addr} (x : IsRow prog w s.heap k a) : s.TypeIs (.ref a) "tuple" := let ⟨o, _, _, ho, hc, _⟩ := x; ⟨o, ho, hc⟩
theorem IsRow.inj {h : Heap} {a : Addr} {x y : RKey} (hx : IsRow prog w h x a) (hy : IsRow prog w h y a) : x = y := by
  obtain ⟨o, items, n, ho, _, hd, hi⟩ := hx
  obtain ⟨o', items', n', ho', _, hd', hi'⟩ := hy
  obtain rfl : o = o' := Option.some.inj (ho.symm.trans ho')
  rw [hd] at hd'
  injection hd' with h1 _
  subst h1
  exact RKey.its_inj (hi.inj hi')
theorem IsRow.keeps {h h' : Heap} {k : RKey} {a d : Addr} {o : Obj} {es ep} (x : IsRow prog w h k a) (ho : h.get? d = some o) (hd : o.data = .dict es ep) (hs : Heap.SameBut d h h') : IsRow prog w h' k a := by
  obtain ⟨o', items, n, ho', hc, hd', hi⟩ := x
  have hne : a ≠ d := by
    rintro rfl
    obtain rfl : o' = o := Option.some.inj (ho'.symm.trans ho)
    rw [hd] at hd'; exact nomatch hd'
  exact ⟨o', items, n, (hs.2 a hne).trans ho', hc, hd', hi.keeps ho hd hs⟩
variable {A : Around} {E : Value → Shared → Prop} {s : Shared}
def dsum (ks : List Itm) : Nat := (ks.map Itm.draws).sum
theorem ItmIs.pyHash {k : Itm} {v : Value} {h : Heap} {Q : Int → Shared → Prop} (hu : A.units < cLine) (hh : s.heap = h) (x : ItmIs prog w h k v) (hq : Q (k.hash prog w) { s with toks := s.toks + k.draws }) : wpAny (model prog w) A (PySem.pyHash v) Q E s := by
  subst hh
  cases k with
  | i a => obtain ⟨t, rfl⟩ := x; exact wpAny_pyHash_int hq
  | t ks => obtain ⟨a, rfl, hk⟩ := x; exact wpAny_pyHash_tuple hu hk hq
def rowHash (prog : Program) (w : World) (k : RKey) : Int := reduceHash (Builtin.Tuple.tupleHashOf (k.its.map (Itm.hash prog w)))
theorem pyHash_row {k : RKey} {a : Addr} {Q : Int → Shared → Prop} (hu : A.units + 2 < cLine) (hk : IsRow prog w s.heap k a) (h : Q (rowHash prog w k) { s with toks := s.toks + (dsum k.its + 1) }) : wpAny (model prog w) A (PySem.pyHash (.ref a)) Q E s := by
  have hT := hk.typeIs
  obtain ⟨o, items, n, ho, _, hd, hi⟩ := hk
  unfold PySem.pyHash
  first | unfold pyHashByItsType | skip
  first | refine wpAny_bind (wpAny_cRoomFor_or (.inr (by omega)) ?_) | skip
  refine wpAny_bind (wpAny_specialOf hT F.slot_tuple_hash.lookup ?_)
  show wpAny _ _ (if (some (Value.builtin "tuple.__hash__") == some Value.none) = true then _ else _) Q E s
  rw [if_neg (by rw [beq_builtin_none]; exact Bool.false_ne_true)]
  refine wpAny_bind (wpAny_specialOf hT F.slot_tuple_hash.lookup ?_)
  show wpAny _ _ (callSpecialIfBoundUnlessNone? (.ref a) "__hash__" _ >>= _) Q E s
  refine wpAny_bind (wpAny_callSpecialIfBoundUnlessNone?_slot hT F.slot_tuple_hash (wpAny_call_entry F.slot_tuple_hash hT F.entry_tuple_hash ?_ (F.args_tuple_hash_1 _)))
  show wpAny _ _ (Builtin.Tuple.tupleItemsOf (.ref a) >>= _) _ _ s
  refine wpAny_bind (wpAny_tupleItemsOf ho hd ?_)
  refine wpAny_bind ?_
  rw [← Array.forIn_toList]
  generalize hks : k.its = ks at *
  refine wpAny_forIn_list _
    (fun rest (b : Array Int) s' => ∃ done left, ks = done ++ left ∧ ItmsAre prog w s.heap left rest ∧ b.toList = done.map (Itm.hash prog w) ∧ s' = { s with toks := s.toks + dsum done })
    _ ?_ ?_ _ _ ⟨[], ks, rfl, hi, rfl, rfl⟩
  · rintro x rest b s' ⟨done, left, rfl, hl, hb, rfl⟩
    cases hl with
    | @cons k _ ks' _ h1 hl' =>
      refine wpAny_bind (h1.pyHash (by show A.units + 1 < _; omega) rfl ?_)
      have e : { s with toks := s.toks + dsum done + k.draws } = { s with toks := s.toks + dsum (done ++ [k]) } := by simp [dsum, Nat.add_assoc]
      first
        | exact wpAny_pure ⟨done ++ [k], ks', by simp, hl', by simp [hb], e⟩
        | exact wpAny_bind (wpAny_pure (wpAny_pure ⟨done ++ [k], ks', by simp, hl', by simp [hb], e⟩))
  · rintro b s' ⟨done, left, rfl, hl, hb, rfl⟩
    cases hl
    rw [List.append_nil] at h hks
    show wpAny _ _ (retInt (Builtin.Tuple.tupleHashOf b.toList)) _ _ _
    rw [hb]
    refine wpAny_ret_mkInt ?_
    show wpAny _ _ (if (decide (-(2 : Int) ^ 63 ≤ Builtin.Tuple.tupleHashOf (done.map (Itm.hash prog w))) && decide (Builtin.Tuple.tupleHashOf (done.map (Itm.hash prog w)) < 2 ^ 63)) = true then _ else _) Q E _
    unfold rowHash reduceHash at h
    rw [hks] at h
    by_cases hr : (decide (-(2 : Int) ^ 63 ≤ Builtin.Tuple.tupleHashOf (done.map (Itm.hash prog w))) && decide (Builtin.Tuple.tupleHashOf (done.map (Itm.hash prog w)) < 2 ^ 63)) = true
    · rw [if_pos hr]
      rw [if_pos hr] at h
      exact wpAny_pure (by simpa [Nat.add_assoc] using h)
    · rw [if_neg hr]
      rw [if_neg hr] at h
      exact wpAny_bind (wpAny_rule (wpAny_pure (by simpa [Nat.add_assoc] using h)))
/-- compared side by side, items are of one sort -/
def Comp : List Itm → List Itm → Prop
  | .i _ :: x, .i _ :: y => Comp x y
  | .t _ :: x, .t _ :: y => Comp x y
  | [], _ => True
  | _, [] => True
  | _, _ => False
theorem comp_its (x y : RKey) : Comp x.its y.its := by cases x <;> cases y <;> exact trivial
theorem ItmIs.eqB {a b : Itm} {u v : Value} {Q : Bool → Shared → Prop} (hu : A.units < cLine) (ha : ItmIs prog w s.heap a u) (hb : ItmIs prog w s.heap b v) (hc : Comp [a] [b]) (h : Q (decide (a = b)) s) : wpAny (model prog w) A (PySem.eqBool u v) Q E s := by
  cases a with
  | i n =>
    cases b with
    | i m =>
      obtain ⟨t, rfl⟩ := ha
      obtain ⟨t', rfl⟩ := hb
      refine wpAny_eqBool_int ?_
      have e : decide (Itm.i n = Itm.i m) = (n == m) := by rw [Bool.eq_iff_iff]; simp
      rw [← e]; exact h
    | t ks => exact hc.elim
  | t ks =>
    cases b with
    | i m => exact hc.elim
    | t ks' =>
      obtain ⟨x, rfl, hx⟩ := ha
      obtain ⟨y, rfl, hy⟩ := hb
      refine wpAny_eqBool_tuple hu hx hy ?_
      have e : decide (Itm.t ks = Itm.t ks') = decide (ks = ks') := by rw [Bool.eq_iff_iff]; simp
      rw [← e]; exact h
theorem Comp.head {a b : Itm} {x y : List Itm} (h : Comp (a :: x) (b :: y)) : Comp [a] [b] := by cases a <;> cases b <;> first | exact trivial | exact h.elim
theorem Comp.tail {a b : Itm} {x y : List Itm} (h : Comp (a :: x) (b :: y)) : Comp x y := by cases a <;> cases b <;> first | exact h | exact h.elim
theorem row_eq_tree {x y : RKey} {a b : Addr} {P : Fin → Shared → Prop} (hu : A.units < cLine) (hx : IsRow prog w s.heap x a) (hy : IsRow prog w s.heap y b) (h : P (.done (.ret (.bool (decide (x = y))))) s) :
    wpAny (model prog w) A (Builtin.«tuple.__eq__» ⟨[.ref a, .ref b], []⟩) P E s := by
  have hTb := hy.typeIs
  obtain ⟨oa, xs, na, hoa, _, hda, hia⟩ := hx
  obtain ⟨ob, ys, nb, hob, _, hdb, hib⟩ := hy
  have hxy : decide (x = y) = decide (x.its = y.its) := by
    rw [Bool.eq_iff_iff]
    simp only [decide_eq_true_eq]
    exact ⟨fun e => by rw [e], RKey.its_inj⟩
  rw [hxy] at h
  have hcomp := comp_its x y
  generalize x.its = xk at *
  generalize y.its = yk at *
  show wpAny _ _ (isInstance (.ref b) (.type "tuple") >>= _) _ _ s
  refine wpAny_bind (wpAny_isInstance hTb isSubtype_tuple_tuple ?_)
  simp only [Bool.not_true, Bool.false_eq_true, if_false]
  refine wpAny_bind (wpAny_tupleItemsOf hoa hda ?_)
  refine wpAny_bind (wpAny_tupleItemsOf hob hdb ?_)
  refine wpAny_bind ?_
  refine wpAny_forIn_list _
    (fun rest r s' => r.1 = none ∧ s' = s ∧ ∃ x' y' xs' ys', rest = List.zip xs' ys' ∧ ItmsAre prog w s.heap x' xs' ∧ ItmsAre prog w s.heap y' ys' ∧ Comp x' y' ∧ decide (x' = y') = decide (xk = yk) ∧ (xs'.length == ys'.length) = (xs.size == ys.size))
    _ ?_ ?_ _ _ ⟨rfl, rfl, xk, yk, xs.toList, ys.toList, rfl, hia, hib, hcomp, rfl, by simp⟩
  · rintro ⟨u, v⟩ rest r s' ⟨hr, rfl, x', y', xs', ys', hz, hx', hy', hcp, hdec, hlen⟩
    cases hx' with
    | nil => simp at hz
    | @cons k1 u' x'' xs'' h1 hx'' =>
      cases hy' with
      | nil => simp at hz
      | @cons k2 v' y'' ys'' h2 hy'' =>
        simp only [List.zip_cons_cons, List.cons.injEq, Prod.mk.injEq] at hz
        obtain ⟨⟨rfl, rfl⟩, rfl⟩ := hz
        refine wpAny_bind (ItmIs.eqB hu h1 h2 hcp.head ?_)
        by_cases hk : k1 = k2
        · subst hk
          rw [decide_eq_true rfl]
          simp only [Bool.not_true, Bool.false_eq_true, if_false]
          refine wpAny_pure ⟨rfl, rfl, x'', y'', xs'', ys'', rfl, hx'', hy'', hcp.tail, ?_, by simpa using hlen⟩
          rw [← hdec]
          by_cases hxy : x'' = y''
          · simp [hxy]
          · simp [hxy]
        · rw [decide_eq_false hk]
          simp only [Bool.not_false, if_true]
          have hf : decide (xk = yk) = false := by rw [← hdec]; simp [hk]
          rw [hf] at h
          exact wpAny_bind (wpAny_pure (wpAny_pure (wpAny_pure h)))
  · rintro ⟨r1, r2⟩ s' ⟨hr, rfl, x', y', xs', ys', hz, hx', hy', hcp, hdec, hlen⟩
    simp only at hr
    subst hr
    refine wpAny_pure ?_
    have hfin : (xs.size == ys.size) = decide (xk = yk) := by
      rw [← hdec, ← hlen]
      cases hx' with
      | nil =>
        cases hy' with
        | nil => simp
        | cons _ _ => simp
      | cons _ _ =>
        cases hy' with
        | nil => simp
        | cons _ _ => simp at hz
    show P (.done (.ret (.bool (xs.size == ys.size)))) s'
    rw [hfin]; exact h
theorem eqBool_row {x y : RKey} {a b : Addr} {Q : Bool → Shared → Prop} (hu : A.units + 2 < cLine) (hx : IsRow prog w s.heap x a) (hy : IsRow prog w s.heap y b) (h : Q (decide (x = y)) s) : wpAny (model prog w) A (PySem.eqBool (.ref a) (.ref b)) Q E s := by
  unfold PySem.eqBool
  try with_reducible refine wpAny_holding ?_
  show wpAny _ _ (if (Value.ref a == Value.ref b) = true then _ else _) Q E s
  by_cases hab : (Value.ref a == Value.ref b) = true
  · rw [if_pos hab]
    have e : a = b := by have := eq_of_beq hab; injection this
    subst e
    obtain rfl := hx.inj hy
    exact wpAny_bind (wpAny_rule (wpAny_pure (by simpa using h)))
  · rw [if_neg hab]
    exact wpAny_bind (wpAny_richCompare_same_room (op := .Eq) hx.typeIs hy.typeIs F.slot_tuple_eq
      (wpAny_call_entry F.slot_tuple_eq hx.typeIs F.entry_tuple_eq (row_eq_tree (by show A.units + 1 < _; omega) hx hy ⟨_, rfl, (fun e => nomatch e), wpAny_truthy_bool h⟩) (F.args_tuple_eq_2 _ _)) (by omega))
theorem quiet_flat (d : Nat) {ks : List Int} {a : Addr} {Q : Bool → Shared → Prop} (hk : IsTupleKey (intKind prog w) s.heap ks a) (h : Q true s) : wpAny (model prog w) A (eqIsQuiet (d + 1) (.ref a)) Q E s := by
  have hT := hk.typeIs
  obtain ⟨o, items, n, ho, _, hd, hi⟩ := hk
  unfold eqIsQuiet
  refine wpAny_bind (wpAny_specialOf hT F.slot_tuple_eq.lookup ?_)
  show wpAny _ _ (isInstance (.ref a) (.type "tuple") >>= _) _ _ s
  refine wpAny_bind (wpAny_isInstance hT isSubtype_tuple_tuple ?_)
  simp only [Bool.not_true, Bool.false_eq_true, if_false]
  refine wpAny_bind (wpAny_seqItems ho hd ?_)
  refine wpAny_bind ?_
  show wpAny _ _ (forIn items _ _) _ _ s
  rw [← Array.forIn_toList]
  refine wpAny_forIn_list _ (fun rest r s' => r.1 = none ∧ s' = s ∧ ∀ v ∈ rest, carriedByValue v = true) _ ?_ ?_ _ _ ⟨rfl, rfl, hi.byValue⟩
  · rintro v rest r s' ⟨hr, rfl, hall⟩
    rw [eqIsQuiet_byValue _ (hall v List.mem_cons_self)]
    refine wpAny_bind (wpAny_pure ?_)
    simp only [Bool.not_true, Bool.false_eq_true, if_false]
    exact wpAny_pure ⟨rfl, rfl, fun u hu' => hall u (List.mem_cons_of_mem _ hu')⟩
  · rintro ⟨r1, r2⟩ s' ⟨hr, rfl, _⟩
    simp only at hr
    subst hr
    exact wpAny_pure h
theorem quiet_row {k : RKey} {a : Addr} {Q : Bool → Shared → Prop} (hk : IsRow prog w s.heap k a) (h : Q true s) : wpAny (model prog w) A (eqIsQuiet 8 (.ref a)) Q E s := by
  have hT := hk.typeIs
  obtain ⟨o, items, n, ho, _, hd, hi⟩ := hk
  unfold eqIsQuiet
  refine wpAny_bind (wpAny_specialOf hT F.slot_tuple_eq.lookup ?_)
  show wpAny _ _ (isInstance (.ref a) (.type "tuple") >>= _) _ _ s
  refine wpAny_bind (wpAny_isInstance hT isSubtype_tuple_tuple ?_)
  simp only [Bool.not_true, Bool.false_eq_true, if_false]
  refine wpAny_bind (wpAny_seqItems ho hd ?_)
  refine wpAny_bind ?_
  show wpAny _ _ (forIn items _ _) _ _ s
  rw [← Array.forIn_toList]
  generalize k.its = ks at hi
  refine wpAny_forIn_list _ (fun rest r s' => r.1 = none ∧ s' = s ∧ ∃ left, ItmsAre prog w s.heap left rest) _ ?_ ?_ _ _ ⟨rfl, rfl, ks, hi⟩
  · rintro v rest r s' ⟨hr, rfl, left, hl⟩
    cases hl with
    | @cons k1 _ ks' _ h1 hl' =>
      refine wpAny_bind ?_
      have fin : wpAny (model prog w) A (eqIsQuiet 7 v) (fun b s'' => b = true ∧ s'' = s') E s' := by
        cases k1 with
        | i m =>
          obtain ⟨t, rfl⟩ := h1
          rw [eqIsQuiet_byValue _ rfl]
          exact wpAny_pure ⟨rfl, rfl⟩
        | t ks2 =>
          obtain ⟨b, rfl, hb⟩ := h1
          exact quiet_flat 6 hb ⟨rfl, rfl⟩
      refine wpAny_mono fin (fun b s'' h2 => ?_) fun _ _ e => e
      obtain ⟨rfl, rfl⟩ := h2
      simp only [Bool.not_true, Bool.false_eq_true, if_false]
      exact wpAny_pure ⟨rfl, rfl, ks', hl'⟩
  · rintro ⟨r1, r2⟩ s' ⟨hr, rfl, _⟩
    simp only at hr
    subst hr
    exact wpAny_pure h
end
noncomputable def rowKind (prog : Program) (w : World) : HeapKind prog w RKey where
  is := IsRow prog w
  hash := rowHash prog w
  draws := fun k => dsum k.its + 1
  room := fun A => A.units + 2 < cLine
  inj := fun hx hy => hx.inj hy
  keeps := fun x ho hd hs => x.keeps ho hd hs
  pyHash := fun hu hk h => pyHash_row hu hk h
  eqBool := fun hu hx hy h => eqBool_row hu hx hy h
  quiet := fun hk h => quiet_row hk h

/-! RowTab -/
inductive RVals (n : Ld) : RKey → List Value → Prop
  | two {a b : Int} {t u : Tok} : RVals n (.two a b) [.int a t, .int b u]
  | three {a b : Int} {ks : List Int} {t u : Tok} {c : Addr} {vs : List Value} {m : Nat} {p : Program} {w : World} : (c, tup vs m) ∈ n → PySem.ItemsAre (intKind p w) ks vs → RVals n (.three a b ks) [.int a t, .int b u, .ref c]
def RowIn (n : Ld) (k : RKey) (a : Addr) : Prop := ∃ vs m, (a, tup vs m) ∈ n ∧ RVals n k vs
theorem RVals.mono {n n' : Ld} (h : ∀ q ∈ n, q ∈ n') {k : RKey} {vs : List Value} (r : RVals n k vs) : RVals n' k vs := by
  cases r with
  | two => exact .two
  | three hc hi => exact .three (h _ hc) hi
theorem RowIn.mono {n n' : Ld} (h : ∀ q ∈ n, q ∈ n') {k : RKey} {a : Addr} (r : RowIn n k a) : RowIn n' k a := let ⟨vs, m, h1, h2⟩ := r; ⟨vs, m, h _ h1, h2.mono h⟩
theorem ints_are {p p' : Program} {w w' : World} {ks : List Int} {vs : List Value} (h : PySem.ItemsAre (intKind p w) ks vs) : PySem.ItemsAre (intKind p' w') ks vs := by
  induction h with
  | nil => exact .nil
  | cons h1 _ ih => exact .cons h1 ih
theorem RowIn.is {p : Program} {w : World} {h₀ h : Heap} {L : Addr} {n : Ld} {k : RKey} {a : Addr} (r : RowIn n k a) (N : News h₀ L h n) : IsRow p w h k a := by
  obtain ⟨vs, m, hm, hv⟩ := r
  refine ⟨_, vs.toArray, m, N.get hm, rfl, rfl, ?_⟩
  cases hv with
  | two => exact .cons ⟨_, rfl⟩ (.cons ⟨_, rfl⟩ .nil)
  | three hc hi => exact .cons ⟨_, rfl⟩ (.cons ⟨_, rfl⟩ (.cons ⟨_, rfl, _, _, _, N.get hc, rfl, rfl, by simpa using ints_are hi⟩ .nil))
def RowOb (W : Wd) (o : Obj) (xs : List (RKey × Addr × Value)) : Prop := ∃ es ep, o.ExactDict ∧ o.data = .dict es ep ∧ es.toList = xs.map (entryOfKey (rowKind W.prog W.w))
structure RowTab (W : Wd) (n : Ld) (g : Addr) (xs : List (RKey × Addr × Value)) : Prop where
  lo : (g == sysModules) = false
  ob : ∃ o, (g, o) ∈ n ∧ RowOb W o xs
  nd : (xs.map (·.1)).Nodup
  ky : ∀ x ∈ xs, RowIn n x.1 x.2.1
theorem RowTab.mono {W : Wd} {n n' : Ld} {g : Addr} {xs : List (RKey × Addr × Value)} (h : ∀ q ∈ n, q ∈ n') (T : RowTab W n g xs) : RowTab W n' g xs :=
  ⟨T.lo, let ⟨o, h1, r⟩ := T.ob; ⟨o, h _ h1, r⟩, T.nd, fun x hx => (T.ky x hx).mono h⟩
theorem RowTab.at {W : Wd} {h₀ h : Heap} {L : Addr} {n : Ld} {g : Addr} {xs : List (RKey × Addr × Value)} (T : RowTab W n g xs) (N : News h₀ L h n) : h.DictOfH (rowKind W.prog W.w) g xs :=
  let ⟨o, h1, es, ep, hc, hd, he⟩ := T.ob
  ⟨o, es, ep, N.get h1, hc, hd, he, fun x hx => (T.ky x hx).is N, T.nd⟩
theorem RowTab.empty {W : Wd} {n : Ld} {g : Addr} {m : Nat} (hg : (g, dictOf [] m) ∈ n) (lo : (g == sysModules) = false) : RowTab W n g [] :=
  ⟨lo, ⟨_, hg, _, m, ⟨rfl, rfl, rfl⟩, rfl, rfl⟩, List.nodup_nil, fun _ h => nomatch h⟩
theorem atKey_none {xs : List (RKey × Addr × Value)} {k : RKey} (h : ∀ x ∈ xs, x.1 ≠ k) : atKey xs k = none := by
  unfold atKey
  rw [List.find?_eq_none.mpr fun x hx => by simpa using h x hx]
  rfl
section
variable {W : Wd} {F : FI} {d : Nat} {l : Bs} {n : Ld}
theorem g_rget {g : Addr} {xs : List (RKey × Addr × Value)} {pl : Sem Bool} {k : Value × List Value → Bs → Ld → Prop} (T : RowTab W n g xs) (h : k (.builtin "dict.get", [.ref g]) l n) : Rn W F d l n (fun _ => getMethod (.ref g) "get" pl) k :=
  fun _ _ _ _ _ s _ _ D kQ => getMethod_builtin (T.at D.nw).typeIs PySem.F.plainAttrs_dict PySem.F.slot_dict_get PySem.F.type_dict_get (dictOfH_noDict (T.at D.nw)) (kQ _ _ _ s.heap s.toks D h)
theorem o_rget {g a : Addr} {xs : List (RKey × Addr × Value)} {key : RKey} {v : Value} {k : Value → Bs → Ld → Prop} (T : RowTab W n g xs) (ha : RowIn n key a) (hk : ∀ x ∈ xs, x.1 ≠ key) (h : k v l n) :
    Rn W F d l n (fun _ => call (.builtin "dict.get") [.ref g, .ref a, v]) k :=
  fun A _ _ _ _ s _ S D kQ => call_meetsIn PySem.F.slot_dict_get (T.at D.nw).typeIs PySem.F.entry_dict_get (PySem.F.args_dict_get_3 _ _ _) (meetsH_dict_get_default (rowKind W.prog W.w) g a T.lo v) ⟨by show A.units + 1 + 2 < _; have := S.uni; omega, key, xs, ha.is D.nw, T.at D.nw, by
    rw [atKey_none hk]
    exact kQ _ _ _ s.heap _ D h⟩
theorem o_rset {g a : Addr} {xs : List (RKey × Addr × Value)} {key : RKey} {v : Value} {k : Unit → Bs → Ld → Prop} (T : RowTab W n g xs) (ha : RowIn n key a) (hk : ∀ x ∈ xs, x.1 ≠ key) (hz : xs.length ≤ 1000)
    (h : ∀ o o' n', (n.map (·.1)).Pairwise (· > ·) → Chg g o o' n n' → RowOb W o xs → RowOb W o' (xs ++ [(key, a, v)]) → RowTab W n' g (xs ++ [(key, a, v)]) → k () l n') : Rn W F d l n (fun _ => setItem (.ref g) (.ref a) v) k :=
  fun A _ _ _ _ s _ S D₀ kQ => by
    obtain ⟨o, hm, es, ep, hc, hd, he⟩ := T.ob
    refine wpAny_setItem_heap (hsz := by rw [sizeLine_eq]; omega) (knd := rowKind W.prog W.w) (by show A.units + 1 + 2 < _; have := S.uni; omega) (ha.is D₀.nw) (T.at D₀.nw) fun h' hm' hs => ?_
    rw [storedH_new (atKey_none hk)] at hm'
    obtain ⟨o', es', ep', ho', hc', hd', he', _, hn'⟩ := hm'
    obtain ⟨n', hch⟩ := mem_chg (o' := o') hm
    obtain ⟨pre, post, e1, e2, h1, h2⟩ := (hch.upd D₀.od).split
    have old : ∀ {b : Addr} {vs : List Value} {m : Nat}, (b, tup vs m) ∈ n → (b, tup vs m) ∈ n' := by
      intro b vs m hb
      refine hch.keep hb fun e => ?_
      have e : b = g := e
      subst e
      have q : tup vs m = o := Option.some.inj ((D₀.nw.get hb).symm.trans (D₀.nw.get hm))
      rw [← q] at hd
      exact nomatch hd
    have oldR : ∀ {k : RKey} {b : Addr}, RowIn n k b → RowIn n' k b := by
      rintro k b ⟨vs, m, hm, hv⟩
      refine ⟨vs, m, old hm, ?_⟩
      cases hv with
      | two => exact .two
      | three hc hi => exact .three (old hc) hi
    refine kQ _ _ _ h' _ ⟨D₀.fr.change hs (D₀.nw _ hm).2.1 (D₀.nw.fresh hm), by rw [e2]; exact news_set (e1 ▸ D₀.nw) h1 h2 hs ho', by rw [hch.keys]; exact D₀.od⟩ (h _ _ _ D₀.od hch ⟨es, ep, hc, hd, he⟩ ⟨es', ep', hc', hd', he'⟩ ⟨T.lo, ⟨o', hch.mem', es', ep', hc', hd', he'⟩, hn', fun z hz => ?_⟩)
    rcases List.mem_append.mp hz with hz | hz
    · exact oldR (T.ky z hz)
    · rw [List.mem_singleton.mp hz]; exact oldR ha
end

/-! Fw5 -/
section
variable {W : Wd} {F : FI} {d : Nat} {l : Bs} {n : Ld}
theorem empty_dict {p : Program} {w : World} {o : Obj} (h : o.IsDictOf (intKind p w) []) : ∃ m, o = dictOf [] m := by
  obtain ⟨es, ep, hc, hdat, _, hp, _⟩ := h
  have he : es.toList = [] := List.length_eq_zero_iff.mp hp.length
  obtain ⟨cls, dd, data, sl⟩ := o
  obtain ⟨h1, h2, h3⟩ := hc
  simp only at h1 h2 h3 hdat
  subst h1 h2 h3 hdat
  refine ⟨ep, ?_⟩
  have : es = #[] := by simpa using he
  rw [this]
theorem r_dict0 {pos : Pos} {k : Value → Bs → Ld → Prop} (h : ∀ D m, (D == sysModules) = false → k (.ref D) l ((D, dictOf [] m) :: n)) : Rn W F d l n (eval (.Dict [] [] pos)) k :=
  fun _ _ _ _ _ s _ S D kQ => newDict_K (prog := W.prog) (w := W.w) D.fr D.nw S.top.nolimit fun D' h' o F' N' lt lo _ _ hi _ => by
    obtain ⟨m, rfl⟩ := empty_dict hi
    exact kQ _ _ _ h' _ (Led.cons F' N' D.od lt) (h D' m lo)
theorem r_call0 {func : Expr} {pos : Pos} {k : Value → Bs → Ld → Prop} (h : Rn W F d l n (eval func) fun f l1 n1 => keepIn W.K f = true ∧ Rn W F d l1 n1 (fun _ => call f []) k)
    (hc : eval (.Call func [] [] pos) F.env = (do let f ← eval func F.env; callWith pos f [] (backTo pos (starEach [] F.env)) (backToKw pos (keywordEach [] F.env))) := by rfl) : Rn W F d l n (eval (.Call func [] [] pos)) k :=
  fun A A₀ base h₀ outer s Q S D kQ => Call_ (h A A₀ base h₀ outer s _ S D fun f l1 n1 h1 tk1 D1 x1 => callWith_K0 (S.kin.keeps D1.fr.keep) x1.1 (x1.2.go S D1 kQ)) hc
theorem lookup_snoc {x y : Str} {v : Value} {l : Bs} (h : l.lookup x = none) : (l ++ [(x, v)]).lookup x = if x = x then some v else none := by
  rw [if_pos rfl]
  induction l with
  | nil => simp
  | cons p r ih =>
    obtain ⟨z, u⟩ := p
    rw [List.cons_append, List.lookup_cons]
    rw [List.lookup_cons] at h
    cases q : (x == z) with
    | true => rw [q] at h; cases h
    | false => rw [q] at h; exact ih h
theorem lookup_snoc' {x y : Str} {v : Value} {l : Bs} (h : y ≠ x) : (l ++ [(x, v)]).lookup y = l.lookup y := by
  induction l with
  | nil =>
    have : (y == x) = false := beq_false_of_ne h
    simp [List.lookup, this]
  | cons p r ih =>
    obtain ⟨z, u⟩ := p
    rw [List.cons_append, List.lookup_cons, List.lookup_cons, ih]
/-- an object's dict and its fields -/
structure DF (es : List DictEntry) (fs : Bs) : Prop where
  len : es.length ≤ fs.length
  nr : es.any (·.refKey) = false
  get : ∀ y, (es.find? (·.key.isStr y)).map (·.val) = fs.lookup y
theorem DF.nil : DF [] [] := ⟨Nat.le_refl _, rfl, fun _ => rfl⟩
theorem DF.getL {es : List DictEntry} {fs : Bs} (h : DF es fs) (y : Str) : getL y es = some (fs.lookup y) := by
  unfold PySem.W.getL
  rw [← h.get y]
  cases es.find? (·.key.isStr y) with
  | some e => rfl
  | none => rw [h.nr]; rfl
theorem sto_len (x : Str) (v : Value) : ∀ l : Bs, l.length ≤ (sto x v l).length ∧ (sto x v l).length ≤ l.length + 1
  | [] => ⟨Nat.zero_le _, Nat.le_refl _⟩
  | (y, u) :: l => by
    unfold sto
    split
    · exact ⟨Nat.le_refl _, Nat.le_succ _⟩
    · have := sto_len x v l
      exact ⟨Nat.succ_le_succ this.1, Nat.succ_le_succ this.2⟩
theorem isStr_str (x y : Str) (t : Tok) : (Value.str x t).isStr y = (x == y) := rfl
theorem isStr_two {v : Value} {x y : Str} (h : v.isStr x = true) (h2 : v.isStr y = true) : x = y := by
  cases v <;> simp_all [Value.isStr]
theorem put_get (x y : Str) (h : Int) (t : Tok) (v : Value) : ∀ es : List DictEntry, ((putL x h (.str x t) v es).find? (·.key.isStr y)).map (·.val) = if y = x then some v else (es.find? (·.key.isStr y)).map (·.val)
  | [] => by
    unfold putL
    by_cases e : y = x
    · subst e; simp [List.find?, isStr_str]
    · have : (Value.str x t).isStr y = false := by rw [isStr_str]; exact beq_false_of_ne (Ne.symm e)
      simp [List.find?, this, e]
  | en :: r => by
    unfold putL
    by_cases hx : en.key.isStr x = true
    · rw [if_pos hx]
      by_cases e : y = x
      · subst e; simp [List.find?, hx]
      · have : en.key.isStr y = false := by
          cases q : en.key.isStr y with
          | false => rfl
          | true => exact absurd (isStr_two q hx) e
        simp [List.find?, this, e]
    · rw [if_neg hx]
      have hx : en.key.isStr x = false := by simpa using hx
      cases q : en.key.isStr y with
      | true =>
        have e : y ≠ x := fun e => by subst e; rw [hx] at q; cases q
        simp [List.find?, q, e]
      | false =>
        have := put_get x y h t v r
        simpa [List.find?, q] using this
theorem put_nr (x : Str) (h : Int) (t : Tok) (v : Value) : ∀ es : List DictEntry, es.any (·.refKey) = false → (putL x h (.str x t) v es).any (·.refKey) = false
  | [], _ => rfl
  | en :: r, hn => by
    rw [List.any_cons, Bool.or_eq_false_iff] at hn
    unfold putL
    split
    · rw [List.any_cons, Bool.or_eq_false_iff]; exact hn
    · rw [List.any_cons, Bool.or_eq_false_iff]; exact ⟨hn.1, put_nr x h t v r hn.2⟩
theorem put_len (x : Str) (h : Int) (t : Tok) (v : Value) (fs : Bs) : ∀ es : List DictEntry, (putL x h (.str x t) v es).length ≤ es.length + 1
  | [] => Nat.le_refl _
  | en :: r => by
    unfold putL
    split
    · exact Nat.le_succ _
    · have := put_len x h t v fs r
      rw [List.length_cons, List.length_cons]; omega
/-- self.name = v -/
theorem o_set {x C dx : Addr} {tl b : Ld} {es : List DictEntry} {m : Nat} {fs : Bs} {name : Str} {v : Value} {k : Unit → Bs → Ld → Prop} (hD : DF es fs) (hz : fs.length < 900)
    (hf : findIn W.K (.ref C) "__setattr__" = some (some (.builtin "object.__setattr__"))) (hp : plainOver W.K C = true) (ht : takerIn W.K C name = some none) (hh : hasDictIn W.K C = true)
    (h : ∀ es' m', DF es' ((name, v) :: fs) → k () l (tl ++ (x, instObj C dx) :: (dx, dictOf es' m') :: b)) : Rn W F d l (tl ++ (x, instObj C dx) :: (dx, dictOf es m) :: b) (fun _ => setAttr (.ref x) name v) k := by
  refine o_setattr (n' := fun t => tl ++ (x, instObj C dx) :: (dx, dictOf (putL name (PyData.keyHash W.w.params name) (.str name t) v es) (putN name es m)) :: b) ⟨List.mem_append.mpr (.inr (.head _)), List.mem_append.mpr (.inr (.tail _ (.head _)))⟩ hf hp ht hh (by rw [hD.getL]; rfl) (by have := hD.len; omega) (fun t => .app (.tail .head) tl) fun t => h _ _ ⟨?_, put_nr _ _ _ _ _ hD.nr, fun y => ?_⟩
  · have := put_len name (PyData.keyHash W.w.params name) t v fs es
    have := hD.len
    rw [List.length_cons]; omega
  · rw [put_get, hD.get, List.lookup_cons]
    by_cases e : y = name
    · subst e; simp
    · have : (y == name) = false := beq_false_of_ne e
      rw [if_neg e, this]
theorem Rn.led {α : Type} {n2 : Ld} {t : Env → Sem α} {k : α → Bs → Ld → Prop} (e : n = n2) (h : Rn W F d l n2 t k) : Rn W F d l n t k := e ▸ h
theorem put_any (x : Str) (h : Int) (t : Tok) (v : Value) : ∀ es : List DictEntry, es.any (·.key.isStr x) = true → (putL x h (.str x t) v es).length = es.length
  | [], q => nomatch q
  | en :: r, q => by
    unfold putL
    split
    · rfl
    · rename_i hx
      rw [List.any_cons] at q
      have hx : en.key.isStr x = false := by simpa using hx
      rw [hx] at q
      rw [List.length_cons, List.length_cons, put_any x h t v r q]
theorem o_setE {x C dx : Addr} {tl b : Ld} {es : List DictEntry} {m : Nat} {fs : Bs} {name : Str} {v u : Value} {k : Unit → Bs → Ld → Prop} (hD : DF es fs) (hn : fs.lookup name = some u) (hz : fs.length < 900)
    (hf : findIn W.K (.ref C) "__setattr__" = some (some (.builtin "object.__setattr__"))) (hp : plainOver W.K C = true) (ht : takerIn W.K C name = some none) (hh : hasDictIn W.K C = true)
    (h : ∀ es' m', DF es' (sto name v fs) → k () l (tl ++ (dx, dictOf es' m') :: b)) (hx : (x, instObj C dx) ∈ tl ++ (dx, dictOf es m) :: b) : Rn W F d l (tl ++ (dx, dictOf es m) :: b) (fun _ => setAttr (.ref x) name v) k := by
  refine o_setattr (n' := fun t => tl ++ (dx, dictOf (putL name (PyData.keyHash W.w.params name) (.str name t) v es) (putN name es m)) :: b) ⟨hx, List.mem_append.mpr (.inr (.head _))⟩ hf hp ht hh (by rw [hD.getL]; rfl) (by have := hD.len; omega) (fun t => .app .head tl) fun t => h _ _ ⟨?_, put_nr _ _ _ _ _ hD.nr, fun y => ?_⟩
  · have q := hD.get name
    rw [hn] at q
    have q2 : es.any (·.key.isStr name) = true := by
      cases q3 : es.find? (·.key.isStr name) with
      | none => rw [q3] at q; cases q
      | some e => exact List.any_eq_true.mpr ⟨e, List.mem_of_find?_eq_some q3, by have := List.find?_some q3; simpa using this⟩
    rw [put_any _ _ _ _ _ q2]
    exact Nat.le_trans hD.len (sto_len name v fs).1
  · rw [put_get, hD.get, sto_lookup]
end

/-! Fw6 -/
theorem Chg.keepO {D : Addr} {o o' : Obj} {r r' : Ld} (h : Chg D o o' r r') {p : Addr × Obj} (hp : p ∈ r) (hn : p ≠ (D, o)) : p ∈ r' := by
  induction h with
  | head =>
    rcases List.mem_cons.mp hp with e | hp
    · exact absurd e hn
    · exact .tail _ hp
  | tail _ ih =>
    rcases List.mem_cons.mp hp with rfl | hp
    · exact .head _
    · exact .tail _ (ih hp)
theorem chg_uniq {D : Addr} {o o' p : Obj} {p' : Obj} {n n1 n2 : Ld} (h1 : Chg D o o' n n1) : Chg D p p' n n2 → (n.map (·.1)).Pairwise (· > ·) → o = p ∧ (o' = p' → n1 = n2) := by
  induction h1 generalizing n2 with
  | @head r =>
    intro h2 od
    cases h2 with
    | head => exact ⟨rfl, fun e => by rw [e]⟩
    | tail h2 =>
      rw [List.map_cons] at od
      exact absurd ((List.pairwise_cons.mp od).1 _ (List.mem_map_of_mem h2.mem)) (Nat.lt_irrefl _)
  | @tail q r r' h1 ih =>
    intro h2 od
    rw [List.map_cons] at od
    cases h2 with
    | head => exact absurd ((List.pairwise_cons.mp od).1 _ (List.mem_map_of_mem h1.mem)) (Nat.lt_irrefl _)
    | tail h2 =>
      obtain ⟨e1, e2⟩ := ih h2 (List.pairwise_cons.mp od).2
      exact ⟨e1, fun e => by rw [e2 e]⟩
section
variable {W : Wd} {F : FI} {d : Nat} {l : Bs} {n : Ld}
theorem o_appendM {a : Addr} {vs : List Value} {m : Nat} {x : Value} {k : Value → Bs → Ld → Prop} (hm : (a, listOf vs.toArray m) ∈ n) (hz : vs.length ≤ 10000) (h : ∀ n', Chg a (listOf vs.toArray m) (listOf (vs ++ [x]).toArray (m + 1)) n n' → k .none l n') :
    Rn W F d l n (fun _ => call (.builtin "list.append") [.ref a, x]) k := by
  obtain ⟨n', hc⟩ := mem_chg (o' := listOf (vs ++ [x]).toArray (m + 1)) hm
  exact o_append hc (by rw [sizeLine_eq]; omega) (h n' hc)
end

/-! Fw7 -/
section
variable {W : Wd} {F : FI} {d : Nat} {l : Bs} {n : Ld}
/-- a dict of the top, its keys ints -/
theorem o_inK {a : Addr} {o : Obj} {i : Int} {u : Tok} {DD : List (Int × PyData)} {k : Value → Bs → Ld → Prop} (hm : W.K.lookup a = some o) (hl : KTD.keyedLook (fun _ => some o) a DD = true) (h : k (.bool (KTD.inKeys i DD)) l n) : Rn W F d l n (fun _ => compareOp .In (.int i u) (.ref a)) k :=
  fun _ _ _ _ _ s _ S D kQ => by
    have e : KTD.keyedLook (fun b => W.K.lookup b) a DD = true := by
      have : KTD.keyedLook (fun b => W.K.lookup b) a = KTD.keyedLook (fun _ => some o) a := by
        funext D
        show (_ && (match W.K.lookup a with | some o => _ | none => false)) = _
        rw [hm]; rfl
      rw [this]; exact hl
    exact KTD.in_keyed (KTD.keyed_of_look (fun b o q => S.kin b o q) e) D.fr.keep (kQ _ _ _ s.heap _ D h)
/-- x += v -/
theorem r_augI {x : Str} {px pos : Pos} {value : Expr} {a : Int} {t : Tok} {k : Flow → Bs → Ld → Prop} (hv : l.lookup x = some (.int a t)) (h : Rn W F d l n (eval value) fun v l' n' => ∃ b u, v = .int b u ∧ ∀ t', k .next (sto x (.int (a + b) t') l') n')
    (hk : F.scope.kind = .function := by rfl) (hx : F.env.kindOf x = some .local := by rfl) : Rn W F d l n (exec (.AugAssign (.Name x px) .Add value pos)) k :=
  fun A A₀ base h₀ outer s Q S D kQ => wpAny_AugAssign_Name (wpAny_loadName_local hk hx D.fr.ns hv (h A A₀ base h₀ outer s _ S D fun v l' n' h' tk D' z => by
    obtain ⟨b, u, rfl, z⟩ := z
    exact PyProof.Rows.iadd_int (storeX_L D'.fr D'.nw (fun h2 F2 N2 => kQ _ _ _ h2 _ (Led.sto F2 N2 D'.od) (z _)) hk hx)))
theorem o_mulI {a b : Int} {t u : Tok} {k : Value → Bs → Ld → Prop} (hm : IntMulOk a b) (h : ∀ t, k (.int (a * b) t) l n) : Rn W F d l n (fun _ => binaryOp .Mult (.int a t) (.int b u)) k :=
  fun _ _ _ _ _ s _ _ D kQ => PyProof.Rows.mul_int (kQ _ _ _ s.heap _ D (h _)) hm
theorem o_sum {a : Addr} {vs : List Value} {m : Nat} {ns : List Int} {k : Value → Bs → Ld → Prop} (hm : (a, listOf vs.toArray m) ∈ n) (hi : IntsAre vs ns) (h : ∀ t, k (.int ns.sum t) l n) : Rn W F d l n (fun _ => call (.builtin "sum") [.ref a]) k :=
  fun _ _ _ _ _ s _ S D kQ => LSm.sum_ints D.fr D.nw S.hnd ⟨_, D.nw.get hm, rfl, m, rfl⟩ hi fun h' tk t' F' N' => kQ _ _ _ h' tk ⟨F', N', D.od⟩ (h t')
/-- the ledger's order -/
theorem r_od {α : Type} {t : Env → Sem α} {k : α → Bs → Ld → Prop} (h : (n.map (·.1)).Pairwise (· > ·) → Rn W F d l n t k) : Rn W F d l n t k :=
  fun A A₀ base h₀ outer s Q S D kQ => h D.od A A₀ base h₀ outer s Q S D kQ
theorem o_ret {α : Type} {v : α} {k : α → Bs → Ld → Prop} (h : k v l n) : Rn W F d l n (fun _ => pure v) k :=
  fun _ _ _ _ _ s _ _ D kQ => wpAny_pure (kQ _ _ _ s.heap s.toks D h)
theorem r_bool {b : Bool} {c : Nat} {pos : Pos} {k : Value → Bs → Ld → Prop} (h : k (.bool b) l n) : Rn W F d l n (eval (.Constant (.bool b) c pos)) k :=
  fun _ _ _ _ _ s _ _ D kQ => wpAny_Constant_bool (kQ _ _ _ s.heap s.toks D h)
end

/-! FwA -/
theorem wp_app0 {M : Model} {Γ : Ctx} {env : Env} {b : List Stmt} {Q : Flow → Pos → Shared → Prop} {E : Value → Pos → Shared → Prop} : ∀ (a : List Stmt) (p : Pos) (s : Shared),
    Sem.wp M Γ (execs a env) (fun f p' s' => match f with | .next => Sem.wp M Γ (execs b env) Q E p' s' | f => Q f p' s') E p s → Sem.wp M Γ (execs (a ++ b) env) Q E p s
  | [], p, s, h => by
    rw [PySem.execs_nil, Sem.wp_pure'] at h
    exact h
  | st :: a, p, s, h => by
    rw [PySem.execs_cons, Sem.wp_bind'] at h
    rw [List.cons_append, PySem.execs_cons, Sem.wp_bind']
    refine Sem.wp_mono M Γ _ (fun f p' s' h' => ?_) (fun _ _ _ z => z) _ _ h
    cases f with
    | next => exact wp_app0 a p' s' h'
    | ret v => rw [Sem.wp_pure'] at h' ⊢; exact h'
    | brk => rw [Sem.wp_pure'] at h' ⊢; exact h'
    | cont => rw [Sem.wp_pure'] at h' ⊢; exact h'
theorem wp_app {M : Model} {A : Around} {env : Env} {a b : List Stmt} {Q : Flow → Shared → Prop} {E : Value → Shared → Prop} {s : Shared}
    (h : wpAny M A (execs a env) (fun f s' => match f with | .next => wpAny M A (execs b env) Q E s' | f => Q f s') E s) : wpAny M A (execs (a ++ b) env) Q E s := fun Γ p hΓ => by
  refine wp_app0 a p s (Sem.wp_mono M Γ _ (fun f p' s' h' => ?_) (fun _ _ _ z => z) _ _ (h Γ p hΓ))
  cases f with
  | next => exact h' Γ p' hΓ
  | ret v => exact h'
  | brk => exact h'
  | cont => exact h'
section
variable {W : Wd} {F : FI} {d : Nat} {l : Bs} {n : Ld}
theorem r_app {a b : List Stmt} {k : Flow → Bs → Ld → Prop} (h : Rn W F d l n (execs a) (andThen W F d b k)) : Rn W F d l n (execs (a ++ b)) k :=
  fun A A₀ base h₀ outer s Q S D kQ => wp_app (h A A₀ base h₀ outer s _ S D fun f l' n' h' tk D' x => by
    cases f with
    | next => exact x.go S D' kQ
    | ret v => exact kQ _ _ _ _ _ D' x
    | brk => exact kQ _ _ _ _ _ D' x
    | cont => exact kQ _ _ _ _ _ D' x)
/-- a stretch of statements that goes on -/
theorem r_seg {ss : List Stmt} {i j : Nat} {k : Flow → Bs → Ld → Prop} {P : Bs → Ld → Prop} (h : Rn W F d l n (execs ((ss.drop i).take j)) fun fl l' n' => fl = .next ∧ P l' n') (hk : ∀ l' n', P l' n' → Rn W F d l' n' (execs (ss.drop (i + j))) k) : Rn W F d l n (execs (ss.drop i)) k := by
  rw [← List.take_append_drop j (ss.drop i), List.drop_drop]
  exact r_app (h.mono fun fl l' n' ⟨e, x⟩ => by subst e; exact hk l' n' x)
end

section
theorem kfill : (fun (_ : OpenLaw) (_ : Params → Frag) => True) PySem.Challenge.rw_sj0001_01 K := by k_fill; trivial

/-! Ct1 -/
noncomputable abbrev wd (w : World) (p : Program) (loose : List Str) (mg mb : Str → Option Value) : Wd := ⟨PySem.Challenge.pw_sj0001_01, w, K w.params, p, loose, mg, mb⟩
/-! the ledger grown -/
def Up (n n' : Ld) : Prop := ∃ tl, n' = tl ++ n
theorem Up.refl {n : Ld} : Up n n := ⟨[], rfl⟩
theorem Up.cons {n n' : Ld} {x : Addr × Obj} (h : Up n n') : Up n (x :: n') := let ⟨tl, e⟩ := h; ⟨x :: tl, by rw [e]; rfl⟩
theorem Up.app {n n' : Ld} (tl : Ld) (h : Up n n') : Up n (tl ++ n') := let ⟨tl', e⟩ := h; ⟨tl ++ tl', by rw [e, List.append_assoc]⟩
theorem Up.trans {n n' n'' : Ld} (h : Up n n') (k : Up n' n'') : Up n n'' := let ⟨tl, e⟩ := k; e ▸ h.app tl
theorem Up.sub {n n' : Ld} (h : Up n n') : ∀ q ∈ n, q ∈ n' := fun q hq => let ⟨_, e⟩ := h; e ▸ List.mem_append.mpr (.inr hq)
/-! data in the ledger -/
theorem din_tup {n : Ld} {v : Value} {ds : List Dat} (h : DatIn n v (.tuple ds)) : ∃ a vs m, v = .ref a ∧ (a, tup vs m) ∈ n ∧ DatAll n vs ds := by cases h; exact ⟨_, _, _, rfl, ‹_›, ‹_›⟩
theorem dall_cons {n : Ld} {vs : List Value} {d : Dat} {ds : List Dat} (h : DatAll n vs (d :: ds)) : ∃ v r, vs = v :: r ∧ DatIn n v d ∧ DatAll n r ds := by cases h; exact ⟨_, _, rfl, ‹_›, ‹_›⟩
theorem din_int {n : Ld} {v : Value} {i : Int} (h : DatIn n v (.int i)) : ∃ t, v = .int i t := by cases h; exact ⟨_, rfl⟩
theorem din_str {n : Ld} {v : Value} {i : Str} (h : DatIn n v (.str i)) : ∃ t, v = .str i t := by cases h; exact ⟨_, rfl⟩
theorem din_none {n : Ld} {v : Value} (h : DatIn n v .none) : v = .none := by cases h; rfl
theorem din_head {n : Ld} {v : Value} {c k : Int} {r : List Dat} (h : DatIn n v (.tuple (.int c :: .int k :: r))) : ∃ a m t u vs, v = .ref a ∧ (a, tup (.int c t :: .int k u :: vs) m) ∈ n ∧ DatAll n vs r := by
  obtain ⟨a, vs, m, rfl, hm, ha⟩ := din_tup h
  obtain ⟨v, r, rfl, h1, hb⟩ := dall_cons ha
  obtain ⟨v', r', rfl, h2, hc⟩ := dall_cons hb
  obtain ⟨t, rfl⟩ := din_int h1
  obtain ⟨u, rfl⟩ := din_int h2
  exact ⟨a, m, t, u, _, rfl, hm, hc⟩
theorem din_three {n : Ld} {v : Value} {c k : Int} {d : Dat} (h : DatIn n v (.tuple [.int c, .int k, d])) : ∃ a m t u x, v = .ref a ∧ (a, tup [.int c t, .int k u, x] m) ∈ n ∧ DatIn n x d := by
  obtain ⟨a, m, t, u, vs, rfl, hm, h⟩ := din_head h
  obtain ⟨x, r, rfl, h1, h⟩ := dall_cons h
  cases h
  exact ⟨a, m, t, u, x, rfl, hm, h1⟩

local macro_rules | `(tactic| walk_at "K") => `(tactic| (dsimp only [wd]; k_is))
local macro_rules | `(tactic| walk_at "g") => `(tactic| (refine' r_global ?ke ?_; (case ke => walk_at "K")))
local macro_rules | `(tactic| walk_at "def") => `(tactic| ((case ho => walk_at "K"); (case hcd => walk_at "K"); (case hb => exact rfl); (case hl => exact locs rfl); (case hcell => decide); (case h1 => exact rfl); (case h2 => exact rfl); (case h3 => exact rfl)))
section
variable {w : World} {p : Program} {loose : List Str} {mg mb : Str → Option Value} {d : Nat} {n : Ld}
theorem known_1 {a : Addr} {c kk : Int} {t u : Tok} {r : List Value} {m : Nat} (h : (a, tup (.int c t :: .int kk u :: r) m) ∈ n) :
    Cl (wd w p loose mg mb) (d + 1) 332 [.ref a] n fun v n' => n' = n ∧ v = .bool (c == 1 && kk != 15) := by
  refine' cl_def [(Str.ofString "e", .ref a)] ?ho ?hcd ?hb ?hl (fun L => ?_) ?hcell ?h1 ?h2 ?h3
  walk_at "def"
  refine r_cons (r_return (v_and (r_cmp (r_sub (r_local rfl (r_int fun _ => o_tupI h (by decide) (by decide) rfl ?_))))))
  walk_at "g"
  refine o_eqI ⟨_, rfl, ?_⟩
  cases hc : c == 1
  · exact ⟨rfl, rfl⟩
  · refine v_one (r_cmp (r_sub (r_local rfl (r_int fun _ => o_tupI h (by decide) (by decide) rfl ?_))))
    walk_at "g"
    exact o_neI ⟨rfl, rfl⟩

inductive TxR : Option Str → Value → Prop
  | some (s : Str) (t : Tok) : TxR (some s) (.str s t)
  | none : TxR none .none
theorem text_part_1 {v : Value} {e : Dat} (h : DatIn n v e) (hp : Part e) : Cl (wd w p loose mg mb) (d + 2) 423 [v] n fun r n' => n' = n ∧ TxR (txtOf e) r := by
  have go : ∀ {a : Addr} {c kk : Int} {t u : Tok} {r : List Value} {m : Nat}, (a, tup (.int c t :: .int kk u :: r) m) ∈ n →
      ((c == 1 && kk != 15) = false → TxR (txtOf e) .none) → ((c == 1 && kk != 15) = true → ∃ x, kk = 13 ∧ r = [x] ∧ ((x = .none ∧ txtOf e = some eps) ∨ ∃ s t, x = .str s t ∧ txtOf e = some s)) →
      Cl (wd w p loose mg mb) (d + 2) 423 [.ref a] n fun r n' => n' = n ∧ TxR (txtOf e) r := by
    intro a c kk t u r m hm hf ht
    refine' cl_def [(Str.ofString "part", .ref a)] ?ho ?hcd ?hb ?hl (fun L => ?_) ?hcell ?h1 ?h2 ?h3
    walk_at "def"
    refine r_cons (r_if (t_not (t_call (r_call ?_))))
    walk_at "g"
    refine ⟨by walk_at "K", r_args (r_local rfl (r_args0 (o_call ((known_1 hm).mono ?_))))⟩
    rintro v n' ⟨rfl, rfl⟩
    refine ⟨_, rfl, ?_⟩
    cases hk : (c == 1 && kk != 15)
    · exact r_cons (r_return (r_none ⟨rfl, hf hk⟩))
    · obtain ⟨x, rfl, rfl, hx⟩ := ht hk
      refine r_nil (r_cons (r_if (t_cmp (r_sub (r_local rfl (r_int fun _ => o_tupI hm (by decide) (by decide) rfl (r_none (o_is ?_ ⟨_, rfl, ?_⟩))))))))
      · rcases hx with ⟨rfl, _⟩ | ⟨s, t, rfl, _⟩ <;> rfl
      rcases hx with ⟨rfl, he⟩ | ⟨s, t, rfl, he⟩
      · exact r_cons (r_return (r_str fun _ => ⟨rfl, he ▸ .some _ _⟩))
      · refine r_nil (r_cons (r_if (t_cmp (r_sub (r_local rfl (r_int fun _ => o_tupI hm (by decide) (by decide) rfl ?_))))))
        walk_at "g"
        exact o_neI ⟨_, rfl, r_nil (r_cons (r_return (r_sub (r_local rfl (r_int fun _ => o_tupI hm (by decide) (by decide) rfl ⟨rfl, he ▸ .some _ _⟩)))))⟩
  cases hp with
  | txt s =>
    obtain ⟨a, m, t, u, x, rfl, hm, hx⟩ := din_three h
    obtain ⟨tk, rfl⟩ := din_str hx
    exact go hm (fun e => nomatch e) fun _ => ⟨_, rfl, rfl, .inr ⟨s, tk, rfl, rfl⟩⟩
  | nul =>
    obtain ⟨a, m, t, u, x, rfl, hm, hx⟩ := din_three h
    obtain rfl := din_none hx
    exact go hm (fun e => nomatch e) fun _ => ⟨_, rfl, rfl, .inl ⟨rfl, rfl⟩⟩
  | oth hc =>
    obtain ⟨a, m, t, u, vs, rfl, hm, _⟩ := din_head h
    exact go hm (fun _ => by rw [txt_oth hc]; exact .none) fun e => by rw [beq_false_of_ne hc] at e; cases e
end

/-! Ct2 -/
local macro_rules | `(tactic| walk_at "b") => `(tactic| (refine' r_built ?ke ?kv ?_; (case ke => walk_at "K"); (case kv => exact rfl)))
theorem TxR.nMay {o : Option Str} {v : Value} (h : TxR o v) : nMay v = true := by cases h <;> rfl
theorem TxR.isN {o : Option Str} {v : Value} (h : TxR o v) : isN v = o.isNone := by cases h <;> rfl
theorem din_dS {n : Ld} {a : Addr} {m : Nat} {t u r : Tok} {s : Str} (h : (a, tup [.int 1 t, .int 13 u, .str s r] m) ∈ n) : DatIn n (.ref a) (dS s) := .tuple h (.cons (.int _ _) (.cons (.int _ _) (.cons (.str _ _) .nil)))
section
variable {w : World} {p : Program} {loose : List Str} {mg mb : Str → Option Value} {d : Nat} {n : Ld}

theorem fold_concat_1 {a b : Addr} {t u : Tok} {ws : List Value} {m m' : Nat} {ds : List Dat} (ha : (a, tup [.int 26 t, .int 13 u, .ref b] m) ∈ n) (hb : (b, tup ws m') ∈ n) (hd : DatAll n ws ds) (hp : ∀ d ∈ ds, Part d) (hz : tws ds ≤ 100000) (hn : ds.length ≤ 10000) :
    Cl (wd w p loose mg mb) (d + 3) 430 [.ref a] n fun v n' => Up n n' ∧ DatIn n' v (foldC ds) := by
  refine' cl_def [(Str.ofString "e", .ref a)] ?ho ?hcd ?hb ?hl (fun L => ?_) ?hcell ?h1 ?h2 ?h3
  walk_at "def"
  refine r_cons (r_assign (r_listF (r_args0 ⟨by decide, fun P hP0 => ?_⟩)))
  refine r_cons (r_assign (r_none ?_))
  refine r_cons (r_for (r_sub (r_local rfl (r_int fun _ => o_tupI (List.mem_cons_of_mem _ ha) (by decide) (by decide) rfl ?_))))
  refine ⟨b, ws, fun i lt tl n0 => ∃ vs c, n0 = (P, listOf vs.toArray c) :: n ∧ DatAll (tl ++ n) vs (parF (ds.take i)).1 ∧ lt.lookup (Str.ofString "e") = some (.ref a) ∧ lt.lookup (Str.ofString "parts") = some (.ref P) ∧
      ∃ lv, lt.lookup (Str.ofString "last") = some lv ∧ TxR (parF (ds.take i)).2 lv, rfl, .tup (List.mem_cons_of_mem _ hb), ⟨[], 0, rfl, .nil, rfl, rfl, _, rfl, .none⟩, ?_, ?_⟩
  · rintro i v lt tl n0 I it hv ⟨vs, c, rfl, hvs, he, hP, lv, hl, hlv⟩ _ _
    obtain ⟨dd, hdd, hdi⟩ : ∃ dd, ds[i]? = some dd ∧ DatIn n v dd := by
      have hi : i < ds.length := by rw [← hd.length]; exact (List.getElem?_eq_some_iff.mp hv).1
      obtain ⟨v', h1, h2⟩ := hd.get hi
      rw [hv] at h1; cases h1
      exact ⟨_, List.getElem?_eq_getElem hi, h2⟩
    have hpd : Part dd := hp _ (List.mem_of_getElem? hdd)
    have hstep : parF (ds.take (i + 1)) = stp (parF (ds.take i)) dd := by rw [List.take_add_one, hdd]; exact parF_snoc _ _
    have sub : ∀ q ∈ n, q ∈ tl ++ (I, it) :: (P, listOf vs.toArray c) :: n := fun q hq => List.mem_append.mpr (.inr (.tail _ (.tail _ hq)))
    have hlen : vs.length ≤ 10000 := by
      rw [hvs.length]
      refine Nat.le_trans (parF_len _) (Nat.le_trans ?_ hn)
      rw [List.length_take]; exact Nat.min_le_right _ _
    have fin : ∀ (lt' : Bs) (add : Ld) (vs' : List Value) (c' : Nat) (lv' : Value), DatAll (add ++ (tl ++ n)) vs' (parF (ds.take (i + 1))).1 → lt'.lookup (Str.ofString "e") = some (.ref a) → lt'.lookup (Str.ofString "parts") = some (.ref P) →
        lt'.lookup (Str.ofString "last") = some lv' → TxR (parF (ds.take (i + 1))).2 lv' →
        (∃ tl2 n2, (add ++ (tl ++ (I, it) :: (P, listOf vs'.toArray c') :: n)) = tl2 ++ (I, it) :: n2 ∧ n2.map (·.1) = ((P, listOf ([] : List Value).toArray 0) :: n).map (·.1) ∧ (∀ o, (b, o) ∈ (P, listOf vs.toArray c) :: n → (b, o) ∈ n2) ∧
          ∃ vs c, n2 = (P, listOf vs.toArray c) :: n ∧ DatAll (tl2 ++ n) vs (parF (ds.take (i + 1))).1 ∧ lt'.lookup (Str.ofString "e") = some (.ref a) ∧ lt'.lookup (Str.ofString "parts") = some (.ref P) ∧ ∃ lv, lt'.lookup (Str.ofString "last") = some lv ∧ TxR (parF (ds.take (i + 1))).2 lv) := by
      intro lt' add vs' c' lv' h1 h2 h3 h4 h5
      refine ⟨add ++ tl, _, (List.append_assoc ..).symm, rfl, fun o ho => ?_, vs', c', rfl, by rw [List.append_assoc]; exact h1, h2, h3, lv', h4, h5⟩
      rcases List.mem_cons.mp ho with e | ho
      · exact absurd (hP0 _ hb) (by rw [congrArg Prod.fst e]; exact Nat.lt_irrefl _)
      · exact .tail _ ho
    refine r_cons (r_assign (r_call ?_))
    walk_at "g"
    refine ⟨by walk_at "K", r_args (r_local lk0 (r_args0 (o_call ((text_part_1 (hdi.mono sub) hpd).mono ?_))))⟩
    rintro r n' ⟨rfl, hr⟩
    cases ht : txtOf dd with
    | none =>
      rw [ht] at hr
      cases hr
      refine r_cons (r_if (t_and (t_cmp (r_local lk0 (r_none (o_isNot rfl ⟨_, rfl, ?_⟩))))))
      refine r_cons (r_if (t_cmp (r_local lk0 (r_none (o_isNot rfl ⟨_, rfl, ?_⟩)))))
      refine r_cons (r_assign (r_none ?_))
      refine r_cons (r_expr (r_meth (r_local (lkS (lkS (lkS hP))) (g_list (List.mem_append.mpr (.inr (.tail _ (.head _)))) slot_list_append rfl (m_built (r_args (r_local (lkS (lkS lk0)) (r_args0 (o_append (.app (.tail .head) tl) (by rw [sizeLine_eq]; omega) ?_)))))))))
      refine r_nil ?_
      refine r_nil ?_
      refine r_nil ?_
      have e1 := hstep.trans (stp_none ht)
      refine fin _ [] (vs ++ [v]) (c + 1) .none ?_ ?_ ?_ ?_ ?_
      · rw [e1]; exact hvs.append (.one (hdi.mono fun q hq => List.mem_append.mpr (.inr hq)))
      · exact lkS (lkS (lkS he))
      · exact lkS (lkS (lkS hP))
      · exact lk0
      · rw [e1]; exact .none
    | some s =>
      rw [ht] at hr
      cases hr
      rename_i tk
      refine r_cons (r_if (t_and (t_cmp (r_local lk0 (r_none (o_isNot rfl ⟨_, rfl, t_and (t_cmp (r_local (lkS (lkS hl)) (r_none (o_isNot hlv.nMay ⟨_, rfl, ?_⟩))))⟩))))))
      cases hl2 : (parF (ds.take i)).2 with
      | some s' =>
        rw [hl2] at hlv
        cases hlv
        rename_i tl'
        obtain ⟨hsz, r, hr⟩ := parF_last _ _ hl2
        rw [hr] at hvs
        obtain ⟨vs', u', rfl⟩ : ∃ vs' u', vs = vs' ++ [u'] := by
          rcases List.eq_nil_or_concat vs with rfl | ⟨x, y, e⟩
          · have := hvs.length; simp at this
          · exact ⟨x, y, by rw [e, List.concat_eq_append]⟩
        obtain ⟨es, dl, hes, hv1, hv2⟩ := hvs.snoc
        have hsum : s'.length + s.length ≤ 100000 := by
          have h1 : tws (ds.take (i + 1)) = tws (ds.take i) + tw dd := by rw [List.take_add_one, hdd]; exact tws_snoc _ _
          have h2 : tws (ds.take (i + 1)) ≤ tws ds := tws_take _ _
          have h3 : tw dd = s.length := by unfold tw; rw [ht]
          omega
        refine t_and0 ?_
        refine r_cons (r_assign (r_bin (r_local (lkS (lkS hl)) (r_local lk0 (o_addS (by rw [sizeLine_eq]; omega) fun tk2 => ?_)))))
        refine r_cons (r_setitem (r_tuple (r_args ?_)))
        walk_at "g"
        refine r_args ?_
        walk_at "g"
        refine r_args (r_local lk0 (r_args0 ⟨len3, fun D => r_local (lkS (lkS (lkS hP))) (r_unary (r_int fun _ => o_neg fun _ => o_setLast (.app (.tail .head) ((D, _) :: tl)) ?_))⟩))
        refine r_nil ?_
        refine r_nil ?_
        have e1 := hstep.trans (stp_cat ht hl2)
        refine fin _ [(D, _)] (vs' ++ [.ref D]) c (.str (s' ++ s) tk2) ?_ ?_ ?_ ?_ ?_
        rotate_left
        · exact lkS (lkS (lkS he))
        · exact lkS (lkS (lkS hP))
        · exact lk0
        · rw [e1]; exact .some _ _
        · rw [e1, hr]
          obtain ⟨e2, e3⟩ := List.append_inj' hes rfl
          show DatAll _ _ ((r ++ [dS s']).dropLast ++ _)
          rw [List.dropLast_concat, e2]
          exact DatAll.append (hv1.mono fun q hq => .tail _ hq) (.one (din_dS (.head _)))
      | none =>
        rw [hl2] at hlv
        cases hlv
        refine r_cons (r_if (t_cmp (r_local lk0 (r_none (o_isNot rfl ⟨_, rfl, ?_⟩)))))
        refine r_cons (r_assign (r_local lk0 ?_))
        refine r_cons (r_expr (r_meth (r_local (lkS (lkS (lkS hP))) (g_list (List.mem_append.mpr (.inr (.tail _ (.head _)))) slot_list_append rfl (m_built (r_args (r_tuple (r_args ?_))))))))
        walk_at "g"
        refine r_args ?_
        walk_at "g"
        refine r_args (r_local (lkS lk0) (r_args0 ⟨len3, fun D => r_args0 (o_append (.app (.tail .head) ((D, _) :: tl)) (by rw [sizeLine_eq]; omega) ?_)⟩))
        refine r_nil ?_
        refine r_nil ?_
        refine r_nil ?_
        have e1 := hstep.trans (stp_new ht hl2)
        refine fin _ [(D, _)] (vs ++ [.ref D]) (c + 1) (.str s tk) ?_ ?_ ?_ ?_ ?_
        rotate_left
        · exact lkS (lkS (lkS he))
        · exact lkS (lkS (lkS hP))
        · exact lk0
        · rw [e1]; exact .some _ _
        · rw [e1]; exact DatAll.append (hvs.mono fun q hq => .tail _ hq) (.one (din_dS (.head _)))
  · rintro lt tl n0 ⟨vs, c, rfl, hvs, he, hP, lv, hl, hlv⟩
    have hw : ws.length = ds.length := hd.length
    rw [hw, List.take_length] at hvs hlv
    have hlen : vs.length ≤ 10000 := by rw [hvs.length]; exact Nat.le_trans (parF_len _) hn
    have hPm : (P, listOf vs.toArray c) ∈ tl ++ (P, listOf vs.toArray c) :: n := List.mem_append.mpr (.inr (.head _))
    have sub : ∀ q ∈ tl ++ n, q ∈ tl ++ (P, listOf vs.toArray c) :: n := fun q hq => (List.mem_append.mp hq).elim (fun h => List.mem_append.mpr (.inl h)) fun h => List.mem_append.mpr (.inr (.tail _ h))
    have sub2 : ∀ q ∈ n, q ∈ tl ++ (P, listOf vs.toArray c) :: n := fun q hq => sub q (List.mem_append.mpr (.inr hq))
    refine r_cons (r_if (t_and (t_cmp (r_callB (r_built (by walk_at "K") boot_len ⟨rfl, r_args (r_local hP (r_args0 (o_lenL hPm (by omega) fun _ => r_int fun _ => o_eqI ⟨_, rfl, ?_⟩)))⟩)))))
    by_cases h1 : (parF ds).1.length = 1
    · rw [show ((vs.length : Int) == 1) = true by rw [hvs.length, h1]; rfl, if_pos rfl]
      refine t_and (t_cmp (r_local hl (r_none (o_isNot hlv.nMay ⟨_, rfl, ?_⟩))))
      cases h2 : (parF ds).2 with
      | none =>
        rw [h2] at hlv
        cases hlv
        refine r_nil ?_
        refine r_cons (r_return (r_tuple (r_args ?_)))
        walk_at "g"
        refine r_args (r_sub (r_local he (r_int fun _ => o_tupI (sub2 _ ha) (by decide) (by decide) rfl (r_args (r_callT (r_built (by walk_at "K") boot_tuple ⟨rfl, r_args (r_local hP (r_args0 (o_tupleL hPm (by omega) fun D => r_args0 ⟨len3, fun E => ?_⟩)))⟩))))))
        rw [foldC_many (.inr h2)]
        exact ⟨.cons (.cons (.app tl (.cons .refl))), .tuple (.head _) (.cons (.int _ _) (.cons (.int _ _) (.cons (.tuple (.tail _ (.head _)) (hvs.mono fun q hq => .tail _ (.tail _ (sub q hq)))) .nil)))⟩
      | some l' =>
        rw [h2] at hlv
        cases hlv
        obtain ⟨_, r, hr⟩ := parF_last _ _ h2
        obtain rfl : r = [] := by rw [hr] at h1; simpa using h1
        rw [foldC_one hr h2]
        rw [hr] at hvs
        refine t_and0 ?_
        obtain ⟨x, r', rfl, hx, hr'⟩ := dall_cons hvs
        refine r_cons (r_return (r_sub (r_local hP (r_int fun _ => o_lstI hPm (by decide) (by decide) rfl ?_))))
        exact ⟨.app tl (.cons .refl), hx.mono sub⟩
    · rw [show ((vs.length : Int) == 1) = false by rw [hvs.length]; simp; omega, if_neg Bool.false_ne_true]
      refine r_nil ?_
      refine r_cons (r_return (r_tuple (r_args ?_)))
      walk_at "g"
      refine r_args (r_sub (r_local he (r_int fun _ => o_tupI (sub2 _ ha) (by decide) (by decide) rfl (r_args (r_callT (r_built (by walk_at "K") boot_tuple ⟨rfl, r_args (r_local hP (r_args0 (o_tupleL hPm (by omega) fun D => r_args0 ⟨len3, fun E => ?_⟩)))⟩))))))
      rw [foldC_many (.inl h1)]
      exact ⟨.cons (.cons (.app tl (.cons .refl))), .tuple (.head _) (.cons (.int _ _) (.cons (.int _ _) (.cons (.tuple (.tail _ (.head _)) (hvs.mono fun q hq => .tail _ (.tail _ (sub q hq)))) .nil)))⟩
end

/-! Ct3 -/
section
variable {w : World} {p : Program} {loose : List Str} {mg mb : Str → Option Value} {d : Nat} {n : Ld}
theorem fold_1 {a b : Addr} {t u : Tok} {ws : List Value} {m m' : Nat} {ds : List Dat} (ha : (a, tup [.int 26 t, .int 13 u, .ref b] m) ∈ n) (hb : (b, tup ws m') ∈ n) (hd : DatAll n ws ds) (hp : ∀ d ∈ ds, Part d) (hz : tws ds ≤ 100000) (hn : ds.length ≤ 10000) :
    Cl (wd w p loose mg mb) (d + 4) 437 [.ref a] n fun v n' => Up n n' ∧ DatIn n' v (foldC ds) := by
  refine' cl_def [(Str.ofString "e", .ref a)] ?ho ?hcd ?hb ?hl (fun L => ?_) ?hcell ?h1 ?h2 ?h3
  walk_at "def"
  refine r_cons (r_assign (r_sub (r_local rfl (r_int fun _ => o_tupI ha (by decide) (by decide) rfl ?_))))
  refine r_cons (r_if (t_cmp (r_local rfl ?_)))
  walk_at "g"
  refine o_eqI ⟨_, rfl, r_nil (r_cons (r_if (t_cmp (r_local rfl ?_))))⟩
  walk_at "g"
  refine o_eqI ⟨_, rfl, r_nil (r_cons (r_if (t_or (t_cmp (r_local rfl ?_)))))⟩
  walk_at "g"
  refine o_eqI ⟨_, rfl, t_or (t_cmp (r_local rfl ?_))⟩
  walk_at "g"
  refine o_eqI ⟨_, rfl, t_or0 (r_nil (r_cons (r_if (t_cmp (r_local rfl ?_)))))⟩
  walk_at "g"
  refine o_eqI ⟨_, rfl, r_nil (r_cons (r_if (t_cmp (r_local rfl ?_))))⟩
  walk_at "g"
  refine o_eqI ⟨_, rfl, r_nil (r_cons (r_if (t_cmp (r_local rfl ?_))))⟩
  walk_at "g"
  refine o_eqI ⟨_, rfl, r_cons (r_return (r_call ?_))⟩
  walk_at "g"
  exact ⟨by walk_at "K", r_args (r_local rfl (r_args0 (o_call (fold_concat_1 ha hb hd hp hz hn))))⟩

/-- the seat of the law: cx, its turner, the turner's rows -/
structure Ctx (w : World) (n : Ld) (cx : Addr) (ck : Int) (tA gA : Addr) : Prop where
  it : ∃ dx es m dt et mt tok D, Ins cx 622 dx es m n ∧ getL (Str.ofString "turner") es = some (some (.ref tA)) ∧ getL (Str.ofString "checked") es = some (some (.int ck tok)) ∧ getL (Str.ofString "convert") es = some none ∧
    Ins tA 531 dt et mt n ∧ getL (Str.ofString "goes") et = some (some (.ref gA)) ∧ getL (Str.ofString "convert") et = some none ∧ TupTab (intKind pw w) PyData.int n gA D ∧ ∀ k ∈ kinds9, PySem.Spec.lookup (kT [k, 12]) D = some (.int (cvK k))
theorem TupTab.mono {w : World} {n n' : Ld} {g : Addr} {D : List (PyData × PyData)} (h : ∀ q ∈ n, q ∈ n') (T : TupTab (intKind pw w) PyData.int n g D) : TupTab (intKind pw w) PyData.int n' g D :=
  let ⟨lo, o, es, ep, xs, hm, hc, hd, he, hn, hk, hf⟩ := T
  ⟨lo, o, es, ep, xs, h _ hm, hc, hd, he, hn, fun x hx => let ⟨okx, hmk, t⟩ := hk x hx; ⟨okx, h _ hmk, t⟩, hf⟩
theorem Ctx.mono {w : World} {n n' : Ld} {cx : Addr} {ck : Int} {tA gA : Addr} (h : ∀ q ∈ n, q ∈ n') (c : Ctx w n cx ck tA gA) : Ctx w n' cx ck tA gA :=
  let ⟨dx, es, m, dt, et, mt, tok, D, h1, h2, h3, h3', h4, h5, h5', h6, h7⟩ := c.it
  ⟨dx, es, m, dt, et, mt, tok, D, h1.mono h, h2, h3, h3', h4.mono h, h5, h5', TupTab.mono h h6, h7⟩

theorem turn_by_rows_1 {a cx tA gA : Addr} {ck c ek : Int} {t u t' : Tok} {r : List Value} {m : Nat} {e : Dat} (C : Ctx w n cx ck tA gA) (ha : (a, tup (.int c t :: .int ek u :: r) m) ∈ n) (he : DatIn n (.ref a) e) (hk : ek ∈ kinds9) :
    Cl (wd w p loose mg mb) (d + 1) 638 [.ref gA, .ref cx, .ref a, .int 12 t', .none] n fun v n' => Up n n' ∧ DatIn n' v (turnD ck ek e) := by
  obtain ⟨dx, es, m, dt, et, mt, tok, D, h1, h2, h3, h3', h4, h5, h5', h6, h7⟩ := C.it
  refine' cl_def [(Str.ofString "table", .ref gA), (Str.ofString "cx", .ref cx), (Str.ofString "e", .ref a), (Str.ofString "k", .int 12 t'), (Str.ofString "node", .none)] ?ho ?hcd ?hb ?hl (fun L => ?_) ?hcell ?h1 ?h2 ?h3
  walk_at "def"
  refine r_cons (r_if (t_or (t_cmp (r_sub (r_local rfl (r_int fun _ => o_tupI ha (by decide) (by decide) rfl (r_local rfl (o_eqI ⟨_, rfl, ?_⟩))))))))
  by_cases h12 : ek = 12
  · rw [show (ek == 12) = true by rw [h12]; rfl, if_pos rfl]
    refine r_cons (r_return (r_local rfl ?_))
    refine ⟨.refl, ?_⟩
    unfold turnD; rw [if_pos h12]; exact he
  · rw [show (ek == 12) = false from beq_false_of_ne h12, if_neg Bool.false_ne_true]
    refine t_or (t_cmp (r_sub (r_local rfl (r_int fun _ => o_tupI ha (by decide) (by decide) rfl ?_))))
    walk_at "g"
    refine o_eqI ⟨_, rfl, ?_⟩
    have h15 : ek ≠ 15 := fun e => by subst e; exact absurd hk (by decide)
    rw [show (ek == 15) = false from beq_false_of_ne h15, if_neg Bool.false_ne_true]
    refine t_or (t_cmp (r_local rfl ?_))
    walk_at "g"
    refine o_eqI ⟨_, rfl, t_or0 (r_nil ?_)⟩
    refine r_cons (r_assign (r_meth (r_local rfl (g_dget h6 (m_built (r_args (r_tuple (r_args (r_sub (r_local rfl (r_int fun _ => o_tupI ha (by decide) (by decide) rfl (r_args (r_local rfl (r_args0 ⟨len2, fun E => r_args (r_int fun _ => r_args0 ?_)⟩))))))))))))))
    refine o_dget (c := cvK ek) (TupTab.mono (fun q hq => .tail _ hq) h6) (.head _) (by rw [h7 ek hk]; rfl) fun _ => ?_
    refine r_cons (r_if (t_name (r_local rfl ⟨true, ?_, ?_⟩)))
    · show some (cvK ek != 0) = _
      unfold cvK; split <;> rfl
    rw [if_pos rfl]
    refine r_cons (r_return (r_tuple (r_args ?_)))
    walk_at "g"
    refine r_args (r_local rfl (r_args (r_local rfl (r_args (r_local rfl (r_args (r_attr (r_local rfl ?_))))))))
    refine o_attr (h1.mono fun q hq => .tail _ hq) (by walk_at "K") (by walk_at "K") (by walk_at "K") (by walk_at "K") h3 rfl (r_args0 ⟨by show 5 ≤ _; decide, fun E2 => ?_⟩)
    refine ⟨.cons (.cons .refl), ?_⟩
    unfold turnD convD; rw [if_neg h12]
    exact .tuple (.head _) (.cons (.int _ _) (.cons (.int _ _) (.cons (he.mono fun q hq => .tail _ (.tail _ hq)) (.cons (.int _ _) (.cons (.int _ _) .nil)))))
theorem turner_convert_1 {a cx tA gA : Addr} {ck c ek : Int} {t u t' t2 : Tok} {r : List Value} {m : Nat} {e : Dat} (C : Ctx w n cx ck tA gA) (ha : (a, tup (.int c t :: .int ek u :: r) m) ∈ n) (he : DatIn n (.ref a) e) (hk : ek ∈ kinds9) :
    Cl (wd w p loose mg mb) (d + 2) 458 [.ref tA, .ref cx, .ref a, .int 12 t', .none, .int 0 t2] n fun v n' => Up n n' ∧ DatIn n' v (turnD ck ek e) := by
  have C0 := C
  obtain ⟨dx, es, m, dt, et, mt, tok, D, h1, h2, h3, h3', h4, h5, h5', h6, h7⟩ := C.it
  refine' cl_def [(Str.ofString "self", .ref tA), (Str.ofString "cx", .ref cx), (Str.ofString "e", .ref a), (Str.ofString "k", .int 12 t'), (Str.ofString "node", .none), (Str.ofString "explicit", .int 0 t2)] ?ho ?hcd ?hb ?hl (fun L => ?_) ?hcell ?h1 ?h2 ?h3
  walk_at "def"
  refine r_cons (r_return (r_call ?_))
  walk_at "g"
  refine ⟨by walk_at "K", r_args (r_attr (r_local rfl (o_attr h4 (by walk_at "K") (by walk_at "K") (by walk_at "K") (by walk_at "K") h5 rfl ?_)))⟩
  exact r_args (r_local rfl (r_args (r_local rfl (r_args (r_local rfl (r_args (r_local rfl (r_args0 (o_call (turn_by_rows_1 C0 ha he hk)))))))))) 
theorem pew_convert_1 {a cx tA gA : Addr} {ck c ek : Int} {t u t' t2 : Tok} {r : List Value} {m : Nat} {e : Dat} (C : Ctx w n cx ck tA gA) (ha : (a, tup (.int c t :: .int ek u :: r) m) ∈ n) (he : DatIn n (.ref a) e) (hk : ek ∈ kinds9) :
    Cl (wd w p loose mg mb) (d + 3) 619 [.ref cx, .ref a, .int 12 t', .none, .int 0 t2] n fun v n' => Up n n' ∧ DatIn n' v (turnD ck ek e) := by
  have C0 := C
  obtain ⟨dx, es, m, dt, et, mt, tok, D, h1, h2, h3, h3', h4, h5, h5', h6, h7⟩ := C.it
  refine' cl_def [(Str.ofString "self", .ref cx), (Str.ofString "e", .ref a), (Str.ofString "k", .int 12 t'), (Str.ofString "node", .none), (Str.ofString "explicit", .int 0 t2)] ?ho ?hcd ?hb ?hl (fun L => ?_) ?hcell ?h1 ?h2 ?h3
  walk_at "def"
  refine r_cons (r_return (r_meth (r_attr (r_local rfl (o_attr h1 (by walk_at "K") (by walk_at "K") (by walk_at "K") (by walk_at "K") h2 rfl ?_)))))
  refine g_inst h4 (by walk_at "K") (by walk_at "K") (by walk_at "K") h5' (m_def (by walk_at "K") ?_)
  exact r_args (r_local rfl (r_args (r_local rfl (r_args (r_local rfl (r_args (r_local rfl (r_args (r_local rfl (r_args0 (o_call (turner_convert_1 C0 ha he hk)))))))))))) 
theorem ops_part_1 {v : Value} {cx tA gA : Addr} {ck : Int} {e : Dat} (C : Ctx w n cx ck tA gA) (he : DatIn n v e) (hop : Op e) :
    Cl (wd w p loose mg mb) (d + 4) 652 [.ref cx, v, .none] n fun v n' => Up n n' ∧ DatIn n' v (opsP ck e) := by
  have C0 := C
  obtain ⟨dx, es, m, dt, et, mt, tok, D, h1, h2, h3, h3', h4, h5, h5', h6, h7⟩ := C.it
  obtain ⟨c, k, r, rfl, hk⟩ := hop.hd
  have he0 := he
  obtain ⟨a, m', t, u, vs, rfl, hm, hr⟩ := din_head he
  refine' cl_def [(Str.ofString "cx", .ref cx), (Str.ofString "e", .ref a), (Str.ofString "node", .none)] ?ho ?hcd ?hb ?hl (fun L => ?_) ?hcell ?h1 ?h2 ?h3
  walk_at "def"
  refine r_cons (r_if (t_cmp (r_sub (r_local rfl (r_int fun _ => o_tupI hm (by decide) (by decide) rfl ?_)))))
  walk_at "g"
  refine o_eqI ⟨_, rfl, ?_⟩
  unfold opsP
  rw [show kindOf (.tuple (.int c :: .int k :: r)) = k from rfl]
  by_cases h13 : k = 13
  · rw [show (k == 13) = true by rw [h13]; rfl, if_pos rfl, if_pos h13]
    exact r_cons (r_return (r_local rfl ⟨.refl, he0⟩))
  · rw [show (k == 13) = false from beq_false_of_ne h13, if_neg Bool.false_ne_true, if_neg h13]
    refine r_nil (r_cons (r_if (t_cmp (r_sub (r_local rfl (r_int fun _ => o_tupI hm (by decide) (by decide) rfl ?_))))))
    walk_at "g"
    refine o_eqI ⟨_, rfl, ?_⟩
    by_cases h14 : k = 14
    · rw [show (k == 14) = true by rw [h14]; rfl, if_pos rfl, if_pos h14]
      refine r_cons (r_return (r_tuple (r_args ?_)))
      walk_at "g"
      refine r_args ?_
      walk_at "g"
      exact r_args (r_str fun _ => r_args0 ⟨len3, fun E => ⟨.cons .refl, din_dS (.head _)⟩⟩)
    · rw [show (k == 14) = false from beq_false_of_ne h14, if_neg Bool.false_ne_true, if_neg h14]
      refine r_nil (r_cons (r_return (r_meth (r_local rfl (g_inst h1 (by walk_at "K") (by walk_at "K") (by walk_at "K") h3' (m_def (by walk_at "K") (r_args (r_local rfl (r_args ?_)))))))))
      walk_at "g"
      exact r_args (r_local rfl (r_args (r_int fun _ => r_args0 (o_call (pew_convert_1 C0 hm he0 hk)))))
end

/-! Fw8 -/
abbrev Od (n : Ld) : Prop := (n.map (·.1)).Pairwise (· > ·)
theorem od_uniq {n : Ld} (od : Od n) {a : Addr} {o1 o2 : Obj} (h1 : (a, o1) ∈ n) (h2 : (a, o2) ∈ n) : o1 = o2 := by
  induction n with
  | nil => cases h1
  | cons p r ih =>
    rw [Od, List.map_cons, List.pairwise_cons] at od
    rcases List.mem_cons.mp h1 with e1 | k1
    · rcases List.mem_cons.mp h2 with e2 | k2
      · rw [← e1] at e2; exact (Prod.mk.inj e2).2.symm
      · subst e1; exact absurd (od.1 _ (List.mem_map_of_mem k2)) (Nat.lt_irrefl _)
    · rcases List.mem_cons.mp h2 with e2 | k2
      · subst e2; exact absurd (od.1 _ (List.mem_map_of_mem k1)) (Nat.lt_irrefl _)
      · exact ih od.2 k1 k2
/-! a ledger in order -/
def insL (p : Addr × Obj) : Ld → Ld
  | [] => [p]
  | q :: r => if q.1 < p.1 then p :: q :: r else if q.1 = p.1 then q :: r else q :: insL p r
theorem ins_mem {p : Addr × Obj} : ∀ {s : Ld}, (∀ q ∈ s, q.1 = p.1 → q = p) → ∀ x, x ∈ insL p s ↔ x = p ∨ x ∈ s
  | [], _, x => by simp [insL]
  | q :: r, h, x => by
    unfold insL
    split
    · simp
    · split
      · rename_i _ e
        have := h q (.head _) e
        subst this
        simp
      · have ih := ins_mem (s := r) (fun q hq => h q (.tail _ hq)) x
        rw [List.mem_cons, ih, List.mem_cons]
        constructor
        · rintro (h | h | h)
          · exact .inr (.inl h)
          · exact .inl h
          · exact .inr (.inr h)
        · rintro (h | h | h)
          · exact .inr (.inl h)
          · exact .inl h
          · exact .inr (.inr h)
theorem ins_od {p : Addr × Obj} : ∀ {s : Ld}, (∀ q ∈ s, q.1 = p.1 → q = p) → Od s → Od (insL p s)
  | [], _, _ => by simp [insL, Od]
  | q :: r, h, od => by
    have od' := od
    rw [Od, List.map_cons, List.pairwise_cons] at od'
    unfold insL
    split
    · rename_i e
      rw [Od, List.map_cons, List.pairwise_cons]
      refine ⟨fun a ha => ?_, od⟩
      rw [List.map_cons] at ha
      rcases List.mem_cons.mp ha with rfl | ha
      · exact e
      · exact Nat.lt_trans (od'.1 a ha) e
    · split
      · exact od
      · rename_i e1 e2
        rw [Od, List.map_cons, List.pairwise_cons]
        refine ⟨fun a ha => ?_, ins_od (fun q hq => h q (.tail _ hq)) od'.2⟩
        obtain ⟨x, hx, rfl⟩ := List.mem_map.mp ha
        rcases (ins_mem (fun q hq => h q (.tail _ hq)) x).mp hx with rfl | hx
        · exact Nat.lt_of_le_of_ne (Nat.not_lt.mp e1) fun e => e2 e.symm
        · exact od'.1 _ (List.mem_map_of_mem hx)
theorem sort_news : ∀ (n : Ld), (∀ p ∈ n, ∀ q ∈ n, q.1 = p.1 → q = p) → ∃ s : Ld, Od s ∧ ∀ q, q ∈ s ↔ q ∈ n
  | [], _ => ⟨[], List.Pairwise.nil, fun _ => Iff.rfl⟩
  | p :: r, h => by
    obtain ⟨s, h1, h2⟩ := sort_news r fun a ha b hb => h a (.tail _ ha) b (.tail _ hb)
    have hu : ∀ q ∈ s, q.1 = p.1 → q = p := fun q hq => h p (.head _) q (.tail _ ((h2 q).mp hq))
    refine ⟨insL p s, ins_od hu h1, fun q => ?_⟩
    rw [ins_mem hu, List.mem_cons, h2]
theorem news_uniq {h₀ h : Heap} {L : Addr} {n : Ld} (N : News h₀ L h n) : ∀ p ∈ n, ∀ q ∈ n, q.1 = p.1 → q = p := fun p hp q hq e => by
  have h1 := (N p hp).1
  have h2 := (N q hq).1
  rw [e, h1] at h2
  exact Prod.ext e (Option.some.inj h2).symm
theorem upd_of {c : Addr} {o : Obj} : ∀ {n : Ld}, Od n → (c, o) ∈ n → ∃ g, UpdF c o n g ∧ ∀ o', Chg c o o' n (g o')
  | p :: r, od, h => by
    rw [Od, List.map_cons, List.pairwise_cons] at od
    rcases List.mem_cons.mp h with rfl | h
    · exact ⟨_, .head fun p hp => Nat.ne_of_lt (od.1 _ (List.mem_map_of_mem hp)), fun o' => .head⟩
    · obtain ⟨g, h1, h2⟩ := upd_of od.2 h
      exact ⟨_, .tail (Nat.ne_of_gt (od.1 _ (List.mem_map.mpr ⟨_, h, rfl⟩))) h1, fun o' => .tail (h2 o')⟩
theorem TupTab.chgD {w : World} {n n' : Ld} {g dx : Addr} {es : List DictEntry} {m : Nat} {o' : Obj} {D : List (PyData × PyData)} (hc : Chg dx (dictOf es m) o' n n') (hg : g ≠ dx) (T : TupTab (intKind pw w) PyData.int n g D) : TupTab (intKind pw w) PyData.int n' g D :=
  let ⟨lo, o, es, ep, xs, hm, hc', hd, he, hn, hk, hf⟩ := T
  ⟨lo, o, es, ep, xs, hc.keep hm hg, hc', hd, he, hn, fun x hx => let ⟨okx, hmk, t⟩ := hk x hx; ⟨okx, hc.keepO hmk (fun e => by
    have q := (Prod.mk.inj e).2
    have q1 := t.1
    rw [q] at q1
    injection q1 with q2
    exact absurd q2 (by decide)), t⟩, hf⟩
section
variable {W : Wd} {F : FI} {d : Nat} {l : Bs} {n : Ld}
theorem r_cell {x : Str} {pos : Pos} {v : Value} {c : Addr} {o : Obj} {k : Value → Bs → Ld → Prop} (hc : F.cl.lookup x = some c) (hm : (c, o) ∈ n) (hd : o.data = .cell (some v)) (h : k v l n)
    (hk : F.scope.kind = .function := by rfl) (hx : F.env.kindOf x = some .cell := by rfl) (hb : (x == ("__debug__" : Str)) = false := by decide) : Rn W F d l n (eval (.Name x pos)) k :=
  fun _ _ _ _ _ s _ _ D kQ => nameX_C D.nw hc hm hd (kQ _ _ _ s.heap s.toks D h) hk hx hb
theorem r_assignC {x : Str} {px pos : Pos} {value : Expr} {k : Flow → Bs → Ld → Prop} (h : Rn W F d l n (eval value) fun v l' n' => ∃ c o v₀, F.cl.lookup x = some c ∧ (c, o) ∈ n' ∧ o.data = .cell v₀ ∧ ∀ o' n2, o'.data = .cell (some v) → Chg c o o' n' n2 → k .next l' n2)
    (hk : F.scope.kind = .function := by rfl) (hx : F.env.kindOf x = some .cell := by rfl) (hs : swapsWith value (some (.Name x px)) pos.line F.env = pure false := by rfl) :
    Rn W F d l n (exec (.Assign [.Name x px] value pos)) k :=
  fun A A₀ base h₀ outer s Q S D kQ => wpAny_Assign_Name (h A A₀ base h₀ outer s _ S D fun v l' n' h' tk D' x => by
    obtain ⟨c, o, v₀, hc, hm, hd, x⟩ := x
    obtain ⟨g, U, hg⟩ := upd_of D'.od hm
    exact storeX_C D'.fr D'.nw hc U hd (fun h2 o' F2 N2 hd2 => kQ _ _ _ h2 tk ⟨F2, N2, by show Od (g o'); rw [Od, (hg o').keys]; exact D'.od⟩ (x o' _ hd2 (hg o'))) hk hx) hs
/-- a field set, by membership -/
theorem o_setM {x C dx : Addr} {es : List DictEntry} {m : Nat} {fs : Bs} {name : Str} {v : Value} {k : Unit → Bs → Ld → Prop} (i : Ins x C dx es m n) (hD : DF es fs) (hz : fs.length < 900)
    (hf : findIn W.K (.ref C) "__setattr__" = some (some (.builtin "object.__setattr__"))) (hp : plainOver W.K C = true) (ht : takerIn W.K C name = some none) (hh : hasDictIn W.K C = true)
    (h : ∀ es' m' n', DF es' ((name, v) :: fs) → Chg dx (dictOf es m) (dictOf es' m') n n' → k () l n') : Rn W F d l n (fun _ => setAttr (.ref x) name v) k := by
  have hc : ∀ t : Tok, ∃ n', Chg dx (dictOf es m) (dictOf (putL name (PyData.keyHash W.w.params name) (.str name t) v es) (putN name es m)) n n' := fun t => mem_chg i.di
  refine o_setattr (n' := fun t => (hc t).choose) i hf hp ht hh (by rw [hD.getL]; rfl) (by have := hD.len; omega) (fun t => (hc t).choose_spec) fun t => h _ _ _ ⟨?_, put_nr _ _ _ _ _ hD.nr, fun y => ?_⟩ (hc t).choose_spec
  · have := put_len name (PyData.keyHash W.w.params name) t v fs es
    have := hD.len
    rw [List.length_cons]; omega
  · rw [put_get, hD.get, List.lookup_cons]
    by_cases e : y = name
    · subst e; simp
    · have : (y == name) = false := beq_false_of_ne e
      rw [if_neg e, this]
theorem shaped_of {n : Nat} (hn : n ≤ 64) {e : Dat} (h : kqdOk n e = true) : SeqAt.shaped (kqdP e) = true := by
  have := kqd_lay n e h
  unfold SeqAt.shaped
  rw [this.1, Bool.true_and]
  exact decide_eq_true (Nat.le_trans this.2 hn)
theorem o_neD {v u : Value} {e : Dat} {k : Value → Bs → Ld → Prop} (hv : DatIn n v e) (hu : DatIn n u e) (hk : kqdOk 8 e = true) (h : k (.bool false) l n) : Rn W F d l n (fun _ => compareOp .NotEq v u) k :=
  fun A _ _ _ _ s _ S D kQ => by
    obtain ⟨as, ra⟩ := kqd_in D.nw 8 hv hk
    obtain ⟨bs, rb⟩ := kqd_in D.nw 8 hu hk
    refine ne_dataH ra rb (shaped_of (by decide) hk) (shaped_of (by decide) hk) (by have := S.uni; omega) ?_
    rw [PySem.SeqAt.eqv_refl _ (kqd_lay 8 e hk).1]
    exact kQ _ _ _ s.heap s.toks D h
theorem o_eqD {v u : Value} {e : Dat} {k : Value → Bs → Ld → Prop} (hv : DatIn n v e) (hu : DatIn n u e) (hk : kqdOk 8 e = true) (h : k (.bool true) l n) : Rn W F d l n (fun _ => compareOp .Eq v u) k :=
  fun A _ _ _ _ s _ S D kQ => by
    obtain ⟨as, ra⟩ := kqd_in D.nw 8 hv hk
    obtain ⟨bs, rb⟩ := kqd_in D.nw 8 hu hk
    refine eq_dataH ra rb (shaped_of (by decide) hk) (shaped_of (by decide) hk) (by have := S.uni; omega) ?_
    rw [PySem.SeqAt.eqv_refl _ (kqd_lay 8 e hk).1]
    exact kQ _ _ _ s.heap s.toks D h
end

/-! Fw9 -/
/-- what the element of a list made in a loop of its own gives -/
def Elem (W : Wd) (F : FI) (d : Nat) (elt : Expr) (x : Str) (scope : Scope) (cl : List (Str × Addr)) (l : Bs) (n1 : Ld) (vs : List Value) (J : Nat → List Value → Ld → Prop) : Prop :=
  ∀ (A A₀ : Around) (base h₀ : Heap) (outer : List Env) (s : Shared) (C : Addr) (oC : Obj) (m₂ : Str → Option Value) (nw : Ld) (i : Nat) (ys : List Value) (tl : Ld) (v : Value) (Q : Value → Shared → Prop),
    Sit W F.env d A A₀ base h₀ outer → vs[i]? = some v → J i ys tl → Fr h₀ F.L s.heap (fun y => l.lookup y) → News h₀ F.L s.heap nw → Od nw → (C, oC) ∈ nw → (∀ q ∈ tl ++ n1, q ∈ nw) → LCg.NsObj oC m₂ → m₂ x = some v →
    (∀ y tl' h tk, Fr h₀ F.L h (fun y => l.lookup y) → News h₀ F.L h (tl' ++ nw) → Od (tl' ++ nw) → J (i + 1) (ys ++ [y]) (tl' ++ tl) → Q y { s with heap := h, toks := tk }) →
    wpAny (model W.prog W.w) A (eval elt (compEnvC scope cl C F.env)) Q no s
theorem comp_rest {W : Wd} {F : FI} {d : Nat} {elt : Expr} {x : Str} {scope : Scope} {cl : List (Str × Addr)} {l : Bs} {n1 : Ld} {vs : List Value} {J : Nat → List Value → Ld → Prop} (el : Elem W F d elt x scope cl l n1 vs J)
    {A A₀ : Around} {base h₀ : Heap} {outer : List Env} (S : Sit W F.env d A A₀ base h₀ outer) {a : Addr} {k0 : Nat} (ha : (a, listOf vs.toArray k0) ∈ n1) (s : Shared) {Fin : List Value → Ld → Prop} (fin : ∀ ys tl, J vs.length ys tl → Fin ys (tl ++ n1)) :
    ∀ (k i : Nat) (ys : List Value) (tl : Ld), i + k = vs.length → J i ys tl →
      LCg.CompRest W.prog W.w A h₀ F.L (fun y => l.lookup y) F.env elt x scope cl s (LCg.SrcAt h₀ a vs.toArray) (fun i v => vs.toArray[i]? = some v) Fin k i ys (tl ++ n1)
  | 0, i, ys, tl, hi, hj => LCg.CompRest.zero (fin ys tl (by rw [← hi]; exact hj))
  | k + 1, i, ys, tl, hi, hj => by
    refine LCg.CompRest.succ fun v I oI C oC D m₂ h tk E' hP hC hm Fh Nh off ne => ?_
    obtain ⟨nw, od, hw⟩ := sort_news _ (news_uniq Nh)
    have Nw : News h₀ F.L h nw := fun p hp => Nh p ((hw p).mp hp)
    refine wpAny_mono (el A A₀ base h₀ outer { s with heap := h, toks := tk } C oC m₂ nw i ys tl v _ S (by simpa using hP) hj Fh Nw od ((hw _).mpr (.tail _ (.head _))) (fun q hq => (hw q).mpr (.tail _ (.tail _ (.tail _ hq)))) hC hm fun y tl' h' tk' F' N' od' hj' => ?_) (fun _ _ z => z) fun _ _ z => z.elim
    have gt : ∀ p ∈ tl', ∀ q ∈ nw, p.1 > q.1 := fun p hp q hq => by
      rw [Od, List.map_append, List.pairwise_append] at od'
      exact od'.2.2 _ (List.mem_map_of_mem hp) _ (List.mem_map_of_mem hq)
    refine LCg.CompEnd.intro F' N' ((tl' ++ tl) ++ n1) (fun p hp => ?_) (LCg.Off3.of fun p hp => ?_) (.inr ⟨_, List.mem_append.mpr (.inr ha), rfl, _, rfl⟩) (comp_rest el S ha s fin k (i + 1) _ _ (by omega) hj')
    · rcases List.mem_cons.mp hp with rfl | hp
      · exact List.mem_append.mpr (.inr ((hw _).mpr (.head _)))
      · rcases List.mem_cons.mp hp with rfl | hp
        · exact List.mem_append.mpr (.inr ((hw _).mpr (.tail _ (.head _))))
        · rcases List.mem_cons.mp hp with rfl | hp
          · exact List.mem_append.mpr (.inr ((hw _).mpr (.tail _ (.tail _ (.head _)))))
          · rw [List.append_assoc] at hp
            rcases List.mem_append.mp hp with hp | hp
            · exact List.mem_append.mpr (.inl hp)
            · exact List.mem_append.mpr (.inr ((hw _).mpr (.tail _ (.tail _ (.tail _ hp)))))
    · rw [List.append_assoc] at hp
      rcases List.mem_append.mp hp with hp | hp
      · exact ⟨Nat.ne_of_gt (gt p hp (I, oI) ((hw _).mpr (.head _))), Nat.ne_of_gt (gt p hp (C, oC) ((hw _).mpr (.tail _ (.head _)))), Nat.ne_of_gt (gt p hp (D, LCg.lst ys) ((hw _).mpr (.tail _ (.tail _ (.head _)))))⟩
      · exact off.mem p hp
section
variable {W : Wd} {F : FI} {d : Nat} {l : Bs} {n : Ld}
theorem r_comp {elt iter : Expr} {x : Str} {px : Pos} {scope : Scope} {cl : List (Str × Addr)} {pos : Pos} {k : Value → Bs → Ld → Prop}
    (h : Rn W F d l n (eval iter) fun v l1 n1 => l1 = l ∧ ∃ a vs m J, v = .ref a ∧ (a, listOf vs.toArray m) ∈ n1 ∧ vs.length ≤ 1000 ∧ J 0 [] [] ∧ Elem W F d elt x scope cl l n1 vs J ∧
      ∀ ys tl D n', J vs.length ys tl → (∀ q, q ∈ n' ↔ q = (D, LCg.lst ys) ∨ q ∈ tl ∨ q ∈ n1) → k (.ref D) l n')
    (hclos : closureFor scope F.env = pure cl) (hcell : ∀ y ∈ scope.names, y.2 ≠ .cell) (hkind : scope.kind = .function)
    (hnames : ∀ y ∈ scope.names, y.2 = .local → scope.names.lookup y.1 = some .local) (hx : scope.names.lookup x = some .local)
    (hs : ∀ x, foldedSetIterable iter F.env x = pure x := by intro _; rfl) : Rn W F d l n (eval (.ListComp elt [⟨.Name x px, iter, [], 0⟩] scope pos)) k :=
  fun A A₀ base h₀ outer s Q S D kQ => LCg.ListComp_U D.fr hclos hcell hkind hnames hx (h A A₀ base h₀ outer s _ S D fun v l1 n1 h1 tk1 D1 x1 => by
    obtain ⟨rfl, a, vs, m, J, rfl, ha, hz, hj, el, fin⟩ := x1
    refine LCg.CompSrc.ledger S.hnd D1.fr D1.nw ha (by rw [sizeLine_eq, List.size_toArray]; omega) fun g => ?_
    have z := comp_rest el S ha { s with heap := g, toks := tk1 } (Fin := LCg.FinE h₀ F.L (fun y => l1.lookup y) { s with heap := g, toks := tk1 } Q) (fun ys tl hJ D2 h2 tk2 F2 N2 off => ?_) vs.length 0 [] [] (by omega) hj
    · rw [List.size_toArray]; exact z
    · obtain ⟨nw, od, hw⟩ := sort_news _ (news_uniq N2)
      exact kQ _ _ nw h2 tk2 ⟨F2, fun p hp => N2 p ((hw p).mp hp), od⟩ (fin ys tl D2 nw hJ fun q => by rw [hw, List.mem_cons, List.mem_append])) hs
/-- x = [elt for ..], the source in the ledger -/
theorem r_assignComp {elt iter : Expr} {x y : Str} {px py : Pos} {scope : Scope} {cl : List (Str × Addr)} {pos spos : Pos} {k : Flow → Bs → Ld → Prop}
    {A A₀ : Around} {base h₀ : Heap} {outer : List Env} {s : Shared} {Q : Flow → Shared → Prop} (S : Sit W F.env d A A₀ base h₀ outer) (D : Led h₀ F.L l s.heap n)
    (h : ∀ (Q' : Value → Shared → Prop), (∀ n1 h1 tk1 a vs m J, Led h₀ F.L l h1 n1 → (a, listOf vs.toArray m) ∈ n1 → vs.length ≤ 1000 → J 0 [] [] → Elem W F d elt x scope cl l n1 vs J →
      (∀ ys tl D n', J vs.length ys tl → (∀ q, q ∈ n' ↔ q = (D, LCg.lst ys) ∨ q ∈ tl ∨ q ∈ n1) → k .next (sto y (.ref D) l) n') → Q' (.ref a) { s with heap := h1, toks := tk1 }) → wpAny (model W.prog W.w) A (eval iter F.env) Q' no s)
    (kQ : ∀ a l' n' h tk, Led h₀ F.L l' h n' → k a l' n' → Q a { s with heap := h, toks := tk })
    (hsw : swapsWith (.ListComp elt [⟨.Name x px, iter, [], 0⟩] scope pos) (some (.Name y py)) spos.line F.env = pure true)
    (hclos : closureFor scope F.env = pure cl) (hcell : ∀ y ∈ scope.names, y.2 ≠ .cell) (hkind : scope.kind = .function)
    (hnames : ∀ y ∈ scope.names, y.2 = .local → scope.names.lookup y.1 = some .local) (hx : scope.names.lookup x = some .local)
    (hy : F.env.kindOf y = some .local) (hk : F.scope.kind = .function)
    (hs : ∀ x, foldedSetIterable iter F.env x = pure x := by intro _; rfl) : wpAny (model W.prog W.w) A (exec (.Assign [.Name y py] (.ListComp elt [⟨.Name x px, iter, [], 0⟩] scope pos) spos) F.env) Q no s := by
  refine LCg.Assign_ListComp_U D.fr rfl hsw hclos hcell hkind hnames hx hy (by show (F.scope.kind == .class || (F.scope.kind == .module && F.env.locals != F.env.globals)) = false; rw [hk]; rfl) (h _ fun n1 h1 tk1 a vs m J D1 ha hz hj el fin => ?_) hs
  refine LCg.CompSrc.ledger S.hnd D1.fr D1.nw ha (by rw [sizeLine_eq, List.size_toArray]; omega) fun g => ?_
  have z := comp_rest el S ha { s with heap := g, toks := tk1 } (Fin := LCg.FinA h₀ F.L (fun y => l.lookup y) { s with heap := g, toks := tk1 } y Q) (fun ys tl hJ D2 h2 tk2 F2 N2 off => ?_) vs.length 0 [] [] (by omega) hj
  · rw [List.size_toArray]; exact z
  · obtain ⟨nw, od, hw⟩ := sort_news _ (news_uniq N2)
    exact kQ _ _ nw h2 tk2 (Led.sto F2 (fun p hp => N2 p ((hw p).mp hp)) od) (fin ys tl D2 nw hJ fun q => by rw [hw, List.mem_cons, List.mem_append])
end

/-! Fw10 -/
section
variable {W : Wd} {F : FI} {d : Nat} {l : Bs} {n : Ld} {α β : Type}
/-- what a loop's iterator promises, abstractly: the walk of the kit, its one own object I above the ledger -/
theorem loop_atI {Pi : Obj → Prop} {prog : Program} {w : World} {A : Around} {h₀ : Heap} {env : Env} {x : Str} {body : List Stmt} {Q : Flow → Shared → Prop} {s₂ : Shared} {I : Addr} {fp : List Addr} {N : Nat} {P : Nat → Value → Prop} {St : Nat → Heap → Prop} {l : Bs} {n : Ld}
    (J : Nat → Bs → Ld → Ld → Prop) (src : Ld → Prop)
    (Wk : Walks prog w A I fp [I] N P St) (hfp : ∀ b ∈ fp, b = I ∨ ∃ o, ∀ n' : Ld, src n' → (b, o) ∈ n')
    (hIL : I ≠ env.locals) (hI0 : h₀.get? I = none) (hob : ∀ i h, St i h → ∃ o, h.get? I = some o ∧ Pi o) (hst : St 0 s₂.heap)
    (F : Fr h₀ env.locals s₂.heap (fun y => l.lookup y)) (N₀ : News h₀ env.locals s₂.heap n) (od : (n.map (·.1)).Pairwise (· > ·)) (lt : ∀ p ∈ n, p.1 < I) (hsrc : src n) (hj : J 0 l [] n)
    (turn : ∀ i v lt tl n0 it h tk, i < N → Pi it → P i v → J i lt tl n0 → src n0 → n0.map (·.1) = n.map (·.1) → Fr h₀ env.locals h (fun y => (sto x v lt).lookup y) → News h₀ env.locals h (tl ++ (I, it) :: n0) → ((tl ++ (I, it) :: n0).map (·.1)).Pairwise (· > ·) →
      wpAny (model prog w) A (execs body env) (fun f s₃ => match f with
        | .ret v => Q (.ret v) s₃
        | .brk => Q .next s₃
        | _ => ∃ l' tl' n0' h' tk', s₃ = { s₂ with heap := h', toks := tk' } ∧ Fr h₀ env.locals h' (fun y => l'.lookup y) ∧ News h₀ env.locals h' (tl' ++ (I, it) :: n0') ∧ ((tl' ++ (I, it) :: n0').map (·.1)).Pairwise (· > ·) ∧ n0'.map (·.1) = n.map (·.1) ∧ src n0' ∧ J (i + 1) l' tl' n0') no { s₂ with heap := h, toks := tk })
    (done : ∀ lt tl n0 h tk, J N lt tl n0 → src n0 → n0.map (·.1) = n.map (·.1) → Fr h₀ env.locals h (fun y => lt.lookup y) → News h₀ env.locals h (tl ++ n0) → ((tl ++ n0).map (·.1)).Pairwise (· > ·) → Q .next { s₂ with heap := h, toks := tk }) :
    LoopAtV prog w A h₀ env x body Q no (.ref I) s₂ := by
  have offI : ∀ (tl n0 : Ld), ((tl ++ n0).map (·.1)).Pairwise (· > ·) → (∀ p ∈ tl, p.1 > I) → n0.map (·.1) = n.map (·.1) → ∀ p ∈ tl ++ n0, p.1 ∉ [I] := by
    intro tl n0 _ h1 h2 p hp hI
    have e : p.1 = I := List.mem_singleton.mp hI
    rcases List.mem_append.mp hp with hp | hp
    · exact Nat.lt_irrefl I (by have := h1 p hp; rw [e] at this; exact this)
    · have : p.1 ∈ n.map (·.1) := h2 ▸ List.mem_map_of_mem hp
      obtain ⟨q, hq, eq⟩ := List.mem_map.mp this
      exact Nat.lt_irrefl I (by have := lt q hq; rw [eq, e] at this; exact this)
  refine ⟨I, fp, [I], N, P, St, _, n, fun i m nx => ∃ lt tl n0, m = (fun y => lt.lookup y) ∧ nx = tl ++ n0 ∧ (∀ p ∈ tl, p.1 > I) ∧ ((tl ++ n0).map (·.1)).Pairwise (· > ·) ∧ n0.map (·.1) = n.map (·.1) ∧ src n0 ∧ J i lt tl n0, rfl, Wk, ?_, ?_, ?_, hst, F, N₀,
    ⟨l, [], n, rfl, rfl, fun _ hp => (nomatch hp), od, rfl, hsrc, hj⟩, ?_, ?_⟩
  · intro hL
    rcases hfp _ hL with e | ⟨o, ho⟩
    · exact hIL e.symm
    · exact (N₀ _ (ho n hsrc)).2.1 rfl
  · intro b hb
    rw [List.mem_singleton.mp hb]; exact hI0
  · intro p hp hI
    exact Nat.lt_irrefl I (by have := lt p hp; rw [List.mem_singleton.mp hI] at this; exact this)
  · rintro i v m₁ news₁ s₁ own ⟨hh', tk', rfl⟩ hin hP ⟨lt', tl, n0, rfl, rfl, habove, hod, hk, hsr, hJ⟩ hoff hown hget hfp' hst' F₁ N₁
    obtain ⟨oI, hoI, hPi⟩ := hob _ _ hst'
    have hIfp : I ∈ fp := Wk.sub I (.head _)
    have hIown : (I, oI) ∈ own := hfp' I hIfp hI0 oI hoI
    have Nm : News h₀ env.locals hh' (tl ++ (I, oI) :: n0) := by
      intro p hp
      rcases List.mem_append.mp hp with hp | hp
      · exact N₁ p (List.mem_append.mpr (.inr (List.mem_append.mpr (.inl hp))))
      · rcases List.mem_cons.mp hp with rfl | hp
        · exact N₁ _ (List.mem_append.mpr (.inl hIown))
        · exact N₁ p (List.mem_append.mpr (.inr (List.mem_append.mpr (.inr hp))))
    have odI : ((tl ++ (I, oI) :: n0).map (·.1)).Pairwise (· > ·) := by
      rw [List.map_append] at hod ⊢
      rw [List.pairwise_append] at hod ⊢
      refine ⟨hod.1, ?_, fun a ha b hb => ?_⟩
      · rw [List.map_cons]
        refine List.Pairwise.cons (fun b hb => ?_) hod.2.1
        rw [hk] at hb
        obtain ⟨q, hq, rfl⟩ := List.mem_map.mp hb
        exact lt q hq
      · rw [List.map_cons] at hb
        rcases List.mem_cons.mp hb with rfl | hb
        · obtain ⟨q, hq, rfl⟩ := List.mem_map.mp ha
          exact habove q hq
        · exact hod.2.2 a ha b hb
    have Fm : Fr h₀ env.locals hh' (fun y => (sto x v lt').lookup y) := by
      rw [show (fun y => (sto x v lt').lookup y) = fun y => if y = x then some v else lt'.lookup y from funext (sto_lookup x v lt')]
      exact F₁
    refine wpAny_mono (turn i v lt' tl n0 oI hh' tk' hin hPi hP hJ hsr hk Fm Nm odI) (fun f s₃ p => ?_) fun _ _ e => e
    have fin : (∃ l' tl' n0' h' tk', s₃ = { s₂ with heap := h', toks := tk' } ∧ Fr h₀ env.locals h' (fun y => l'.lookup y) ∧ News h₀ env.locals h' (tl' ++ (I, oI) :: n0') ∧ ((tl' ++ (I, oI) :: n0').map (·.1)).Pairwise (· > ·) ∧ n0'.map (·.1) = n.map (·.1) ∧ src n0' ∧ J (i + 1) l' tl' n0') →
        LoopStepU h₀ env.locals [I] own (fun m nx => ∃ lt tl n0, m = (fun y => lt.lookup y) ∧ nx = tl ++ n0 ∧ (∀ p ∈ tl, p.1 > I) ∧ ((tl ++ n0).map (·.1)).Pairwise (· > ·) ∧ n0.map (·.1) = n.map (·.1) ∧ src n0 ∧ J (i + 1) lt tl n0) { s₂ with heap := hh', toks := tk' } .next s₃ := by
      rintro ⟨l', tl', n0', h', tk'', rfl, F', N', od', hk', hsr', hJ'⟩
      have od2 : (∀ p ∈ tl', p.1 > I) ∧ ((tl' ++ n0').map (·.1)).Pairwise (· > ·) := by
        rw [List.map_append, List.pairwise_append] at od'
        refine ⟨fun p hp => od'.2.2 _ (List.mem_map_of_mem hp) _ (.head _), ?_⟩
        rw [List.map_append, List.pairwise_append]
        refine ⟨od'.1, (List.pairwise_cons.mp od'.2.1).2, fun a ha b hb => od'.2.2 a ha b (.tail _ hb)⟩
      refine ⟨rfl, h', tk'', _, tl' ++ n0', rfl, F', fun p hp => ?_, offI tl' n0' od2.2 od2.1 hk', l', tl', n0', rfl, rfl, od2.1, od2.2, hk', hsr', hJ'⟩
      rcases List.mem_append.mp hp with hp | hp
      · rcases hfp _ (hown p hp) with e | ⟨o, ho⟩
        · have : p = (I, oI) := by
            have h1 := hget p hp
            have h1' : hh'.get? p.1 = some p.2 := h1
            rw [e] at h1'
            rw [hoI] at h1'
            exact Prod.ext e (Option.some.inj h1').symm
          rw [this]
          exact N' _ (List.mem_append.mpr (.inr (.head _)))
        · have h2 := (Nm _ (List.mem_append.mpr (.inr (.tail _ (ho n0 hsr))))).1
          have h1 : hh'.get? p.1 = some p.2 := hget p hp
          rw [h1] at h2
          have : p = (p.1, o) := Prod.ext rfl (Option.some.inj h2)
          rw [this]
          exact N' _ (List.mem_append.mpr (.inr (.tail _ (ho n0' hsr'))))
      · rcases List.mem_append.mp hp with hp | hp
        · exact N' p (List.mem_append.mpr (.inl hp))
        · exact N' p (List.mem_append.mpr (.inr (.tail _ hp)))
    cases f with
    | ret v => exact .ret p
    | brk => exact .brk p
    | next => exact .next (fin p)
    | cont => exact .cont (fin p)
  · rintro h' tk m' news' F' N' _ ⟨lt', tl, n0, rfl, rfl, _, hod, hk, hsr, hJ⟩
    exact done lt' tl n0 h' tk hJ hsr hk F' N' hod

theorem list_walk {prog : Program} {w : World} {A : Around} {E : Value → Shared → Prop} {s : Shared} {h₀ : Heap} {L a : Addr} {vs : List Value} {c : Nat} {n : Ld} {m : Str → Option Value} {Q : Value → Shared → Prop} (hh : A.handled = none) (hm : (a, listOf vs.toArray c) ∈ n) (F : Fr h₀ L s.heap m) (N : News h₀ L s.heap n)
    (h : ∀ St o h', Walks prog w A s.heap.objs.size [s.heap.objs.size, a] [s.heap.objs.size] vs.length (fun i v => vs[i]? = some v) St → (∀ i h, St i h → ∃ o, h.get? s.heap.objs.size = some o ∧ o.cls = .type "list_iterator") → (∀ n' : Ld, (a, o) ∈ n' → Sq a vs n') → (a, o) ∈ n → St 0 h' → Fr h₀ L h' m → News h₀ L h' n → Q (.ref s.heap.objs.size) { s with heap := h' }) :
    wpAny (model prog w) A (pyIter (.ref a)) Q E s := by
  have ho := N.get hm
  have hl : s.heap.IsList a vs.toArray := ⟨_, ho, rfl, c, rfl⟩
  refine wpAny_pyIter_list hl ?_
  have Wk := Walks.list (prog := prog) (w := w) hh s.heap.objs.size a (Nat.ne_of_lt (Heap.lt_size ho)) vs.toArray
  refine h (fun i h => h.IsListIter s.heap.objs.size a i ∧ h.IsList a vs.toArray) _ _ (by simpa using Wk) (fun i h hst => ⟨_, hst.1.choose_spec.1, hst.1.choose_spec.2.1⟩) (fun n' hn => .list hn) hm ⟨⟨_, Heap.get?_push_size _ rfl, rfl, rfl⟩, hl.at fun o e => Heap.get?_push_of_some _ e⟩ (F.push _) fun p hp => ⟨Heap.get?_push_of_some _ (N p hp).1, (N p hp).2⟩
theorem r_forI {x : Str} {px pos : Pos} {iter : Expr} {body : List Stmt} {k : Flow → Bs → Ld → Prop}
    (h : Rn W F d l n (eval iter) fun v l' n' => ∃ (a : Addr) (vs : List Value) (J : Nat → Bs → Ld → Ld → Prop), v = .ref a ∧ (∃ m, (a, listOf vs.toArray m) ∈ n') ∧ J 0 l' [] n' ∧
      (∀ i v lt tl n0 I it, it.cls = .type "list_iterator" → vs[i]? = some v → J i lt tl n0 → Sq a vs n0 → n0.map (·.1) = n'.map (·.1) →
        Rn W F d (sto x v lt) (tl ++ (I, it) :: n0) (execs body) (turnEnd k I it (n'.map (·.1)) fun l2 tl2 n2 => (∀ o, (a, o) ∈ n0 → (a, o) ∈ n2) ∧ J (i + 1) l2 tl2 n2)) ∧
      (∀ lt tl n0, J vs.length lt tl n0 → k .next lt (tl ++ n0)))
    (hx : F.env.kindOf x = some .local := by rfl) (hk : F.scope.kind = .function := by rfl) (hs : ∀ v, foldedSetIterable iter F.env v = pure v := by intro _; rfl) : Rn W F d l n (exec (.For (.Name x px) iter body [] pos)) k := by
  intro A A₀ base h₀ outer s Q S D kQ
  refine For_invVF D.fr hx (by show (F.scope.kind == .class || (F.scope.kind == .module && F.env.locals != F.env.globals)) = false; rw [hk]; rfl) (h A A₀ base h₀ outer s _ S D fun v l' n' h' tk' D' x => ?_) hs passes_no
  obtain ⟨a, vs, J, rfl, ⟨mm, hmm⟩, hj, turn, done⟩ := x
  refine list_walk S.hnd hmm D'.fr D'.nw (fun St o h'' Wk hob hof hmem hst F' N' => ?_)
  refine loop_atI (Pi := fun o => o.cls = .type "list_iterator") (l := l') (n := n') J (fun n0 => (a, o) ∈ n0) Wk (fun b hb => ?_) (Ne.symm (Nat.ne_of_lt D'.fr.ns.lt)) (next_free D'.fr) hob hst F' N' D'.od (fun p hp => Heap.lt_size (D'.nw p hp).1) hmem hj ?_ ?_
  · rcases List.mem_cons.mp hb with e | hb
    · exact .inl e
    · exact .inr ⟨o, fun n0 h => by rw [List.mem_singleton.mp hb]; exact h⟩
  · intro i v lt tl n0 it hh tk hi hPi hP hJ hsr hkeys Fm Nm odm
    refine turn i v lt tl n0 h'.objs.size it hPi hP hJ (hof _ hsr) hkeys A A₀ base h₀ outer _ _ S ⟨Fm, Nm, odm⟩ fun f l2 n2 h2 tk2 D2 x2 => ?_
    cases f with
    | ret v => exact kQ _ _ _ _ _ D2 x2
    | brk => exact kQ _ _ _ _ _ D2 x2
    | next =>
      obtain ⟨tl', n0', rfl, hk', hm', hJ'⟩ := x2
      exact ⟨l2, tl', n0', h2, tk2, rfl, D2.fr, D2.nw, D2.od, hk', hm' _ hsr, hJ'⟩
    | cont =>
      obtain ⟨tl', n0', rfl, hk', hm', hJ'⟩ := x2
      exact ⟨l2, tl', n0', h2, tk2, rfl, D2.fr, D2.nw, D2.od, hk', hm' _ hsr, hJ'⟩
  · intro lt tl n0 hh tk hJ _ _ Fm Nm odm
    exact kQ _ _ _ _ _ ⟨Fm, Nm, odm⟩ (done lt tl n0 hJ)
end
mutual
theorem DatIn.sub {n n' : Ld} (h : ∀ a o, (a, o) ∈ n → (o.cls = .type "tuple" ∨ o.cls = .type "list") → (a, o) ∈ n') : ∀ {v : Value} {d : Dat}, DatIn n v d → DatIn n' v d
  | _, _, .none => .none
  | _, _, .bool b => .bool b
  | _, _, .int i t => .int i t
  | _, _, .str x t => .str x t
  | _, _, .bytes b t => .bytes b t
  | _, _, .tuple hm r => .tuple (h _ _ hm (.inl rfl)) (DatAll.sub h r)
  | _, _, .list hm r => .list (h _ _ hm (.inr rfl)) (DatAll.sub h r)
theorem DatAll.sub {n n' : Ld} (h : ∀ a o, (a, o) ∈ n → (o.cls = .type "tuple" ∨ o.cls = .type "list") → (a, o) ∈ n') : ∀ {vs : List Value} {ds : List Dat}, DatAll n vs ds → DatAll n' vs ds
  | _, _, .nil => .nil
  | _, _, .cons hd r => .cons (DatIn.sub h hd) (DatAll.sub h r)
end
/-- data do not lie in an iterator -/
theorem DatIn.drop {a b : Ld} {I : Addr} {it : Obj} (hi : it.cls = .type "list_iterator") {v : Value} {e : Dat} (h : DatIn (a ++ (I, it) :: b) v e) : DatIn (a ++ b) v e :=
  Mine.DatIn.sub (h := fun x o hm hc => by
    rcases List.mem_append.mp hm with hm | hm
    · exact List.mem_append.mpr (.inl hm)
    · rcases List.mem_cons.mp hm with e | hm
      · exfalso
        rw [(Prod.mk.inj e).2, hi] at hc
        rcases hc with hc | hc
        · injection hc with hc; exact absurd hc (by decide)
        · injection hc with hc; exact absurd hc (by decide)
      · exact List.mem_append.mpr (.inr hm)) h
theorem dall_at {n : Ld} : ∀ {vs : List Value} {ds : List Dat} {i : Nat} {v : Value}, DatAll n vs ds → vs[i]? = some v → ∃ e, ds[i]? = some e ∧ DatIn n v e
  | _, _, i, v, .nil, h => by simp at h
  | _, _, 0, v, .cons hd r, h => ⟨_, rfl, by simp at h; subst h; exact hd⟩
  | _, _, i + 1, v, .cons hd r, h => by
    obtain ⟨e, h1, h2⟩ := dall_at (i := i) r (by simpa using h)
    exact ⟨e, by simpa using h1, h2⟩
theorem dall_len {n : Ld} : ∀ {vs : List Value} {ds : List Dat}, DatAll n vs ds → vs.length = ds.length
  | _, _, .nil => rfl
  | _, _, .cons _ r => congrArg Nat.succ (dall_len r)
/-! expressions in the frame of a list made in a loop of its own -/
section
variable {W : Wd} {F : FI} {d : Nat} {l : Bs} {n : Ld} {scope : Scope} {cl : List (Str × Addr)} {C : Addr}
theorem elem_of {elt : Expr} {x : Str} {n1 : Ld} {vs : List Value} {J : Nat → List Value → Ld → Prop}
    (h : ∀ C oC m₂ nw i ys tl v, vs[i]? = some v → J i ys tl → (C, oC) ∈ nw → (∀ q ∈ tl ++ n1, q ∈ nw) → LCg.NsObj oC m₂ → m₂ x = some v →
      Rn W F d l nw (fun _ => eval elt (compEnvC scope cl C F.env)) fun y l' n' => l' = l ∧ ∃ tl', n' = tl' ++ nw ∧ J (i + 1) (ys ++ [y]) (tl' ++ tl)) : Elem W F d elt x scope cl l n1 vs J :=
  fun A A₀ base h₀ outer s C oC m₂ nw i ys tl v Q S hv hj Fh Nh od hC hsub hoC hm kQ => h C oC m₂ nw i ys tl v hv hj hC hsub hoC hm A A₀ base h₀ outer s Q S ⟨Fh, Nh, od⟩ fun y l' n' h' tk D x => by
    obtain ⟨rfl, tl', rfl, hj'⟩ := x
    exact kQ y tl' h' tk D.fr D.nw D.od hj'
theorem e_local {x : Str} {pos : Pos} {v : Value} {oC : Obj} {m₂ : Str → Option Value} {k : Value → Bs → Ld → Prop} (hC : (C, oC) ∈ n) (hoC : LCg.NsObj oC m₂) (hv : m₂ x = some v) (h : k v l n)
    (hk : (compEnvC scope cl C F.env).scope.kind = .function := by rfl) (hx : (compEnvC scope cl C F.env).kindOf x = some .local := by rfl) (hd : (x == ("__debug__" : Str)) = false := by decide) : Rn W F d l n (fun _ => eval (.Name x pos) (compEnvC scope cl C F.env)) k :=
  fun _ _ _ _ _ s _ _ D kQ => wpAny_Name (wpAny_loadName_local hk hx (hoC.ns (D.nw.get hC)) hv (kQ _ _ _ s.heap s.toks D h)) hd
theorem e_global {x : Str} {pos : Pos} {v : Value} {k : Value → Bs → Ld → Prop} (e : nsIn W.K mainGlobals x = some (some v)) (h : k v l n)
    (hk : (compEnvC scope cl C F.env).scope.kind = .function := by rfl) (hx : (compEnvC scope cl C F.env).kindOf x = some .globalImplicit := by rfl) (hd : (x == ("__debug__" : Str)) = false := by decide) : Rn W F d l n (fun _ => eval (.Name x pos) (compEnvC scope cl C F.env)) k :=
  fun _ _ _ _ _ s _ S D kQ => Name_function_global hk hx (loadGlobal_global (env := compEnvC scope cl C F.env) (S.top.g.keeps D.fr.keep) (mg_of S.kin S.top.g e) (kQ _ _ _ s.heap s.toks D h)) hd
theorem e_cell {x : Str} {pos : Pos} {v : Value} {c : Addr} {o : Obj} {k : Value → Bs → Ld → Prop} (hc : cl.lookup x = some c) (hm : (c, o) ∈ n) (hd : o.data = .cell (some v)) (h : k v l n)
    (hk : (compEnvC scope cl C F.env).scope.kind = .function := by rfl) (hx : (compEnvC scope cl C F.env).kindOf x = some .cell := by rfl) (hb : (x == ("__debug__" : Str)) = false := by decide) : Rn W F d l n (fun _ => eval (.Name x pos) (compEnvC scope cl C F.env)) k :=
  fun _ _ _ _ _ s _ _ D kQ => wpAny_Name (wpAny_loadName_cell hk hx hc ⟨o, D.nw.get hm, hd⟩ (kQ _ _ _ s.heap s.toks D h)) hb
theorem e_int {env : Env} {i : Int} {c : Nat} {pos : Pos} {k : Value → Bs → Ld → Prop} (h : ∀ t, k (.int i t) l n) : Rn W F d l n (fun _ => eval (.Constant (.int i) c pos) env) k :=
  fun _ _ _ _ _ s _ _ D kQ => wpAny_Constant_int (kQ _ _ _ s.heap _ D (h _))
theorem e_bin {env : Env} {lhs rhs : Expr} {op : Operator} {pos : Pos} {k : Value → Bs → Ld → Prop}
    (h : Rn W F d l n (fun _ => eval lhs env) fun a l1 n1 => Rn W F d l1 n1 (fun _ => eval rhs env) fun b l2 n2 => Rn W F d l2 n2 (fun _ => binaryOp op a b) k) : Rn W F d l n (fun _ => eval (.BinOp lhs op rhs pos) env) k :=
  fun A A₀ base h₀ outer s Q S D kQ => wpAny_BinOp (h A A₀ base h₀ outer s _ S D fun a l1 n1 h1 tk1 D1 x1 => x1.go S D1 fun b l2 n2 h2 tk2 D2 x2 => x2.go S D2 kQ)
theorem e_args0 {env : Env} {pos : Pos} {k : List Value → Bs → Ld → Prop} (h : k [] l n) : Rn W F d l n (fun _ => args pos [] env) k :=
  fun _ _ _ _ _ s _ _ D kQ => args_nil (kQ _ _ _ s.heap s.toks D h)
theorem e_args {env : Env} {e : Expr} {rest : List Expr} {pos : Pos} {k : List Value → Bs → Ld → Prop} (h : Rn W F d l n (fun _ => eval e env) fun v l1 n1 => Rn W F d l1 n1 (fun _ => args pos rest env) fun vs => k (v :: vs))
    (he : starEach (e :: rest) env = (false, eval e env) :: starEach rest env := by rfl) : Rn W F d l n (fun _ => args pos (e :: rest) env) k :=
  fun A A₀ base h₀ outer s Q S D kQ => args_cons (h A A₀ base h₀ outer s _ S D fun a l1 n1 h1 tk1 D1 x1 => x1.go S D1 fun b l2 n2 h2 tk2 D2 x2 => kQ _ _ _ _ _ D2 x2) he
theorem e_call {env : Env} {func e : Expr} {rest : List Expr} {pos : Pos} {k : Value → Bs → Ld → Prop}
    (h : Rn W F d l n (fun _ => eval func env) fun f l1 n1 => keepIn W.K f = true ∧ Rn W F d l1 n1 (fun _ => args pos (e :: rest) env) fun vs l2 n2 => Rn W F d l2 n2 (fun _ => call f vs) k)
    (hc : eval (.Call func (e :: rest) [] pos) env = (do let f ← eval func env; callWith pos f [] (backTo pos (starEach (e :: rest) env)) (backToKw pos (keywordEach [] env))) := by rfl)
    (he : starEach (e :: rest) env = (false, eval e env) :: starEach rest env := by rfl) (hp : ((backTo pos (starEach rest env)).any fun x => x.1) = false := by rfl) : Rn W F d l n (fun _ => eval (.Call func (e :: rest) [] pos) env) k :=
  fun A A₀ base h₀ outer s Q S D kQ => Call_ (h A A₀ base h₀ outer s _ S D fun f l1 n1 h1 tk1 D1 x1 => callWith_K S.kin x1.1 (x1.2.go S D1 fun vs l2 n2 h2 tk2 D2 x2 => ⟨S.kin.keeps D2.fr.keep, x2.go S D2 kQ⟩) he hp) hc
end

/-! Ct4 -/
section
variable {w : World} {p : Program} {loose : List Str} {mg mb : Str → Option Value} {d : Nat} {n : Ld}
theorem bind_concat_1 {vl vr : Value} {cx tA gA : Addr} {ck : Int} {l r : Dat} (C : Ctx w n cx ck tA gA) (hl : DatIn n vl l) (hr : DatIn n vr r) (hL : Lt ck l) (hR : Op r) (hz : tws (firstD ck l ++ [opsP ck r]) ≤ 1000) (hn : (firstD ck l).length ≤ 1000) :
    Cl (wd w p loose mg mb) (d + 5) 645 [.ref cx, vl, vr, .none] n fun v n' => Up n n' ∧ DatIn n' v (bindC ck l r) := by
  refine' cl_def [(Str.ofString "cx", .ref cx), (Str.ofString "l", vl), (Str.ofString "r", vr), (Str.ofString "node", .none)] ?ho ?hcd ?hb ?hl (fun L => ?_) ?hcell ?h1 ?h2 ?h3
  walk_at "def"
  refine r_cons (Rn.mono (k := fun fl l' n1 => ∃ b ws m, fl = .next ∧ l' = [(Str.ofString "node", .none), (Str.ofString "r", vr), (Str.ofString "l", vl), (Str.ofString "cx", .ref cx), (Str.ofString "first", .ref b)] ∧
    Up n n1 ∧ (b, tup ws m) ∈ n1 ∧ DatAll n1 ws (firstD ck l) ∧ (∀ d ∈ firstD ck l, Part d) ∧ firstD ck l ≠ []) ?A ?B)
  case B =>
    rintro fl l' n1 ⟨b, ws, m, rfl, rfl, hu, hb, hd, hp, hne⟩
    refine r_cons (r_assign (r_call ?_))
    walk_at "g"
    refine ⟨by walk_at "K", r_args (r_tuple (r_args ?_))⟩
    walk_at "g"
    refine r_args ?_
    walk_at "g"
    refine r_args (r_bin (r_local rfl (r_tuple (r_args (r_call ?_)))))
    walk_at "g"
    refine ⟨by walk_at "K", r_args (r_local rfl (r_args (r_local rfl (r_args (r_local rfl (r_args0 (o_call ((ops_part_1 (C.mono hu.sub) (hr.mono hu.sub) hR).mono ?_))))))))⟩
    rintro v n2 ⟨u2, hv⟩
    have h3 : [v].length ≤ sizeLine := len1
    refine r_args0 ⟨h3, fun E => o_addT (.tail _ (u2.sub _ hb)) (.head _) (fun e => hne (List.eq_nil_of_length_eq_zero (by rw [← hd.length, e]; rfl))) (fun e => nomatch e) (by rw [hd.length]; show _ + 1 ≤ _; omega) fun E2 => r_args0 ⟨len3, fun E3 => r_args0 (o_call ((fold_1 (ds := firstD ck l ++ [opsP ck r]) (.head _) (.tail _ (.head _)) ?_ ?_ (by omega) ?_).mono ?_))⟩⟩
    · exact (hd.mono fun q hq => .tail _ (.tail _ (.tail _ (u2.sub _ hq)))).append (.one (hv.mono fun q hq => .tail _ (.tail _ (.tail _ hq))))
    · intro d hd
      rcases List.mem_append.mp hd with h | h
      · exact hp _ h
      · rw [List.mem_singleton.mp h]; exact hR.part
    · rw [List.length_append]; show _ + 1 ≤ _; omega
    rintro v3 n3 ⟨u3, hv3⟩
    have up : Up n n3 := hu.trans (u2.trans (.trans (.cons (.cons (.cons .refl))) u3))
    rcases foldC_cases (firstD ck l ++ [opsP ck r]) with ⟨l', e, hlen⟩ | e
    · have e2 : bindC ck l r = dS l' := e
      rw [e2]
      rw [e] at hv3
      obtain ⟨a, m, t, u, x, rfl, hm, hx⟩ := din_three hv3
      obtain ⟨tk, rfl⟩ := din_str hx
      refine r_cons (r_if (t_and (t_cmp (r_sub (r_local rfl (r_int fun _ => o_tupI hm (by decide) (by decide) rfl ?_))))))
      walk_at "g"
      refine o_eqI ⟨_, rfl, t_and (t_cmp (r_callB (r_built (by walk_at "K") boot_len ⟨rfl, r_args (r_sub (r_local rfl (r_int fun _ => o_tupI hm (by decide) (by decide) rfl (r_args0 (o_lenS (by omega) fun _ => ?_)))))⟩)))⟩
      walk_at "g"
      refine o_gtI ⟨_, rfl, ?_⟩
      rw [show decide ((65535 : Int) < (l'.length : Int)) = false from decide_eq_false (by omega), if_neg Bool.false_ne_true]
      exact r_nil (r_cons (r_return (r_local rfl ⟨up, hv3⟩)))
    · have e2 : bindC ck l r = _ := e
      rw [e2]
      rw [e] at hv3
      obtain ⟨a, m, t, u, x, rfl, hm, hx⟩ := din_three hv3
      refine r_cons (r_if (t_and (t_cmp (r_sub (r_local rfl (r_int fun _ => o_tupI hm (by decide) (by decide) rfl ?_))))))
      walk_at "g"
      refine o_eqI ⟨_, rfl, ?_⟩
      exact r_nil (r_cons (r_return (r_local rfl ⟨up, hv3⟩)))
  case A =>
    cases hL with
    | cat e hne hp =>
      rename_i ps
      subst e
      obtain ⟨a, m, t, u, x, rfl, hm, hx⟩ := din_three hl
      obtain ⟨b, ws, m', rfl, hb, hw⟩ := din_tup hx
      refine (r_assign (r_ifexp (t_cmp (r_sub (r_local rfl (r_int fun _ => o_tupI hm (by decide) (by decide) rfl ?_))))))
      walk_at "g"
      refine o_eqI ⟨_, rfl, r_sub (r_local rfl (r_int fun _ => o_tupI hm (by decide) (by decide) rfl ?_))⟩
      exact ⟨b, ws, m', rfl, rfl, .refl, hb, hw, hp, hne⟩
    | one hop hc =>
      have hl0 := hl
      obtain ⟨c, k, rr, rfl, hk⟩ := hop.hd
      obtain ⟨a, m, t, u, vs, rfl, hm, hx⟩ := din_head hl
      refine (r_assign (r_ifexp (t_cmp (r_sub (r_local rfl (r_int fun _ => o_tupI hm (by decide) (by decide) rfl ?_))))))
      walk_at "g"
      refine o_eqI ⟨_, rfl, ?_⟩
      rw [show (c == 26) = false from beq_false_of_ne (hc _ _ rfl), if_neg Bool.false_ne_true]
      refine r_tuple (r_args (r_call ?_))
      walk_at "g"
      refine ⟨by walk_at "K", r_args (r_local rfl (r_args (r_local rfl (r_args (r_local rfl (r_args0 (o_call ((ops_part_1 C hl0 hop).mono ?_))))))))⟩
      rintro v n2 ⟨u2, hv⟩
      refine r_args0 ⟨len1, fun E => ?_⟩
      have e1 := first_one (ck := ck) hc
      exact ⟨E, [v], 0, rfl, rfl, u2.trans (.cons .refl), .head _, by rw [e1]; exact .one (hv.mono fun q hq => .tail _ hq), by rw [e1]; intro d hd; rw [List.mem_singleton.mp hd]; exact hop.part, by rw [e1]; exact fun e => nomatch e⟩
end

/-! Ct5 -/
theorem txt_val {n : Ld} {v : Value} {e : Dat} {ck : Int} {T : Str} (h : DatIn n v e) (hi : JoIs ck e) (ht : txj e = some T) :
    ∃ a m t u k xv, v = .ref a ∧ (a, tup [.int 1 t, .int k u, xv] m) ∈ n ∧ (k = 14 ∨ k = 13) ∧ ((xv = .none ∧ T = eps) ∨ ∃ tk, xv = .str T tk) := by
  cases hi with
  | nul e1 e2 =>
    rw [e2] at ht; cases ht; subst e1
    obtain ⟨a, m, t, u, x, rfl, hm, hx⟩ := din_three h
    exact ⟨a, m, t, u, 14, x, rfl, hm, .inl rfl, .inl ⟨din_none hx, rfl⟩⟩
  | txt e1 e2 =>
    rw [e2] at ht; cases ht; subst e1
    obtain ⟨a, m, t, u, x, rfl, hm, hx⟩ := din_three h
    obtain ⟨tk, rfl⟩ := din_str hx
    exact ⟨a, m, t, u, 13, _, rfl, hm, .inr rfl, .inr ⟨tk, rfl⟩⟩
  | emp e1 e2 =>
    rw [e2] at ht; cases ht; subst e1
    obtain ⟨a, m, t, u, x, rfl, hm, hx⟩ := din_three h
    exact ⟨a, m, t, u, 13, x, rfl, hm, .inr rfl, .inl ⟨din_none hx, rfl⟩⟩
  | own _ _ _ e2 _ => rw [e2] at ht; cases ht
  | oth _ _ _ _ _ e2 _ => rw [e2] at ht; cases ht
theorem oth_val {n : Ld} {v : Value} {e : Dat} {ck : Int} (h : DatIn n v e) (hi : JoIs ck e) (ht : txj e = none) :
    ∃ a m t u c k r, v = .ref a ∧ (a, tup (.int c t :: .int k u :: r) m) ∈ n ∧ k ≠ 14 ∧ (c = 1 → k ≠ 13) ∧ k ∈ kinds9 ∧ (((k = 13 ∨ k = 12) ∧ opsP ck e = e) ∨ (k ≠ 13 ∧ k ≠ 12 ∧ opsP ck e = convD ck k e)) := by
  cases hi with
  | nul e1 e2 => rw [e2] at ht; cases ht
  | txt e1 e2 => rw [e2] at ht; cases ht
  | emp e1 e2 => rw [e2] at ht; cases ht
  | own e1 hc hk e2 e3 =>
    subst e1
    obtain ⟨a, m, t, u, vs, rfl, hm, hr⟩ := din_head h
    exact ⟨a, m, t, u, _, _, vs, rfl, hm, by omega, fun e => absurd e hc, by rcases hk with rfl | rfl <;> decide, .inl ⟨hk, e3⟩⟩
  | oth e1 hk h13 h12 h14 e2 e3 =>
    subst e1
    obtain ⟨a, m, t, u, vs, rfl, hm, hr⟩ := din_head h
    exact ⟨a, m, t, u, _, _, vs, rfl, hm, h14, fun _ => h13, hk, .inr ⟨h13, h12, e3⟩⟩
theorem Chg.of (n1 : Ld) {n2 : Ld} {P : Addr} {o o' : Obj} : Chg P o o' (n1 ++ (P, o) :: n2) (n1 ++ (P, o') :: n2) := .app .head n1
section
variable {w : World} {p : Program} {loose : List Str} {mg mb : Str → Option Value} {d : Nat} {n : Ld}
set_option maxHeartbeats 4000000 in
theorem joined_1 {cx tA gA eA : Addr} {ck : Int} {v0 : Value} {evs : List Value} {m : Nat} {e0 : Dat} {es : List Dat} (C : Ctx w n cx ck tA gA) (hE : (eA, listOf (v0 :: evs).toArray m) ∈ n) (h0 : DatIn n v0 e0) (hs : DatAll n evs es)
    (hl : Lj e0) (hj : ∀ e ∈ es, Jo e) (hz : wjs (firstJ e0 ++ es) ≤ 1000) (hn : (firstJ e0 ++ es).length ≤ 1000) :
    Cl (wd w p loose mg mb) (d + 1) 744 [.ref cx, .ref eA] n fun v n' => Up n n' ∧ DatIn n' v (joinD ck e0 es) := by
  refine' cl_def [(Str.ofString "cx", .ref cx), (Str.ofString "es", .ref eA)] ?ho ?hcd ?hb ?hl (fun L => ?_) ?hcell ?h1 ?h2 ?h3
  walk_at "def"
  refine r_cons (r_assign (r_listF (r_args0 ⟨by decide, fun P hP0 => ?_⟩)))
  refine r_cons (r_assign (r_none ?_))
  have hE1 : ∀ (tl : Ld) (o : Obj), (eA, listOf (v0 :: evs).toArray m) ∈ tl ++ (P, o) :: n := fun tl o => List.mem_append.mpr (.inr (.tail _ hE))
  have hevs : evs.length ≤ 1000 := by rw [hs.length]; rw [List.length_append] at hn; omega
  refine r_cons (Rn.mono (k := fun fl l' n1 => ∃ D ws tl, fl = .next ∧ l' = [(Str.ofString "es", .ref eA), (Str.ofString "cx", .ref cx), (Str.ofString "out", .ref P), (Str.ofString "run", .none), (Str.ofString "first", .ref D)] ∧
    n1 = tl ++ (P, listOf ([] : List Value).toArray 0) :: n ∧ (∃ c, (D, listOf ws.toArray c) ∈ tl) ∧ DatAll n ws (firstJ e0) ∧ ∀ e ∈ firstJ e0, Jo e) ?A ?B)
  case A =>
    cases hl with
    | cat e hne hp hkk =>
      rename_i ps
      subst e
      obtain ⟨a, m', t, u, x, rfl, hm, hx⟩ := din_three h0
      obtain ⟨b, ws, m2, rfl, hb, hw⟩ := din_tup hx
      refine r_assign (r_ifexp (t_cmp (r_sub (r_sub (r_local rfl (r_int fun _ => o_lstI (hE1 [] _) (by decide) (by decide) rfl (r_int fun _ => o_tupI (.tail _ hm) (by decide) (by decide) rfl ?_)))))))
      walk_at "g"
      refine o_eqI ⟨_, rfl, r_callT (r_built (by walk_at "K") boot_list ⟨rfl, r_args (r_sub (r_sub (r_local rfl (r_int fun _ => o_lstI (hE1 [] _) (by decide) (by decide) rfl (r_int fun _ => o_tupI (.tail _ hm) (by decide) (by decide) rfl (r_args0 (o_listT (.tail _ hb) ?_ fun D c => ?_)))))))⟩)⟩
      · rw [hw.length, sizeLine_eq]; have : (firstJ (.tuple [.int 26, .int 13, .tuple ps])) = ps := rfl; rw [this, List.length_append] at hn; omega
      · exact ⟨D, ws, [(D, _)], rfl, rfl, rfl, ⟨c, .head _⟩, hw, hp⟩
    | one hop hc =>
      have h00 := h0
      obtain ⟨c, k, rr, rfl, hk⟩ := hop.op.hd
      obtain ⟨a, m', t, u, vs, rfl, hm, hx⟩ := din_head h0
      refine r_assign (r_ifexp (t_cmp (r_sub (r_sub (r_local rfl (r_int fun _ => o_lstI (hE1 [] _) (by decide) (by decide) rfl (r_int fun _ => o_tupI (.tail _ hm) (by decide) (by decide) rfl ?_)))))))
      walk_at "g"
      refine o_eqI ⟨_, rfl, ?_⟩
      rw [show (c == 26) = false from beq_false_of_ne (hc _ _ rfl), if_neg Bool.false_ne_true]
      refine r_list (r_args (r_sub (r_local rfl (r_int fun _ => o_lstI (hE1 [] _) (by decide) (by decide) rfl (r_args0 ⟨len1, fun D => ?_⟩)))))
      refine ⟨D, [.ref a], [(D, _)], rfl, rfl, rfl, ⟨0, .head _⟩, ?_, ?_⟩
      · rw [firstJ_one hc]; exact .one h00
      · rw [firstJ_one hc]; intro e he; rw [List.mem_singleton.mp he]; exact hop
  case B =>
    rintro fl l' n1 ⟨D, ws, tl, rfl, rfl, rfl, ⟨cD, hD⟩, hws, hw⟩
    have hwl : ws.length ≤ 1000 := by rw [hws.length]; rw [List.length_append] at hn; omega
    refine r_cons (r_for (r_bin (r_bin (r_local rfl (r_from (r_local rfl (r_int fun _ => ⟨eA, v0 :: evs, m, _, 1, rfl, rfl, hE1 _ _, by show evs.length + 1 ≤ _; rw [sizeLine_eq]; omega, fun D2 hD2 => ?_⟩)))))))
    refine o_addLF (.tail _ (List.mem_append.mpr (.inl hD))) (.head _) (by show _ + evs.length ≤ _; rw [sizeLine_eq]; omega) fun D3 hD3 => r_listF (r_args (r_none (r_args0 ⟨by decide, fun D4 hD4 => ?_⟩)))
    refine o_addLF (.tail _ (.head _)) (.head _) (by show (ws ++ evs).length + 1 ≤ _; rw [List.length_append, sizeLine_eq]; omega) fun D5 hD5 => ?_
    obtain ⟨n1, hn1⟩ : ∃ n1 : Ld, n1 = (D5, listOf (ws ++ evs ++ [Value.none]).toArray 0) :: (D4, listOf [Value.none].toArray 0) :: (D3, listOf (ws ++ evs).toArray 0) :: (D2, listOf evs.toArray 0) :: tl := ⟨_, rfl⟩
    have hm5 : (D5, listOf (ws ++ evs ++ [Value.none]).toArray 0) ∈ n1 := by rw [hn1]; exact .head _
    have hDP : D5 ≠ P := fun e => by
      have := hD5 (P, listOf ([] : List Value).toArray 0) (.tail _ (.tail _ (.tail _ (List.mem_append.mpr (.inr (.head _))))))
      rw [e] at this
      exact Nat.lt_irrefl _ this
    obtain ⟨its, hits⟩ : ∃ its, its = firstJ e0 ++ es := ⟨_, rfl⟩
    have hvs : DatAll n (ws ++ evs) its := hits ▸ hws.append hs
    have hjo : ∀ e ∈ its, Jo e := fun e he => by rw [hits] at he; exact (List.mem_append.mp he).elim (hw e) (hj e)
    rw [← hits] at hz hn
    obtain ⟨st, hst⟩ : ∃ st : Nat → List Dat × Option Str, st = fun i => if i ≤ its.length then joinF ck (its.take i) else (fls (joinF ck its), none) := ⟨_, rfl⟩
    have stl : ∀ i, (st i).1.length ≤ 2 * its.length + 1 := by
      intro i
      rw [hst]
      dsimp only
      split
      · have := joinF_len ck (its.take i); rw [List.length_take] at this; omega
      · have := fls_len (joinF ck its); have := joinF_len ck its; show (fls (joinF ck its)).length ≤ _; omega
    refine ⟨D5, ws ++ evs ++ [Value.none], fun i lt tl2 n0 => ∃ ovs c rv, n0 = n1 ++ (P, listOf ovs.toArray c) :: n ∧ DatAll (tl2 ++ (n1 ++ n)) ovs (st i).1 ∧ lt.lookup (Str.ofString "out") = some (.ref P) ∧ lt.lookup (Str.ofString "cx") = some (.ref cx) ∧
      lt.lookup (Str.ofString "run") = some rv ∧ TxR (st i).2 rv, rfl, .list (.head _), ⟨[], 0, .none, by rw [hn1]; rfl, ?_, rfl, rfl, rfl, ?_⟩, ?_, ?_⟩
    · rw [hst]; exact .nil
    · rw [hst]; exact .none
    · rintro i v lt tl2 n0 I it hv ⟨ovs, c, rv, rfl, hov, hout, hcx, hrun, hrv⟩ _ _
      have hol : ovs.length ≤ 3000 := by rw [hov.length]; have := stl i; omega
      have hPm : ∀ (add : Ld) (o : Obj), (P, o) ∈ add ++ (tl2 ++ (I, it) :: (n1 ++ (P, o) :: n)) := fun add o => List.mem_append.mpr (.inr (List.mem_append.mpr (.inr (.tail _ (List.mem_append.mpr (.inr (.head _)))))))
      have hchg : ∀ (add : Ld) (o o' : Obj), Chg P o o' (add ++ (tl2 ++ (I, it) :: (n1 ++ (P, o) :: n))) (add ++ (tl2 ++ (I, it) :: (n1 ++ (P, o') :: n))) := fun add o o' => .app (.app (.tail (Chg.of n1)) tl2) add
      have sub : ∀ (add : Ld) (o : Obj), ∀ q ∈ n, q ∈ add ++ (tl2 ++ (I, it) :: (n1 ++ (P, o) :: n)) := fun add o q hq => List.mem_append.mpr (.inr (List.mem_append.mpr (.inr (.tail _ (List.mem_append.mpr (.inr (.tail _ hq)))))))
      have fin : ∀ (lt' : Bs) (add : Ld) (ovs' : List Value) (c' : Nat) (rv' : Value), DatAll (add ++ (tl2 ++ (n1 ++ n))) ovs' (st (i + 1)).1 → lt'.lookup (Str.ofString "out") = some (.ref P) → lt'.lookup (Str.ofString "cx") = some (.ref cx) →
          lt'.lookup (Str.ofString "run") = some rv' → TxR (st (i + 1)).2 rv' →
          ∃ tl3 n3, add ++ (tl2 ++ (I, it) :: (n1 ++ (P, listOf ovs'.toArray c') :: n)) = tl3 ++ (I, it) :: n3 ∧ n3.map (·.1) = ((D5, listOf (ws ++ evs ++ [Value.none]).toArray 0) :: (D4, listOf [Value.none].toArray 0) :: (D3, listOf (ws ++ evs).toArray 0) :: (D2, listOf evs.toArray 0) :: (tl ++ (P, listOf ([] : List Value).toArray 0) :: n)).map (·.1) ∧ (∀ o, (D5, o) ∈ n1 ++ (P, listOf ovs.toArray c) :: n → (D5, o) ∈ n3) ∧
            ∃ ovs c rv, n3 = n1 ++ (P, listOf ovs.toArray c) :: n ∧ DatAll (tl3 ++ (n1 ++ n)) ovs (st (i + 1)).1 ∧ lt'.lookup (Str.ofString "out") = some (.ref P) ∧ lt'.lookup (Str.ofString "cx") = some (.ref cx) ∧
              lt'.lookup (Str.ofString "run") = some rv ∧ TxR (st (i + 1)).2 rv := by
        intro lt' add ovs' c' rv' h1 h2 h3 h4 h5
        refine ⟨add ++ tl2, _, (List.append_assoc ..).symm, by rw [hn1]; simp, fun o ho => ?_, ovs', c', rv', rfl, by rw [List.append_assoc]; exact h1, h2, h3, h4, h5⟩
        rcases List.mem_append.mp ho with ho | ho
        · exact List.mem_append.mpr (.inl ho)
        · rcases List.mem_cons.mp ho with e | ho
          · exact absurd (congrArg Prod.fst e) hDP
          · exact List.mem_append.mpr (.inr (.tail _ ho))
      have hlt : i < (ws ++ evs ++ [Value.none]).length := (List.getElem?_eq_some_iff.mp hv).1
      have hlen : (ws ++ evs).length = its.length := hvs.length
      have hi2 : i ≤ its.length := by rw [List.length_append, hlen] at hlt; exact Nat.le_of_lt_succ hlt
      have hsti : st i = joinF ck (its.take i) := by rw [hst]; exact if_pos hi2
      by_cases hi : i < its.length
      · have hi' : i < (ws ++ evs).length := by rw [hlen]; exact hi
        rw [List.getElem?_append_left hi'] at hv
        obtain ⟨dd, hdd, hdi⟩ : ∃ dd, its[i]? = some dd ∧ DatIn n v dd := by
          obtain ⟨v', h1, h2⟩ := hvs.get hi
          rw [hv] at h1; cases h1
          exact ⟨_, List.getElem?_eq_getElem hi, h2⟩
        have hJ := (hjo dd (List.mem_of_getElem? hdd)).is ck
        have hst1 : st (i + 1) = stpJ ck (st i) dd := by
          rw [hsti, hst]
          dsimp only
          rw [if_pos (show i + 1 ≤ its.length from hi), List.take_add_one, hdd]
          exact joinF_snoc _ _ _
        cases ht : txj dd with
        | some T =>
          obtain ⟨a, m', t, u, k, xv, rfl, hm, hk, hx⟩ := txt_val hdi hJ ht
          have hm0 := sub [] (listOf ovs.toArray c) _ hm
          have e1 := hst1.trans (stpJ_txt ht)
          refine r_cons (r_if (Rn.mono (k := fun b l2 n2 => b = true ∧ l2 = sto (Str.ofString "e") (.ref a) lt ∧ n2 = tl2 ++ (I, it) :: (n1 ++ (P, listOf ovs.toArray c) :: n)) ?T ?U))
          case T =>
            refine t_and (t_cmp (r_local lk0 (r_none (o_isNot rfl ⟨_, rfl, t_and (t_or (t_cmp (r_sub (r_local lk0 (r_int fun _ => o_tupI hm0 (by decide) (by decide) rfl ?_)))))⟩))))
            walk_at "g"
            refine o_eqI ⟨_, rfl, ?_⟩
            rcases hk with rfl | rfl
            · exact t_and0 ⟨rfl, rfl, rfl⟩
            · refine t_or (t_and (t_cmp (r_sub (r_local lk0 (r_int fun _ => o_tupI hm0 (by decide) (by decide) rfl ?_)))))
              walk_at "g"
              refine o_eqI ⟨_, rfl, t_and (t_cmp (r_sub (r_local lk0 (r_int fun _ => o_tupI hm0 (by decide) (by decide) rfl ?_))))⟩
              walk_at "g"
              exact o_eqI ⟨_, rfl, t_and0 (t_and0 ⟨rfl, rfl, rfl⟩)⟩
          case U =>
            rintro _ _ _ ⟨rfl, rfl, rfl⟩
            refine r_cons (r_assign (r_bin (Rn.mono (k := fun x l2 n2 => ∃ t, x = .str ((st i).2.getD eps) t ∧ l2 = sto (Str.ofString "e") (.ref a) lt ∧ n2 = tl2 ++ (I, it) :: (n1 ++ (P, listOf ovs.toArray c) :: n)) ?L ?R)))
            case L =>
              refine r_ifexp (t_cmp (r_local (lkS hrun) (r_none (o_is hrv.nMay ⟨_, rfl, ?_⟩))))
              cases h2 : (st i).2 with
              | none =>
                rw [h2] at hrv
                cases hrv
                exact r_str fun _ => ⟨_, rfl, rfl, rfl⟩
              | some s =>
                rw [h2] at hrv
                cases hrv
                exact r_local (lkS hrun) ⟨_, rfl, rfl, rfl⟩
            case R =>
              rintro x l2 n2 ⟨t2, rfl, rfl, rfl⟩
              refine Rn.mono (k := fun y l3 n3 => ∃ t, y = .str T t ∧ l3 = sto (Str.ofString "e") (.ref a) lt ∧ n3 = tl2 ++ (I, it) :: (n1 ++ (P, listOf ovs.toArray c) :: n)) ?M ?N
              case M =>
                refine r_ifexp (t_cmp (r_sub (r_local lk0 (r_int fun _ => o_tupI hm0 (by decide) (by decide) rfl (r_none (o_is ?_ ⟨_, rfl, ?_⟩))))))
                · rcases hx with ⟨rfl, rfl⟩ | ⟨tk, rfl⟩ <;> rfl
                · rcases hx with ⟨rfl, rfl⟩ | ⟨tk, rfl⟩
                  · exact r_str fun _ => ⟨_, rfl, rfl, rfl⟩
                  · exact r_sub (r_local lk0 (r_int fun _ => o_tupI hm0 (by decide) (by decide) rfl ⟨_, rfl, rfl, rfl⟩))
              case N =>
                rintro y l3 n3 ⟨t3, rfl, rfl, rfl⟩
                refine o_addS ?_ fun tk => r_cons (r_continue ?_)
                · have h1 := joinF_run ck (its.take (i + 1)) ((st i).2.getD eps ++ T) (by
                    have : st (i + 1) = joinF ck (its.take (i + 1)) := by rw [hst]; exact if_pos hi
                    rw [← this, e1])
                  have h2 := wjs_take its (i + 1)
                  rw [str_len] at h1
                  rw [sizeLine_eq]; omega
                · refine fin _ [] ovs c (.str ((st i).2.getD eps ++ T) tk) ?_ ?_ ?_ ?_ ?_
                  · rw [e1]; exact hov
                  · exact lkS (lkS hout)
                  · exact lkS (lkS hcx)
                  · exact lk0
                  · rw [e1]; exact .some _ _
        | none =>
          obtain ⟨a, m', t, u, cc, k, r, rfl, hm, h14, hc1, hk9, hops⟩ := oth_val hdi hJ ht
          have hm0 := sub [] (listOf ovs.toArray c) _ hm
          have e1 := hst1.trans (stpJ_oth ht)
          refine r_cons (Rn.mono (k := fun fl l2 n2 => fl = .next ∧ l2 = sto (Str.ofString "e") (.ref a) lt ∧ n2 = tl2 ++ (I, it) :: (n1 ++ (P, listOf ovs.toArray c) :: n)) ?S1 ?S1B)
          case S1 =>
            refine r_if (t_and (t_cmp (r_local lk0 (r_none (o_isNot rfl ⟨_, rfl, t_and (t_or (t_cmp (r_sub (r_local lk0 (r_int fun _ => o_tupI hm0 (by decide) (by decide) rfl ?_)))))⟩)))))
            walk_at "g"
            refine o_eqI ⟨_, rfl, ?_⟩
            rw [show (k == 14) = false from beq_false_of_ne h14, if_neg Bool.false_ne_true]
            refine t_or (t_and (t_cmp (r_sub (r_local lk0 (r_int fun _ => o_tupI hm0 (by decide) (by decide) rfl ?_)))))
            walk_at "g"
            refine o_eqI ⟨_, rfl, ?_⟩
            by_cases hc : cc = 1
            · rw [show (cc == 1) = true by rw [hc]; rfl, if_pos rfl]
              refine t_and (t_cmp (r_sub (r_local lk0 (r_int fun _ => o_tupI hm0 (by decide) (by decide) rfl ?_))))
              walk_at "g"
              refine o_eqI ⟨_, rfl, ?_⟩
              rw [show (k == 13) = false from beq_false_of_ne (hc1 hc), if_neg Bool.false_ne_true]
              exact t_or0 (r_nil ⟨rfl, rfl, rfl⟩)
            · rw [show (cc == 1) = false from beq_false_of_ne hc, if_neg Bool.false_ne_true]
              exact t_or0 (r_nil ⟨rfl, rfl, rfl⟩)
          case S1B =>
            rintro _ _ _ ⟨rfl, rfl, rfl⟩
            refine r_cons (Rn.mono (k := fun fl l2 n2 => ∃ add ovs' c', fl = .next ∧ l2.lookup (Str.ofString "e") = some (.ref a) ∧ l2.lookup (Str.ofString "out") = some (.ref P) ∧ l2.lookup (Str.ofString "cx") = some (.ref cx) ∧ l2.lookup (Str.ofString "run") = some .none ∧
                n2 = add ++ (tl2 ++ (I, it) :: (n1 ++ (P, listOf ovs'.toArray c') :: n)) ∧ DatAll (add ++ (tl2 ++ (n1 ++ n))) ovs' (fls (st i))) ?SA ?SB)
            case SA =>
              refine r_if (t_cmp (r_local (lkS hrun) (r_none (o_isNot hrv.nMay ⟨_, rfl, ?_⟩))))
              cases h2 : (st i).2 with
              | none =>
                rw [h2] at hrv
                cases hrv
                refine r_nil ⟨[], ovs, c, rfl, lk0, lkS hout, lkS hcx, lkS hrun, rfl, ?_⟩
                unfold fls; rw [h2]; exact hov
              | some s =>
                rw [h2] at hrv
                cases hrv
                refine r_cons (r_expr (r_meth (r_local (lkS hout) (g_list (hPm [] _) slot_list_append rfl (m_built (r_args (r_tuple (r_args ?_))))))))
                walk_at "g"
                refine r_args ?_
                walk_at "g"
                refine r_args (r_local (lkS hrun) (r_args0 ⟨len3, fun E => r_args0 (o_append (hchg [(E, _)] _ _) (by rw [sizeLine_eq]; omega) ?_)⟩))
                refine r_cons (r_assign (r_none (r_nil ?_)))
                refine ⟨[(E, _)], ovs ++ [.ref E], c + 1, rfl, lkS lk0, lkS (lkS hout), lkS (lkS hcx), lk0, rfl, ?_⟩
                unfold fls; rw [h2]
                exact DatAll.append (hov.mono fun q hq => .tail _ hq) (.one (din_dS (.head _)))
            case SB =>
            rintro fl l2 n2 ⟨add, ovs', c', rfl, he2, hout2, hcx2, hrun2, rfl, hov2⟩
            have hmx := sub add (listOf ovs'.toArray c') _ hm
            refine r_cons (r_if (t_cmp (r_local he2 (r_none (o_isNot rfl ⟨_, rfl, ?_⟩)))))
            refine r_cons (r_if (t_cmp (r_sub (r_local he2 (r_int fun _ => o_tupI hmx (by decide) (by decide) rfl (r_tuple (r_args ?_)))))))
            walk_at "g"
            refine r_args ?_
            walk_at "g"
            refine r_args0 ⟨len2, fun E => o_notinT (.head _) ⟨_, rfl, ?_⟩⟩
            have hovl : ovs'.length ≤ 3001 := by rw [hov2.length]; have := fls_len (st i); have := stl i; omega
            rcases hops with ⟨hk, hops⟩ | ⟨h13, h12, hops⟩
            · rw [show (!((13 : Int) == k || (12 : Int) == k)) = false by rcases hk with rfl | rfl <;> rfl, if_neg Bool.false_ne_true]
              refine r_nil ?_
              refine r_cons (r_expr (r_meth (r_local hout2 (g_list (.tail _ (hPm add _)) slot_list_append rfl (m_built (r_args (r_local he2 (r_args0 (o_append (hchg ((E, _) :: add) _ _) (by rw [sizeLine_eq]; omega) ?_)))))))))
              refine r_nil (r_nil ?_)
              refine fin _ ((E, _) :: add) (ovs' ++ [.ref a]) (c' + 1) .none ?_ ?_ ?_ ?_ ?_
              rotate_left
              · exact hout2
              · exact hcx2
              · exact hrun2
              · rw [e1]; exact .none
              · rw [e1, hops]
                exact DatAll.append (hov2.mono fun q hq => .tail _ hq) (.one (hdi.mono fun q hq => .tail _ (List.mem_append.mpr (.inr (List.mem_append.mpr (.inr (List.mem_append.mpr (.inr hq))))))))
            · rw [show (!((13 : Int) == k || (12 : Int) == k)) = true by rw [show ((13 : Int) == k) = false from beq_false_of_ne (Ne.symm h13), show ((12 : Int) == k) = false from beq_false_of_ne (Ne.symm h12)]; rfl, if_pos rfl]
              obtain ⟨dx, esx, mx, dt, et, mt, tok, DD, q1, q2, q3, q3', q4, q5, q5', q6, q7⟩ := (C.mono (fun q hq => List.mem_cons_of_mem (E, tup [.int 13 _, .int 12 _] 0) (sub add (listOf ovs'.toArray c') q hq))).it
              refine r_cons (r_assign (r_tuple (r_args ?_)))
              walk_at "g"
              refine r_args ?_
              walk_at "g"
              refine r_args (r_local he2 (r_args (r_sub (r_attr (r_attr (r_local hcx2 ?_))))))
              refine o_attr q1 (by walk_at "K") (by walk_at "K") (by walk_at "K") (by walk_at "K") q2 rfl ?_
              refine o_attr q4 (by walk_at "K") (by walk_at "K") (by walk_at "K") (by walk_at "K") q5 rfl ?_
              refine r_tuple (r_args (r_sub (r_local he2 (r_int fun _ => o_tupI (.tail _ hmx) (by decide) (by decide) rfl (r_args ?_)))))
              walk_at "g"
              refine r_args0 ⟨len2, fun E2 => o_turn (o_ditem (TupTab.mono (fun q hq => .tail _ hq) q6) (.head _) (q7 k hk9) fun _ => r_args (r_attr (r_local hcx2 ?_)))⟩
              refine o_attr (q1.mono fun q hq => .tail _ hq) (by walk_at "K") (by walk_at "K") (by walk_at "K") (by walk_at "K") q3 rfl (r_args0 ⟨by show 5 ≤ _; decide, fun E3 => r_nil ?_⟩)
              refine r_cons (r_expr (r_meth (r_local (lkS hout2) (g_list (.tail _ (.tail _ (.tail _ (hPm add _)))) slot_list_append rfl (m_built (r_args (r_local lk0 (r_args0 (o_append (hchg ((E3, _) :: (E2, _) :: (E, _) :: add) _ _) (by rw [sizeLine_eq]; omega) ?_)))))))))
              refine r_nil (r_nil ?_)
              refine fin _ ((E3, _) :: (E2, _) :: (E, _) :: add) (ovs' ++ [.ref E3]) (c' + 1) .none ?_ ?_ ?_ ?_ ?_
              rotate_left
              · exact lkS hout2
              · exact lkS hcx2
              · exact lkS hrun2
              · rw [e1]; exact .none
              · rw [e1, hops]
                exact DatAll.append (hov2.mono fun q hq => .tail _ (.tail _ (.tail _ hq))) (.one (.tuple (.head _) (.cons (.int _ _) (.cons (.int _ _) (.cons (hdi.mono fun q hq => .tail _ (.tail _ (.tail _ (List.mem_append.mpr (.inr (List.mem_append.mpr (.inr (List.mem_append.mpr (.inr hq)))))))))  (.cons (.int _ _) (.cons (.int _ _) .nil)))))))
      · obtain rfl : i = its.length := by omega
        have hvn : v = .none := by
          rw [List.getElem?_append_right (by rw [hlen]; exact Nat.le_refl _), hlen, Nat.sub_self] at hv
          exact (Option.some.inj hv).symm
        subst hvn
        have e1 : st (its.length + 1) = (fls (st its.length), none) := by
          rw [hsti, List.take_length, hst]
          exact if_neg (by omega)
        refine r_cons (r_if (t_and (t_cmp (r_local lk0 (r_none (o_isNot rfl ⟨_, rfl, ?_⟩))))))
        refine r_nil ?_
        refine r_cons (Rn.mono (k := fun fl l2 n2 => ∃ add ovs' c', fl = .next ∧ l2.lookup (Str.ofString "e") = some .none ∧ l2.lookup (Str.ofString "out") = some (.ref P) ∧ l2.lookup (Str.ofString "cx") = some (.ref cx) ∧ l2.lookup (Str.ofString "run") = some .none ∧
            n2 = add ++ (tl2 ++ (I, it) :: (n1 ++ (P, listOf ovs'.toArray c') :: n)) ∧ DatAll (add ++ (tl2 ++ (n1 ++ n))) ovs' (fls (st its.length))) ?SA ?SB)
        case SA =>
          refine r_if (t_cmp (r_local (lkS hrun) (r_none (o_isNot hrv.nMay ⟨_, rfl, ?_⟩))))
          cases h2 : (st its.length).2 with
          | none =>
            rw [h2] at hrv
            cases hrv
            refine r_nil ⟨[], ovs, c, rfl, lk0, lkS hout, lkS hcx, lkS hrun, rfl, ?_⟩
            unfold fls; rw [h2]; exact hov
          | some s =>
            rw [h2] at hrv
            cases hrv
            refine r_cons (r_expr (r_meth (r_local (lkS hout) (g_list (hPm [] _) slot_list_append rfl (m_built (r_args (r_tuple (r_args ?_))))))))
            walk_at "g"
            refine r_args ?_
            walk_at "g"
            refine r_args (r_local (lkS hrun) (r_args0 ⟨len3, fun E => r_args0 (o_append (hchg [(E, _)] _ _) (by rw [sizeLine_eq]; omega) ?_)⟩))
            refine r_cons (r_assign (r_none (r_nil ?_)))
            refine ⟨[(E, _)], ovs ++ [.ref E], c + 1, rfl, lkS lk0, lkS (lkS hout), lkS (lkS hcx), lk0, rfl, ?_⟩
            unfold fls; rw [h2]
            exact DatAll.append (hov.mono fun q hq => .tail _ hq) (.one (din_dS (.head _)))
        case SB =>
        rintro fl l2 n2 ⟨add, ovs', c', rfl, he2, hout2, hcx2, hrun2, rfl, hov2⟩
        refine r_cons (r_if (t_cmp (r_local he2 (r_none (o_isNot rfl ⟨_, rfl, ?_⟩)))))
        refine r_nil (r_nil ?_)
        refine fin _ add ovs' c' .none ?_ ?_ ?_ ?_ ?_
        · rw [e1]; exact hov2
        · exact hout2
        · exact hcx2
        · exact hrun2
        · rw [e1]; exact .none
    · rintro lt tl2 n0 ⟨ovs, c, rv, rfl, hov, hout, hcx, hrun, hrv⟩
      have hlen : (ws ++ evs ++ [Value.none]).length = its.length + 1 := by rw [List.length_append, hvs.length]; rfl
      have e1 : st (ws ++ evs ++ [Value.none]).length = (fls (joinF ck its), none) := by
        rw [hlen, hst]
        exact if_neg (by omega)
      rw [e1] at hov
      have hol : ovs.length ≤ 3000 := by rw [hov.length]; have := fls_len (joinF ck its); have := joinF_len ck its; show (fls (joinF ck its)).length ≤ _; omega
      have hPm : (P, listOf ovs.toArray c) ∈ tl2 ++ (n1 ++ (P, listOf ovs.toArray c) :: n) := List.mem_append.mpr (.inr (List.mem_append.mpr (.inr (.head _))))
      have sub : ∀ q ∈ tl2 ++ (n1 ++ n), q ∈ tl2 ++ (n1 ++ (P, listOf ovs.toArray c) :: n) := by
        intro q hq
        rcases List.mem_append.mp hq with hq | hq
        · exact List.mem_append.mpr (.inl hq)
        · rcases List.mem_append.mp hq with hq | hq
          · exact List.mem_append.mpr (.inr (List.mem_append.mpr (.inl hq)))
          · exact List.mem_append.mpr (.inr (List.mem_append.mpr (.inr (.tail _ hq))))
      have up : Up n (tl2 ++ (n1 ++ (P, listOf ovs.toArray c) :: n)) := .app tl2 (.app n1 (.cons .refl))
      have hjd : joinD ck e0 es = joinC (fls (joinF ck its)) := by unfold joinD; rw [hits]
      rw [hjd]
      dsimp only at hov
      have hhd := fls_hd (joinF_hd ck its hjo)
      generalize fls (joinF ck its) = out at *
      refine r_cons (r_return (r_ifexp (t_and (t_cmp (r_callB (r_built (by walk_at "K") boot_len ⟨rfl, r_args (r_local hout (r_args0 (o_lenL hPm (by omega) fun _ => r_int fun _ => o_eqI ⟨_, rfl, ?_⟩)))⟩))))))
      by_cases h1 : out.length = 1
      · obtain ⟨x, rfl⟩ := List.length_eq_one_iff.mp h1
        rw [show ((ovs.length : Int) == 1) = true by rw [hov.length]; rfl, if_pos rfl]
        obtain ⟨c', q, rfl⟩ := hhd x (.head _)
        have hov0 := hov
        obtain ⟨xv, r', rfl, hx, hr'⟩ := dall_cons hov
        cases hr'
        have hx0 := hx
        obtain ⟨a, vs, m', rfl, hm, hvs'⟩ := din_tup hx
        obtain ⟨cv, r2, rfl, hcv, _⟩ := dall_cons hvs'
        obtain ⟨tc, rfl⟩ := din_int hcv
        refine t_and (t_cmp (r_sub (r_sub (r_local hout (r_int fun _ => o_lstI hPm (by decide) (by decide) rfl (r_int fun _ => o_tupI (sub _ hm) (by decide) (by decide) rfl ?_))))))
        walk_at "g"
        refine o_eqI ⟨_, rfl, ?_⟩
        by_cases hc : c' = 1
        · rw [show (c' == 1) = true by rw [hc]; rfl, if_pos rfl]
          refine t_and0 (r_sub (r_local hout (r_int fun _ => o_lstI hPm (by decide) (by decide) rfl ?_)))
          refine ⟨up, ?_⟩
          have : joinC [.tuple (.int c' :: q)] = .tuple (.int c' :: q) := by unfold joinC; exact if_pos hc
          rw [this]
          exact hx0.mono sub
        · rw [show (c' == 1) = false from beq_false_of_ne hc, if_neg Bool.false_ne_true]
          have : joinC [.tuple (.int c' :: q)] = .tuple [.int 26, .int 13, .tuple [.tuple (.int c' :: q)]] := by unfold joinC; exact if_neg hc
          rw [this]
          refine r_tuple (r_args ?_)
          walk_at "g"
          refine r_args ?_
          walk_at "g"
          exact r_args (r_callT (r_built (by walk_at "K") boot_tuple ⟨rfl, r_args (r_local hout (r_args0 (o_tupleL hPm (by omega) fun E => r_args0 ⟨len3, fun E2 => ⟨.cons (.cons up), .tuple (.head _) (.cons (.int _ _) (.cons (.int _ _) (.cons (.tuple (.tail _ (.head _)) (hov0.mono fun q hq => .tail _ (.tail _ (sub q hq)))) .nil)))⟩⟩)))⟩))
      · rw [show ((ovs.length : Int) == 1) = false by rw [hov.length]; simp; omega, if_neg Bool.false_ne_true]
        have : joinC out = .tuple [.int 26, .int 13, .tuple out] := by
          unfold joinC
          split
          · exact absurd rfl h1
          · rfl
        rw [this]
        refine r_tuple (r_args ?_)
        walk_at "g"
        refine r_args ?_
        walk_at "g"
        exact r_args (r_callT (r_built (by walk_at "K") boot_tuple ⟨rfl, r_args (r_local hout (r_args0 (o_tupleL hPm (by omega) fun E => r_args0 ⟨len3, fun E2 => ⟨.cons (.cons up), .tuple (.head _) (.cons (.int _ _) (.cons (.int _ _) (.cons (.tuple (.tail _ (.head _)) (hov.mono fun q hq => .tail _ (.tail _ (sub q hq)))) .nil)))⟩⟩)))⟩))
end

/-! Ct6 -/
theorem at_of {vs : List Value} {i : Int} (h0 : 0 ≤ i) (h1 : i < vs.length) : ∃ x, vs[i.toNat]? = some x ∧ x ∈ vs :=
  let h : i.toNat < vs.length := by omega
  ⟨_, List.getElem?_eq_getElem h, List.getElem_mem h⟩
theorem fm_pos {a b : Int} (h : 0 < b) : 0 ≤ a.fmod b ∧ a.fmod b < b := ⟨Int.fmod_nonneg_of_pos a h, Int.fmod_lt_of_pos a h⟩
abbrev texts : List Value := [.str "" 1396, .str "a" 1397, .str "b c" 1398, .str "d" 1399, .none]
theorem texts_K (P : Params) : (K P).lookup 737 = some (tup texts 0) := by kernel_rfl
theorem texts_is {n : Ld} {x : Value} (h : x ∈ texts) : (DatIn n x .none ∧ x = .none) ∨ ∃ s t, x = .str s t ∧ Tx s := by
  simp only [List.mem_cons, List.not_mem_nil, or_false] at h
  rcases h with rfl | rfl | rfl | rfl | rfl
  · exact .inr ⟨_, _, rfl, by decide, by decide +kernel⟩
  · exact .inr ⟨_, _, rfl, by decide, by decide +kernel⟩
  · exact .inr ⟨_, _, rfl, by decide, by decide +kernel⟩
  · exact .inr ⟨_, _, rfl, by decide, by decide +kernel⟩
  · exact .inl ⟨.none, rfl⟩
/-- the pool -/
def PoolIs (n : Ld) (a : Addr) : Prop := ∃ (vs : List Value) (m : Nat), (a, listOf vs.toArray m) ∈ n ∧ vs.length = 8 ∧ ∀ x ∈ vs, ∃ (k : Int) (t : Tok), x = Value.int k t ∧ k ∈ kinds9 ∧ k ≠ 14
theorem PoolIs.mono {n n' : Ld} {a : Addr} (h : ∀ q ∈ n, q ∈ n') (p : PoolIs n a) : PoolIs n' a := let ⟨vs, m, h1, h2⟩ := p; ⟨vs, m, h _ h1, h2⟩
section
variable {w : World} {p : Program} {loose : List Str} {mg mb : Str → Option Value} {d : Nat} {n : Ld}
set_option maxHeartbeats 4000000 in
theorem law_operand_1 {pA : Addr} {r at_ : Int} {t u : Tok} (hP : PoolIs n pA) :
    Cl (wd w p loose mg mb) (d + 1) 751 [.ref pA, .int r t, .int at_ u] n fun v n' => ∃ tl, n' = tl ++ n ∧ ∃ e, DatIn tl v e ∧ LawOp e := by
  refine' cl_def [(Str.ofString "pool", .ref pA), (Str.ofString "r", .int r t), (Str.ofString "at", .int at_ u)] ?ho ?hcd ?hb ?hl (fun L => ?_) ?hcell ?h1 ?h2 ?h3
  walk_at "def"
  refine r_cons (r_assign (r_bin (r_local rfl (r_int fun _ => o_modI (by decide) fun ts => ?_))))
  obtain ⟨s0, s8⟩ := fm_pos (a := r) (b := 8) (by decide)
  refine r_cons (r_assign (r_bin (r_local rfl (r_int fun _ => o_divI (by decide) (PyProof.noPylong_small (by decide)) fun tr => ?_))))
  generalize r.fmod 8 = srt at *
  generalize r.fdiv 8 = q
  have text : ∀ {Fx : FI} {lx : Bs} {nx : Ld} {e1 e2 : Expr} {pos : Pos} {i : Int} {ti : Tok} {kx : Value → Bs → Ld → Prop}, 0 ≤ i → i < 5 → (∀ x, ((DatIn n x .none ∧ x = .none) ∨ ∃ s t, x = .str s t ∧ Tx s) → kx x lx nx) →
      (subscripted e2 false (.ref 737) (.int i ti) = operate [.ref 737, .int i ti] (getItem (.ref 737) (.int i ti))) → Rn (wd w p loose mg mb) Fx d lx nx (fun _ => subscriptTail e1 e2 (.ref 737) (.int i ti)) kx := by
    intro Fx lx nx e1 e2 pos i ti kx h0 h5 hk hs
    obtain ⟨x, hx, hm⟩ := at_of (vs := texts) h0 h5
    exact o_ktupI (texts_K w.params) h0 (by omega) hx (hk x (texts_is hm)) hs
  refine r_cons (r_if (t_cmp (r_local rfl (r_int fun _ => o_ltI ⟨_, rfl, ?_⟩))))
  by_cases h3 : srt < 3
  · rw [decide_eq_true h3, if_pos rfl]
    refine r_cons (r_return (r_tuple (r_args ?_)))
    walk_at "g"
    refine r_args ?_
    walk_at "g"
    refine r_args (r_sub ?_)
    walk_at "g"
    refine r_bin (r_local rfl (r_int fun _ => o_modI (by decide) fun ti => ?_))
    obtain ⟨i0, i5⟩ := fm_pos (a := q) (b := 5) (by decide)
    refine text (pos := ⟨0, 0, 0, 0⟩) i0 i5 (fun x hx => ?_) (by with_unfolding_all rfl)
    refine r_args0 ⟨len3, fun E => ?_⟩
    rcases hx with ⟨_, rfl⟩ | ⟨s, t, rfl, hs⟩
    · exact ⟨[(E, _)], rfl, _, .tuple (.head _) (.cons (.int _ _) (.cons (.int _ _) (.cons .none .nil))), law_emp⟩
    · exact ⟨[(E, _)], rfl, _, .tuple (.head _) (.cons (.int _ _) (.cons (.int _ _) (.cons (.str _ _) .nil))), law_txt hs⟩
  · rw [decide_eq_false h3, if_neg Bool.false_ne_true]
    refine r_nil (r_cons (r_if (t_cmp (r_local rfl (r_int fun _ => o_eqI ⟨_, rfl, ?_⟩)))))
    by_cases h33 : srt = 3
    · rw [show (srt == 3) = true by rw [h33]; rfl, if_pos rfl]
      refine r_cons (r_return (r_tuple (r_args ?_)))
      walk_at "g"
      refine r_args ?_
      walk_at "g"
      exact r_args (r_none (r_args0 ⟨len3, fun E => ⟨[(E, _)], rfl, _, .tuple (.head _) (.cons (.int _ _) (.cons (.int _ _) (.cons .none .nil))), law_nul⟩⟩))
    · rw [show (srt == 3) = false from beq_false_of_ne h33, if_neg Bool.false_ne_true]
      refine r_nil (r_cons (r_if (t_cmp (r_local rfl (r_int fun _ => o_eqI ⟨_, rfl, ?_⟩)))))
      by_cases h4 : srt = 4
      · rw [show (srt == 4) = true by rw [h4]; rfl, if_pos rfl]
        refine r_cons (r_return (r_tuple (r_args ?_)))
        walk_at "g"
        refine r_args (r_sub (r_tuple (r_args ?_)))
        walk_at "g"
        refine r_args ?_
        walk_at "g"
        refine r_args ?_
        walk_at "g"
        refine r_args0 ⟨len3, fun E => r_bin (r_local rfl (r_int fun _ => o_modI (by decide) fun ti => ?_))⟩
        obtain ⟨i0, i3⟩ := fm_pos (a := q) (b := 3) (by decide)
        obtain ⟨x, hx, hm⟩ := at_of (vs := [.int 7 _, .int 2 _, .int 1 _]) i0 i3
        refine o_tupI (.head _) i0 (by omega) hx ?_
        refine r_args (r_bin (r_bin (r_local rfl (r_int fun _ => o_divI (by decide) (PyProof.noPylong_small (by decide)) fun _ => r_int fun _ => o_modI (by decide) fun _ => r_args0 ⟨?_, fun E2 => ?_⟩))))
        · exact len3
        · have hxk : ∃ k t, x = .int k t ∧ (k = 7 ∨ k = 2 ∨ k = 1) := by
            simp only [List.mem_cons, List.not_mem_nil, or_false] at hm
            rcases hm with rfl | rfl | rfl
            · exact ⟨_, _, rfl, .inl rfl⟩
            · exact ⟨_, _, rfl, .inr (.inl rfl)⟩
            · exact ⟨_, _, rfl, .inr (.inr rfl)⟩
          obtain ⟨k, tk, rfl, hk⟩ := hxk
          exact ⟨[(E2, _), (E, _)], rfl, _, .tuple (.head _) (.cons (.int _ _) (.cons (.int _ _) (.cons (.int _ _) .nil))), law_num hk⟩
      · rw [show (srt == 4) = false from beq_false_of_ne h4, if_neg Bool.false_ne_true]
        refine r_nil (r_cons (r_if (t_cmp (r_local rfl (r_int fun _ => o_eqI ⟨_, rfl, ?_⟩)))))
        by_cases h5 : srt = 5
        · rw [show (srt == 5) = true by rw [h5]; rfl, if_pos rfl]
          refine r_cons (r_assign (r_tuple (r_args ?_)))
          walk_at "g"
          refine r_args ?_
          walk_at "g"
          refine r_args (r_sub ?_)
          walk_at "g"
          refine r_bin (r_bin (r_local rfl (r_int fun _ => o_divI (by decide) (PyProof.noPylong_small (by decide)) fun _ => r_int fun _ => o_modI (by decide) fun ti => ?_)))
          obtain ⟨i0, i4⟩ := fm_pos (a := q.fdiv 5) (b := 4) (by decide)
          refine text (pos := ⟨0, 0, 0, 0⟩) i0 (by omega) (fun x hx => ?_) (by with_unfolding_all rfl)
          refine r_args0 ⟨len3, fun E => ?_⟩
          obtain ⟨a, ha, hl, hk, ok⟩ : ∃ a, DatIn [(E, tup [.int 1 _, .int 13 _, x] 0)] (.ref E) a ∧ LawOp a ∧ kindOf a = 13 ∧ kqdOk 3 a = true := by
            rcases hx with ⟨_, rfl⟩ | ⟨s, t, rfl, hs⟩
            · exact ⟨_, .tuple (.head _) (.cons (.int _ _) (.cons (.int _ _) (.cons .none .nil))), law_emp, rfl, rfl⟩
            · exact ⟨_, .tuple (.head _) (.cons (.int _ _) (.cons (.int _ _) (.cons (.str _ _) .nil))), law_txt hs, rfl, ok_txt hs⟩
          refine r_cons (r_return (r_tuple (r_args ?_)))
          walk_at "g"
          refine r_args ?_
          walk_at "g"
          refine r_args (r_ifexp (t_cmp (r_bin (r_local rfl (r_int fun _ => o_modI (by decide) fun _ => r_int fun _ => o_eqI ⟨_, rfl, ?_⟩)))))
          cases hc : (q.fmod 2 == 0) with
          | true =>
            rw [if_pos rfl]
            refine r_tuple (r_args (r_local rfl (r_args (r_tuple (r_args ?_)))))
            walk_at "g"
            refine r_args ?_
            walk_at "g"
            refine r_args (r_local rfl (r_args0 ⟨len3, fun E2 => r_args0 ⟨len2, fun E3 => r_args0 ⟨len3, fun E4 => ⟨[(E4, _), (E3, _), (E2, _), (E, _)], rfl, .tuple [.int 26, .int 13, .tuple [a, .tuple [.int 2, .int 13, .int at_]]], ?_, ?_⟩⟩⟩⟩))
            · exact .tuple (.head _) (.cons (.int _ _) (.cons (.int _ _) (.cons (.tuple (.tail _ (.head _)) (.cons (ha.mono fun q hq => .tail _ (.tail _ (.tail _ hq))) (.cons (.tuple (.tail _ (.tail _ (.head _))) (.cons (.int _ _) (.cons (.int _ _) (.cons (.int _ _) .nil)))) .nil))) .nil)))
            · exact law_cat hl.jo (jo_loc (by decide) (by decide)) (.inl hk) (.inl rfl) (by rw [wj_loc (by decide)]; exact hl.sz.2.2) ok rfl
          | false =>
            rw [if_neg Bool.false_ne_true]
            refine r_tuple (r_args (r_tuple (r_args ?_)))
            walk_at "g"
            refine r_args ?_
            walk_at "g"
            refine r_args (r_local rfl (r_args0 ⟨len3, fun E2 => r_args (r_local rfl (r_args0 ⟨len2, fun E3 => r_args0 ⟨len3, fun E4 => ⟨[(E4, _), (E3, _), (E2, _), (E, _)], rfl, .tuple [.int 26, .int 13, .tuple [.tuple [.int 2, .int 12, .int at_], a]], ?_, ?_⟩⟩⟩))⟩))
            · exact .tuple (.head _) (.cons (.int _ _) (.cons (.int _ _) (.cons (.tuple (.tail _ (.head _)) (.cons (.tuple (.tail _ (.tail _ (.head _))) (.cons (.int _ _) (.cons (.int _ _) (.cons (.int _ _) .nil)))) (.cons (ha.mono fun q hq => .tail _ (.tail _ (.tail _ hq))) .nil))) .nil)))
            · exact law_cat (jo_loc (by decide) (by decide)) hl.jo (.inr rfl) (.inl hk) (by rw [wj_loc (by decide)]; have := hl.sz.2.2; omega) rfl ok
        · rw [show (srt == 5) = false from beq_false_of_ne h5, if_neg Bool.false_ne_true]
          obtain ⟨vs, m, hp, h8, hv⟩ := hP
          refine r_nil (r_cons (r_return (r_tuple (r_args ?_))))
          walk_at "g"
          refine r_args (r_sub (r_local rfl (r_bin (r_local rfl (r_callB (r_built (by walk_at "K") boot_len ⟨rfl, r_args (r_local rfl (r_args0 (o_lenL hp (by omega) fun _ => o_modI (by omega) fun _ => ?_)))⟩))))))
          obtain ⟨i0, i8⟩ := fm_pos (a := q) (b := (vs.length : Int)) (by omega)
          obtain ⟨x, hx, hm⟩ := at_of (vs := vs) i0 i8
          obtain ⟨k, tk, rfl, hk, h14⟩ := hv x hm
          refine o_lstI hp i0 (by omega) hx (r_args (r_local rfl (r_args0 ⟨len3, fun E => ?_⟩)))
          exact ⟨[(E, _)], rfl, _, .tuple (.head _) (.cons (.int _ _) (.cons (.int _ _) (.cons (.int _ _) .nil))), law_loc hk h14⟩
end

/-! Ct7 -/
theorem Chg.on (a : Ld) {b : Ld} {P : Addr} {o o' : Obj} : Chg P o o' (a ++ (P, o) :: b) (a ++ (P, o') :: b) := .app .head a
section
variable {w : World} {p : Program} {loose : List Str} {mg mb : Str → Option Value} {d : Nat} {n : Ld}
theorem o_text {Fx : FI} {lx : Bs} {nx : Ld} {e1 e2 : Expr} {i : Int} {ti : Tok} {kx : Value → Bs → Ld → Prop} (h0 : 0 ≤ i) (h5 : i < 5) (hk : ∀ x, ((DatIn n x .none ∧ x = .none) ∨ ∃ s t, x = .str s t ∧ Tx s) → kx x lx nx)
    (hs : subscripted e2 false (.ref 737) (.int i ti) = operate [.ref 737, .int i ti] (getItem (.ref 737) (.int i ti)) := by with_unfolding_all rfl) : Rn (wd w p loose mg mb) Fx d lx nx (fun _ => subscriptTail e1 e2 (.ref 737) (.int i ti)) kx := by
  obtain ⟨x, hx, hm⟩ := at_of (vs := texts) h0 h5
  exact o_ktupI (texts_K w.params) h0 (by omega) hx (hk x (texts_is hm)) hs
def RowD (ds : List Dat) : Prop := 2 ≤ ds.length ∧ ds.length ≤ 6 ∧ ∀ e ∈ ds, LawOp e
theorem datall_snoc {n : Ld} {vs : List Value} {ds : List Dat} {v : Value} {d : Dat} (h : DatAll n vs ds) (hv : DatIn n v d) : DatAll n (vs ++ [v]) (ds ++ [d]) := h.append (.one hv)
set_option maxHeartbeats 8000000 in
theorem law_row_1 {pA : Addr} {nn more : Int} {t u : Tok} (hP : PoolIs n pA) :
    Cl (wd w p loose mg mb) (d + 2) 758 [.ref pA, .int nn t, .int more u] n fun v n' => ∃ tl, n' = tl ++ n ∧ ∃ eA vs m ds, v = .ref eA ∧ (eA, listOf vs.toArray m) ∈ tl ∧ DatAll tl vs ds ∧ RowD ds := by
  refine' cl_def [(Str.ofString "pool", .ref pA), (Str.ofString "n", .int nn t), (Str.ofString "more", .int more u)] ?ho ?hcd ?hb ?hl (fun L => ?_) ?hcell ?h1 ?h2 ?h3
  walk_at "def"
  refine r_cons (r_assign (r_tuple (r_args ?_)))
  walk_at "g"
  refine r_args ?_
  walk_at "g"
  refine r_args (r_tuple (r_args (r_tuple (r_args ?_))))
  walk_at "g"
  refine r_args ?_
  walk_at "g"
  refine r_args (r_int fun _ => r_args0 ⟨len3, fun A1 => r_args (r_tuple (r_args ?_))⟩)
  walk_at "g"
  refine r_args ?_
  walk_at "g"
  refine r_args (r_str fun _ => r_args0 ⟨len3, fun A2 => r_args0 ⟨len2, fun A3 => r_args0 ⟨len3, fun A4 => ?_⟩⟩⟩)
  refine r_cons (r_assign (r_tuple (r_args ?_)))
  walk_at "g"
  refine r_args ?_
  walk_at "g"
  refine r_args (r_tuple (r_args (r_tuple (r_args ?_))))
  walk_at "g"
  refine r_args ?_
  walk_at "g"
  refine r_args (r_str fun _ => r_args0 ⟨len3, fun B1 => r_args (r_tuple (r_args ?_))⟩)
  walk_at "g"
  refine r_args ?_
  walk_at "g"
  refine r_args (r_int fun _ => r_args0 ⟨len3, fun B2 => r_args0 ⟨len2, fun B3 => r_args0 ⟨len3, fun B4 => ?_⟩⟩⟩)
  generalize hn2 : ((B4, _) :: _ : Ld) = n2
  obtain ⟨t2, e2, ⟨d1, hd1, ho1⟩, d2, hd2, ho2⟩ : ∃ t2, n2 = t2 ++ n ∧ (∃ d1, DatIn t2 (.ref A4) d1 ∧ LawOp d1) ∧ ∃ d2, DatIn t2 (.ref B4) d2 ∧ LawOp d2 := by
    refine ⟨[(B4, _), (B3, _), (B2, _), (B1, _), (A4, _), (A3, _), (A2, _), (A1, _)], hn2.symm, ⟨.tuple [.int 26, .int 13, .tuple [.tuple [.int 2, .int 12, .int 8], .tuple [.int 1, .int 13, .str "y"]]], ?_, law_cat (jo_loc (by decide) (by decide)) (jo_txt _) (.inr rfl) (.inl rfl) (by rw [wj_loc (by decide)]; decide) (by decide +kernel) (by decide +kernel)⟩,
      .tuple [.int 26, .int 13, .tuple [.tuple [.int 1, .int 13, .str "x"], .tuple [.int 2, .int 13, .int 8]]], ?_, law_cat (jo_txt _) (jo_loc (by decide) (by decide)) (.inl rfl) (.inl rfl) (by rw [wj_loc (by decide)]; decide) (by decide +kernel) (by decide +kernel)⟩
    · exact .tuple (.tail _ (.tail _ (.tail _ (.tail _ (.head _))))) (.cons (.int _ _) (.cons (.int _ _) (.cons (.tuple (.tail _ (.tail _ (.tail _ (.tail _ (.tail _ (.head _)))))) (.cons (.tuple (.tail _ (.tail _ (.tail _ (.tail _ (.tail _ (.tail _ (.tail _ (.head _)))))))) (.cons (.int _ _) (.cons (.int _ _) (.cons (.int _ _) .nil)))) (.cons (.tuple (.tail _ (.tail _ (.tail _ (.tail _ (.tail _ (.tail _ (.head _))))))) (.cons (.int _ _) (.cons (.int _ _) (.cons (.str _ _) .nil)))) .nil))) .nil)))
    · exact .tuple (.head _) (.cons (.int _ _) (.cons (.int _ _) (.cons (.tuple (.tail _ (.head _)) (.cons (.tuple (.tail _ (.tail _ (.tail _ (.head _)))) (.cons (.int _ _) (.cons (.int _ _) (.cons (.str _ _) .nil)))) (.cons (.tuple (.tail _ (.tail _ (.head _))) (.cons (.int _ _) (.cons (.int _ _) (.cons (.int _ _) .nil)))) .nil))) .nil)))
  clear hn2
  refine r_cons (r_assign (r_list (r_args (r_sub (r_tuple (r_args (r_tuple (r_args ?_))))))))
  walk_at "g"
  refine r_args ?_
  walk_at "g"
  refine r_args (r_int fun _ => r_args0 ⟨len3, fun C1 => r_args (r_tuple (r_args ?_))⟩)
  walk_at "g"
  refine r_args ?_
  walk_at "g"
  refine r_args (r_sub ?_)
  walk_at "g"
  refine r_bin (r_bin (r_local rfl (r_int fun _ => o_divI (by decide) (PyProof.noPylong_small (by decide)) fun _ => r_int fun _ => o_modI (by decide) fun ti => ?_)))
  obtain ⟨i0, i5⟩ := fm_pos (a := nn.fdiv 5) (b := 5) (by decide)
  refine o_text (n := n) i0 i5 fun x hx => r_args0 ⟨len3, fun C2 => ?_⟩
  refine r_args (r_local rfl (r_args (r_local rfl (r_args (r_local rfl (r_args0 ⟨by show 5 ≤ _; decide, fun T => ?_⟩))))))
  refine r_bin (r_local rfl (r_int fun _ => o_modI (by decide) fun ti => ?_))
  obtain ⟨j0, j5⟩ := fm_pos (a := nn) (b := 5) (by decide)
  generalize hn3 : ((T, _) :: _ : Ld) = n3
  obtain ⟨xv, hxv, hxm⟩ := at_of (vs := [.ref C1, .ref C2, .ref A4, .ref B4, .ref A4]) j0 j5
  have hT : (T, tup [.ref C1, .ref C2, .ref A4, .ref B4, .ref A4] 0) ∈ n3 := by rw [← hn3]; exact .head _
  obtain ⟨t3, e3, d3, hd3, ho3⟩ : ∃ t3, n3 = t3 ++ n ∧ ∃ d3, DatIn t3 xv d3 ∧ LawOp d3 := by
    refine ⟨(T, _) :: (C2, _) :: (C1, _) :: t2, by rw [← hn3, e2]; rfl, ?_⟩
    simp only [List.mem_cons, List.not_mem_nil, or_false] at hxm
    rcases hxm with rfl | rfl | rfl | rfl | rfl
    · exact ⟨.tuple [.int 2, .int 13, .int 9], .tuple (.tail _ (.tail _ (.head _))) (.cons (.int _ _) (.cons (.int _ _) (.cons (.int _ _) .nil))), law_loc (by decide) (by decide)⟩
    · rcases hx with ⟨_, rfl⟩ | ⟨s, t, rfl, hs⟩
      · exact ⟨_, .tuple (.tail _ (.head _)) (.cons (.int _ _) (.cons (.int _ _) (.cons .none .nil))), law_emp⟩
      · exact ⟨_, .tuple (.tail _ (.head _)) (.cons (.int _ _) (.cons (.int _ _) (.cons (.str _ _) .nil))), law_txt hs⟩
    · exact ⟨_, hd1.mono fun q hq => .tail _ (.tail _ (.tail _ hq)), ho1⟩
    · exact ⟨_, hd2.mono fun q hq => .tail _ (.tail _ (.tail _ hq)), ho2⟩
    · exact ⟨_, hd1.mono fun q hq => .tail _ (.tail _ (.tail _ hq)), ho1⟩
  have up3' : Up n n3 := ⟨t3, e3⟩
  clear hn3 hxm
  refine o_tupI hT j0 (by omega) hxv (r_args0 ⟨len1, fun E => ?_⟩)
  refine r_cons (r_assign (r_bin (r_bin (r_local rfl (r_int fun _ => o_divI (by decide) (PyProof.noPylong_small (by decide)) fun _ => r_local rfl (o_addI fun tr => ?_))))))
  generalize nn.fdiv 25 + more = r1
  refine r_cons (Rn.mono (k := fun fl l' n' => ∃ eA a b vs c ds rv rt, fl = .next ∧ l' = [(Str.ofString "more", .int more u), (Str.ofString "n", .int nn t), (Str.ofString "pool", .ref pA), (Str.ofString "one", .ref A4), (Str.ofString "two", .ref B4), (Str.ofString "es", .ref eA), (Str.ofString "r", .int rv rt)] ∧
    n' = a ++ (eA, listOf vs.toArray c) :: (b ++ n) ∧ DatAll (a ++ b) vs ds ∧ 1 ≤ ds.length ∧ ds.length ≤ 2 ∧ ∀ e ∈ ds, LawOp e) ?A ?B)
  case A =>
    refine r_if (t_cmp (r_bin (r_local rfl (r_int fun _ => o_modI (by decide) fun _ => r_int fun _ => o_eqI ⟨_, rfl, ?_⟩))))
    cases hc : (nn.fmod 5 == 4) with
    | false =>
      rw [if_neg Bool.false_ne_true]
      exact r_nil ⟨E, [], t3, [xv], 0, [d3], r1, tr, rfl, rfl, by rw [e3]; rfl, .one hd3, by show 1 ≤ 1; omega, by show 1 ≤ 2; omega, fun e he => by rw [List.mem_singleton.mp he]; exact ho3⟩
    | true =>
      rw [if_pos rfl]
      refine r_cons (r_assign (r_list (r_args (r_call ?_))))
      walk_at "g"
      have hP' := hP.mono (up3'.trans (.cons (x := (E, listOf [xv].toArray 0)) .refl)).sub
      refine ⟨by walk_at "K", r_args (r_local rfl (r_args (r_local rfl (r_args (r_int fun _ => r_args0 (o_call ((law_operand_1 hP').mono ?_)))))))⟩
      rintro v n4 ⟨tl4, rfl, e4, hv4, ho4⟩
      refine r_args (r_sub (r_tuple (r_args (r_tuple (r_args ?_)))))
      walk_at "g"
      refine r_args ?_
      walk_at "g"
      refine r_args (r_int fun _ => r_args0 ⟨len3, fun F1 => r_args (r_tuple (r_args ?_))⟩)
      walk_at "g"
      refine r_args ?_
      walk_at "g"
      refine r_args (r_str fun _ => r_args0 ⟨len3, fun F2 => r_args0 ⟨len2, fun T2 => r_bin (r_bin (r_local rfl (r_int fun _ => o_divI (by decide) (PyProof.noPylong_small (by decide)) fun _ => r_int fun _ => o_modI (by decide) fun _ => ?_)))⟩⟩)
      obtain ⟨k0, k2⟩ := fm_pos (a := r1.fdiv 5) (b := 2) (by decide)
      obtain ⟨yv, hyv, hym⟩ := at_of (vs := [.ref F1, .ref F2]) k0 k2
      refine o_tupI (.head _) k0 (by omega) hyv (r_args0 ⟨len2, fun E2 => ?_⟩)
      refine r_cons (r_assign (r_bin (r_local rfl (r_int fun _ => o_divI (by decide) (PyProof.noPylong_small (by decide)) fun _ => r_nil ?_))))
      generalize hn5 : ((T2, _) :: _ : Ld) = n5
      obtain ⟨t5, e5, d5, hd5, ho5⟩ : ∃ t5, n5 = t5 ++ (tl4 ++ (E, listOf [xv].toArray 0) :: n3) ∧ ∃ d5, DatIn t5 yv d5 ∧ LawOp d5 := by
        refine ⟨[(T2, _), (F2, _), (F1, _)], hn5.symm, ?_⟩
        simp only [List.mem_cons, List.not_mem_nil, or_false] at hym
        rcases hym with rfl | rfl
        · exact ⟨.tuple [.int 2, .int 13, .int 6], .tuple (.tail _ (.tail _ (.head _))) (.cons (.int _ _) (.cons (.int _ _) (.cons (.int _ _) .nil))), law_loc (by decide) (by decide)⟩
        · exact ⟨.tuple [.int 1, .int 13, .str "w"], .tuple (.tail _ (.head _)) (.cons (.int _ _) (.cons (.int _ _) (.cons (.str _ _) .nil))), law_txt ⟨by decide, by decide +kernel⟩⟩
      refine ⟨E2, [], t5 ++ (tl4 ++ (E, listOf [xv].toArray 0) :: t3), [v, yv], 0, [e4, d5], _, _, rfl, rfl, by rw [e5, e3]; simp, .cons (hv4.mono fun q hq => List.mem_append.mpr (.inr (List.mem_append.mpr (.inl hq)))) (.one (hd5.mono fun q hq => List.mem_append.mpr (.inl hq))), by show 1 ≤ 2; omega, by show 2 ≤ 2; omega, fun e he => ?_⟩
      rcases List.mem_cons.mp he with rfl | he
      · exact ho4
      · rw [List.mem_singleton.mp he]; exact ho5
  case B =>
    rintro fl l' n' ⟨eA, a, b, vs, c, ds, rv, rt, rfl, rfl, rfl, hds, hl1, hl2, hop⟩
    obtain ⟨m0, m4⟩ := fm_pos (a := rv) (b := 4) (by decide)
    obtain ⟨N, hN⟩ : ∃ N : Nat, (N : Int) = 1 + rv.fmod 4 := ⟨(1 + rv.fmod 4).toNat, by omega⟩
    refine r_cons (r_forR ?_)
    refine r_callT (r_built (by walk_at "K") boot_range ⟨rfl, r_args (r_bin (r_int fun _ => r_bin (r_local rfl (r_int fun _ => o_modI (by decide) fun _ => o_addI fun tN => r_args0 ?_))))⟩)
    rw [← hN]
    refine o_range fun D t' u' v' => ⟨D, N, t', u', v', fun i lt tl n0 => ∃ vs c ds rv rt, n0 = (D, rng N t' u' v') :: (a ++ (eA, listOf vs.toArray c) :: (b ++ n)) ∧ DatAll (tl ++ (a ++ b)) vs ds ∧ 1 ≤ ds.length ∧ (1 ≤ i → 2 ≤ ds.length) ∧ ds.length ≤ 2 + i ∧ (∀ e ∈ ds, LawOp e) ∧
      lt.lookup (Str.ofString "pool") = some (.ref pA) ∧ lt.lookup (Str.ofString "es") = some (.ref eA) ∧ lt.lookup (Str.ofString "r") = some (.int rv rt), rfl, .head _, by omega, ⟨vs, c, ds, rv, rt, rfl, hds, hl1, fun h => absurd h (by omega), hl2, hop, rfl, rfl, rfl⟩, ?_, ?_⟩
    · rintro i ti lt tl n0 I it hi ⟨vs, c, ds, rv, rt, rfl, hds, hl1, hl2, hl3, hop, hp, he, hr⟩ _
      have hvl : vs.length ≤ 10 := by rw [hds.length]; omega
      refine r_cons (r_assign (r_bin (r_local (lkS hr) (r_int fun _ => o_divI (by decide) (PyProof.noPylong_small (by decide)) fun _ => ?_))))
      have hEm : ∀ tl2 o, (eA, o) ∈ tl2 ++ (tl ++ (I, it) :: (D, rng N t' u' v') :: (a ++ (eA, o) :: (b ++ n))) := fun tl2 o => List.mem_append.mpr (.inr (List.mem_append.mpr (.inr (.tail _ (.tail _ (List.mem_append.mpr (.inr (.head _))))))))
      have hP' : PoolIs (tl ++ (I, it) :: (D, rng N t' u' v') :: (a ++ (eA, listOf vs.toArray c) :: (b ++ n))) pA := hP.mono fun q hq => List.mem_append.mpr (.inr (.tail _ (.tail _ (List.mem_append.mpr (.inr (.tail _ (List.mem_append.mpr (.inr hq))))))))
      refine r_cons (r_expr (r_meth (r_local (lkS (lkS he)) (g_list (hEm [] _) slot_list_append rfl (m_built (r_args (r_call ?_)))))))
      walk_at "g"
      refine ⟨by walk_at "K", r_args (r_local (lkS (lkS hp)) (r_args (r_local lk0 (r_args (r_local (lkS lk0) (r_args0 (o_call ((law_operand_1 hP').mono ?_))))))))⟩
      rintro v n4 ⟨tl4, rfl, e4, hv4, ho4⟩
      refine r_args0 (o_append (.app (.app (.tail (.tail (Chg.on a))) tl) tl4) (by rw [sizeLine_eq]; omega) ?_)
      refine r_cons (r_assign (r_bin (r_local lk0 (r_int fun _ => o_divI (by decide) (PyProof.noPylong_small (by decide)) fun tq => r_nil ?_))))
      refine ⟨tl4 ++ tl, _, (List.append_assoc ..).symm, by simp, vs ++ [v], c + 1, ds ++ [e4], _, tq, rfl, ?_, ?_, ?_, ?_, ?_, lkS (lkS (lkS hp)), lkS (lkS (lkS he)), lk0⟩
      · rw [List.append_assoc]
        exact datall_snoc (hds.mono fun q hq => List.mem_append.mpr (.inr hq)) (hv4.mono fun q hq => List.mem_append.mpr (.inl hq))
      · rw [List.length_append]; omega
      · intro _; rw [List.length_append]; show 2 ≤ _ + 1; omega
      · rw [List.length_append]; show _ + 1 ≤ _; omega
      · intro e he
        rcases List.mem_append.mp he with he | he
        · exact hop e he
        · rw [List.mem_singleton.mp he]; exact ho4
    · rintro lt tl n0 ⟨vs, c, ds, rv, rt, rfl, hds, hl1, hl2, hl3, hop, hp, he, hr⟩
      refine r_cons (r_return (r_local he ?_))
      refine ⟨tl ++ (D, rng N t' u' v') :: (a ++ (eA, listOf vs.toArray c) :: b), by simp, eA, vs, c, ds, rfl, List.mem_append.mpr (.inr (.tail _ (List.mem_append.mpr (.inr (.head _))))), hds.mono ?_, hl2 (by omega), by omega, hop⟩
      intro q hq
      rcases List.mem_append.mp hq with hq | hq
      · exact List.mem_append.mpr (.inl hq)
      · rcases List.mem_append.mp hq with hq | hq
        · exact List.mem_append.mpr (.inr (.tail _ (List.mem_append.mpr (.inl hq))))
        · exact List.mem_append.mpr (.inr (.tail _ (List.mem_append.mpr (.inr (.tail _ hq)))))
end

/-! Ct8 -/
local macro_rules | `(tactic| walk_at "set") => `(tactic| ((case ke => walk_at "K"); (case kf => walk_at "K"); (case kg => walk_at "K"); (case kh => walk_at "K")))
/-- what a constructor leaves -/
def Made (x C dx : Addr) (n : Ld) (P : Ld → Bs → Prop) (v : Value) (n' : Ld) : Prop := v = .none ∧ ∃ tl es m fs, n' = tl ++ (x, instObj C dx) :: (dx, dictOf es m) :: n ∧ DF es fs ∧ P tl fs
section
variable {w : World} {p : Program} {loose : List Str} {mg mb : Str → Option Value} {d : Nat} {n : Ld}
theorem diags_1 {x dx : Addr} : Cl (wd w p loose mg mb) (d + 1) 200 [.ref x] ((x, instObj 222 dx) :: (dx, dictOf [] 0) :: n) (Made x 222 dx n fun _ _ => True) := by
  refine' cl_def [(Str.ofString "self", .ref x)] ?ho ?hcd ?hb ?hl (fun L => ?_) ?hcell ?h1 ?h2 ?h3
  walk_at "def"
  refine r_cons (r_setattr (r_list (r_args0 ⟨by decide, fun D => r_local rfl ?_⟩)))
  refine' o_set (tl := [(D, _)]) DF.nil (Nat.le_of_ble_eq_true rfl) ?ke ?kf ?kg ?kh ?_
  walk_at "set"
  intro es m hD
  exact r_nil ⟨rfl, _, es, m, _, rfl, hD, trivial⟩
theorem turner_1 {x dx : Addr} : Cl (wd w p loose mg mb) (d + 1) 451 [.ref x] ((x, instObj 531 dx) :: (dx, dictOf [] 0) :: n)
    (Made x 531 dx n fun tl fs => ∃ gA m, fs.lookup (Str.ofString "goes") = some (.ref gA) ∧ (gA, dictOf [] m) ∈ tl ∧ (gA == sysModules) = false ∧ fs.lookup (Str.ofString "convert") = none) := by
  refine' cl_def [(Str.ofString "self", .ref x)] ?ho ?hcd ?hb ?hl (fun L => ?_) ?hcell ?h1 ?h2 ?h3
  walk_at "def"
  refine r_cons (r_setattr (r_dict0 fun D1 m1 l1 => r_local rfl ?_))
  refine' o_set (tl := [(D1, _)]) DF.nil (Nat.le_of_ble_eq_true rfl) ?ke ?kf ?kg ?kh ?_
  walk_at "set"
  intro es m hD
  refine r_cons (r_setattr (r_dict0 fun D2 m2 l2 => r_local rfl ?_))
  refine' o_set (tl := [(D2, _), (D1, _)]) hD (Nat.le_of_ble_eq_true rfl) ?ke ?kf ?kg ?kh ?_
  walk_at "set"
  clear hD es m
  intro es m hD
  refine r_cons (r_setattr (r_dict0 fun D3 m3 l3 => r_local rfl ?_))
  refine' o_set (tl := [(D3, _), (D2, _), (D1, _)]) hD (Nat.le_of_ble_eq_true rfl) ?ke ?kf ?kg ?kh ?_
  walk_at "set"
  clear hD es m
  intro es m hD
  refine r_cons (r_setattr (r_dict0 fun D4 m4 l4 => r_local rfl ?_))
  refine' o_set (tl := [(D4, _), (D3, _), (D2, _), (D1, _)]) hD (Nat.le_of_ble_eq_true rfl) ?ke ?kf ?kg ?kh ?_
  walk_at "set"
  clear hD es m
  intro es m hD
  exact r_nil ⟨rfl, _, es, m, _, rfl, hD, D1, m1, rfl, .tail _ (.tail _ (.tail _ (.head _))), l1, rfl⟩
theorem host_1 {x dx kt : Addr} : Cl (wd w p loose mg mb) (d + 1) 666 [.ref x, .ref kt] ((x, instObj 711 dx) :: (dx, dictOf [] 0) :: n) (Made x 711 dx n fun _ _ => True) := by
  refine' cl_def [(Str.ofString "self", .ref x), (Str.ofString "kt", .ref kt)] ?ho ?hcd ?hb ?hl (fun L => ?_) ?hcell ?h1 ?h2 ?h3
  walk_at "def"
  refine r_cons (r_setattr (r_local rfl (r_local rfl ?_)))
  refine' o_set (tl := []) DF.nil (Nat.le_of_ble_eq_true rfl) ?ke ?kf ?kg ?kh ?_
  walk_at "set"
  intro es m hD
  refine r_cons (r_setattr (r_dict0 fun D1 m1 l1 => r_local rfl ?_))
  refine' o_set (tl := [(D1, _)]) hD (Nat.le_of_ble_eq_true rfl) ?ke ?kf ?kg ?kh ?_
  walk_at "set"
  clear hD es m
  intro es m hD
  refine r_cons (r_setattr (r_dict0 fun D2 m2 l2 => r_local rfl ?_))
  refine' o_set (tl := [(D2, _), (D1, _)]) hD (Nat.le_of_ble_eq_true rfl) ?ke ?kf ?kg ?kh ?_
  walk_at "set"
  clear hD es m
  intro es m hD
  refine r_cons (r_setattr (r_dict0 fun D3 m3 l3 => r_local rfl ?_))
  refine' o_set (tl := [(D3, _), (D2, _), (D1, _)]) hD (Nat.le_of_ble_eq_true rfl) ?ke ?kf ?kg ?kh ?_
  walk_at "set"
  clear hD es m
  intro es m hD
  refine r_cons (r_setattr (r_dict0 fun D4 m4 l4 => r_local rfl ?_))
  refine' o_set (tl := [(D4, _), (D3, _), (D2, _), (D1, _)]) hD (Nat.le_of_ble_eq_true rfl) ?ke ?kf ?kg ?kh ?_
  walk_at "set"
  clear hD es m
  intro es m hD
  refine r_cons (r_setattr (r_dict0 fun D5 m5 l5 => r_local rfl ?_))
  refine' o_set (tl := [(D5, _), (D4, _), (D3, _), (D2, _), (D1, _)]) hD (Nat.le_of_ble_eq_true rfl) ?ke ?kf ?kg ?kh ?_
  walk_at "set"
  clear hD es m
  intro es m hD
  refine r_cons (r_setattr (r_dict0 fun D6 m6 l6 => r_local rfl ?_))
  refine' o_set (tl := [(D6, _), (D5, _), (D4, _), (D3, _), (D2, _), (D1, _)]) hD (Nat.le_of_ble_eq_true rfl) ?ke ?kf ?kg ?kh ?_
  walk_at "set"
  clear hD es m
  intro es m hD
  refine r_cons (r_setattr (r_dict0 fun D7 m7 l7 => r_local rfl ?_))
  refine' o_set (tl := [(D7, _), (D6, _), (D5, _), (D4, _), (D3, _), (D2, _), (D1, _)]) hD (Nat.le_of_ble_eq_true rfl) ?ke ?kf ?kg ?kh ?_
  walk_at "set"
  clear hD es m
  intro es m hD
  refine r_cons (r_setattr (r_dict0 fun D8 m8 l8 => r_local rfl ?_))
  refine' o_set (tl := [(D8, _), (D7, _), (D6, _), (D5, _), (D4, _), (D3, _), (D2, _), (D1, _)]) hD (Nat.le_of_ble_eq_true rfl) ?ke ?kf ?kg ?kh ?_
  walk_at "set"
  clear hD es m
  intro es m hD
  exact r_nil ⟨rfl, _, es, m, _, rfl, hD, trivial⟩
end

/-! Ct9 -/
def ObjIs (n : Ld) (C a : Addr) (name : Str) (v : Value) : Prop := ∃ dx es m fs, Ins a C dx es m n ∧ DF es fs ∧ fs.lookup name = some v
theorem ObjIs.mono {n n' : Ld} (h : ∀ q ∈ n, q ∈ n') {C a : Addr} {name : Str} {v : Value} (o : ObjIs n C a name v) : ObjIs n' C a name v := let ⟨dx, es, m, fs, h1, r⟩ := o; ⟨dx, es, m, fs, ⟨h _ h1.ob, h _ h1.di⟩, r⟩
section
variable {w : World} {p : Program} {loose : List Str} {mg mb : Str → Option Value} {d : Nat} {n : Ld}
theorem unit_1 {x dx st : Addr} {t : Tok} : Cl (wd w p loose mg mb) (d + 3) 240 [.ref x, .ref st, .int 1 t] ((x, instObj 243 dx) :: (dx, dictOf [] 0) :: n) (Made x 243 dx n fun _ fs => fs.lookup (Str.ofString "store") = some (.ref st)) := by
  refine' cl_def [(Str.ofString "self", .ref x), (Str.ofString "store", .ref st), (Str.ofString "asm", .int 1 t)] ?ho ?hcd ?hb ?hl (fun L => ?_) ?hcell ?h1 ?h2 ?h3
  walk_at "def"
  refine r_cons (r_setattr (r_local rfl (r_local rfl ?_)))
  refine' o_set (tl := []) DF.nil (Nat.le_of_ble_eq_true rfl) ?ke ?kf ?kg ?kh ?_
  walk_at "set"
  intro es m hD
  refine r_cons (r_setattr (r_local rfl (r_local rfl ?_)))
  refine' o_set (tl := []) hD (Nat.le_of_ble_eq_true rfl) ?ke ?kf ?kg ?kh ?_
  walk_at "set"
  intro es m hD
  refine r_cons (r_setattr (r_list (r_args (r_none (r_args0 ⟨by decide, fun D1 => r_local rfl ?_⟩)))))
  refine' o_set (tl := [(D1, _)]) hD (Nat.le_of_ble_eq_true rfl) ?ke ?kf ?kg ?kh ?_
  walk_at "set"
  intro es m hD
  refine r_cons (r_setattr (r_list (r_args (r_none (r_args0 ⟨by decide, fun D2 => r_local rfl ?_⟩)))))
  refine' o_set (tl := [(D2, _), (D1, _)]) hD (Nat.le_of_ble_eq_true rfl) ?ke ?kf ?kg ?kh ?_
  walk_at "set"
  intro es m hD
  refine r_cons (r_setattr (r_dict0 fun D3 m3 l3 => r_local rfl ?_))
  refine' o_set (tl := [(D3, _), (D2, _), (D1, _)]) hD (Nat.le_of_ble_eq_true rfl) ?ke ?kf ?kg ?kh ?_
  walk_at "set"
  intro es m hD
  refine r_cons (r_setattr (r_call0 ?_))
  walk_at "g"
  refine ⟨by walk_at "K", o_new (by walk_at "K") (by walk_at "K") (by walk_at "K") fun y dy _ _ => (diags_1).mono ?_⟩
  rintro v n' ⟨rfl, tq, eq, mq, fq, rfl, _, _⟩
  refine ⟨rfl, r_local rfl (Rn.led (n2 := (tq ++ (y, instObj 222 dy) :: (dy, dictOf eq mq) :: [(D3, dictOf [] m3), (D2, listOf [Value.none].toArray 0), (D1, listOf [Value.none].toArray 0)]) ++ (x, instObj 243 dx) :: (dx, dictOf es m) :: n) (by simp) ?_)⟩
  refine' o_set (tl := (tq ++ (y, instObj 222 dy) :: (dy, dictOf eq mq) :: [(D3, _), (D2, _), (D1, _)])) hD (Nat.le_of_ble_eq_true rfl) ?ke ?kf ?kg ?kh ?_
  walk_at "set"
  intro es m hD
  refine r_cons (r_setattr (r_dict0 fun D4 m4 l4 => r_local rfl ?_))
  refine' o_set (tl := (D4, _) :: (tq ++ (y, instObj 222 dy) :: (dy, dictOf eq mq) :: [(D3, _), (D2, _), (D1, _)])) hD (Nat.le_of_ble_eq_true rfl) ?ke ?kf ?kg ?kh ?_
  walk_at "set"
  intro es m hD
  refine r_cons (r_setattr (r_dict0 fun D5 m5 l5 => r_local rfl ?_))
  refine' o_set (tl := (D5, _) :: (D4, _) :: (tq ++ (y, instObj 222 dy) :: (dy, dictOf eq mq) :: [(D3, _), (D2, _), (D1, _)])) hD (Nat.le_of_ble_eq_true rfl) ?ke ?kf ?kg ?kh ?_
  walk_at "set"
  intro es m hD
  refine r_cons (r_setattr (r_dict0 fun D6 m6 l6 => r_local rfl ?_))
  refine' o_set (tl := (D6, _) :: (D5, _) :: (D4, _) :: (tq ++ (y, instObj 222 dy) :: (dy, dictOf eq mq) :: [(D3, _), (D2, _), (D1, _)])) hD (Nat.le_of_ble_eq_true rfl) ?ke ?kf ?kg ?kh ?_
  walk_at "set"
  intro es m hD
  exact r_nil ⟨rfl, _, es, m, _, rfl, hD, rfl⟩
set_option maxHeartbeats 8000000 in
theorem pew_1 {x dx u st kt ho : Addr} {t1 : Tok} (hU : ObjIs n 243 u (Str.ofString "store") (.ref st)) (hS : ObjIs n 732 st (Str.ofString "kt") (.ref kt)) : Cl (wd w p loose mg mb) (d + 3) 598 [.ref x, .ref u, .int 1 t1, .ref ho] ((x, instObj 622 dx) :: (dx, dictOf [] 0) :: n)
    (Made x 622 dx n fun tl fs => ∃ tA td tc, fs.lookup (Str.ofString "turner") = some (.ref tA) ∧ fs.lookup (Str.ofString "told") = some (.ref td) ∧ (td, listOf ([] : List Value).toArray 0) ∈ tl ∧ fs.lookup (Str.ofString "checked") = some (.int 0 tc) ∧ fs.lookup (Str.ofString "convert") = none ∧ fs.length < 100 ∧
      ∃ dt et mt ft gA mg, Ins tA 531 dt et mt tl ∧ DF et ft ∧ ft.lookup (Str.ofString "goes") = some (.ref gA) ∧ (gA, dictOf [] mg) ∈ tl ∧ (gA == sysModules) = false ∧ ft.lookup (Str.ofString "convert") = none) := by
  obtain ⟨du, eu, mu, fu, iU, hDu, hlu⟩ := hU
  obtain ⟨ds, es0, ms0, fs0, iS, hDs, hls⟩ := hS
  refine' cl_def [(Str.ofString "self", .ref x), (Str.ofString "unit", .ref u), (Str.ofString "asm", .int 1 t1), (Str.ofString "host", .ref ho)] ?ho ?hcd ?hb ?hl (fun L => ?_) ?hcell ?h1 ?h2 ?h3
  walk_at "def"
  refine r_cons (r_setattr (r_local rfl (r_local rfl ?_)))
  refine' o_set (tl := []) DF.nil (Nat.le_of_ble_eq_true rfl) ?ke ?kf ?kg ?kh ?_
  walk_at "set"
  intro es m hD
  refine r_cons (r_setattr (r_attr (r_local rfl ?_)))
  refine o_attr (iU.mono (fun q hq => .tail _ (.tail _ hq))) (by walk_at "K") (by walk_at "K") (by walk_at "K") (by walk_at "K") (by rw [hDu.getL, hlu]) rfl (r_local rfl ?_)
  refine' o_set (tl := []) hD (Nat.le_of_ble_eq_true rfl) ?ke ?kf ?kg ?kh ?_
  walk_at "set"
  intro es m hD
  refine r_cons (r_setattr (r_attr (r_attr (r_local rfl ?_))))
  refine o_attr (iU.mono (fun q hq => .tail _ (.tail _ hq))) (by walk_at "K") (by walk_at "K") (by walk_at "K") (by walk_at "K") (by rw [hDu.getL, hlu]) rfl ?_
  refine o_attr (iS.mono (fun q hq => .tail _ (.tail _ hq))) (by walk_at "K") (by walk_at "K") (by walk_at "K") (by walk_at "K") (by rw [hDs.getL, hls]) rfl (r_local rfl ?_)
  refine' o_set (tl := []) hD (Nat.le_of_ble_eq_true rfl) ?ke ?kf ?kg ?kh ?_
  walk_at "set"
  intro es m hD
  refine r_cons (r_setattr (r_local rfl (r_local rfl ?_)))
  refine' o_set (tl := []) hD (Nat.le_of_ble_eq_true rfl) ?ke ?kf ?kg ?kh ?_
  walk_at "set"
  intro es m hD
  refine r_cons (r_setattr (r_local rfl (r_local rfl ?_)))
  refine' o_set (tl := []) hD (Nat.le_of_ble_eq_true rfl) ?ke ?kf ?kg ?kh ?_
  walk_at "set"
  intro es m hD
  refine r_cons (r_setattr (r_dict0 fun D1 m1 l1 => r_local rfl ?_))
  refine' o_set (tl := [(D1, dictOf [] m1)]) hD (Nat.le_of_ble_eq_true rfl) ?ke ?kf ?kg ?kh ?_
  walk_at "set"
  intro es m hD
  refine r_cons (r_setattr (r_dict0 fun D2 m2 l2 => r_local rfl ?_))
  refine' o_set (tl := [(D2, dictOf [] m2), (D1, dictOf [] m1)]) hD (Nat.le_of_ble_eq_true rfl) ?ke ?kf ?kg ?kh ?_
  walk_at "set"
  intro es m hD
  refine r_cons (r_setattr (r_list (r_args0 ⟨by decide, fun D3 => r_local rfl ?_⟩)))
  refine' o_set (tl := [(D3, listOf ([] : List Value).toArray 0), (D2, dictOf [] m2), (D1, dictOf [] m1)]) hD (Nat.le_of_ble_eq_true rfl) ?ke ?kf ?kg ?kh ?_
  walk_at "set"
  intro es m hD
  refine r_cons (r_setattr (r_dict0 fun D4 m4 l4 => r_local rfl ?_))
  refine' o_set (tl := [(D4, dictOf [] m4), (D3, listOf ([] : List Value).toArray 0), (D2, dictOf [] m2), (D1, dictOf [] m1)]) hD (Nat.le_of_ble_eq_true rfl) ?ke ?kf ?kg ?kh ?_
  walk_at "set"
  intro es m hD
  refine r_cons (r_setattr (r_int fun _ => r_local rfl ?_))
  refine' o_set (tl := [(D4, dictOf [] m4), (D3, listOf ([] : List Value).toArray 0), (D2, dictOf [] m2), (D1, dictOf [] m1)]) hD (Nat.le_of_ble_eq_true rfl) ?ke ?kf ?kg ?kh ?_
  walk_at "set"
  intro es m hD
  refine r_cons (r_setattr (r_int fun _ => r_local rfl ?_))
  refine' o_set (tl := [(D4, dictOf [] m4), (D3, listOf ([] : List Value).toArray 0), (D2, dictOf [] m2), (D1, dictOf [] m1)]) hD (Nat.le_of_ble_eq_true rfl) ?ke ?kf ?kg ?kh ?_
  walk_at "set"
  intro es m hD
  refine r_cons (r_setattr (r_int fun _ => r_local rfl ?_))
  refine' o_set (tl := [(D4, dictOf [] m4), (D3, listOf ([] : List Value).toArray 0), (D2, dictOf [] m2), (D1, dictOf [] m1)]) hD (Nat.le_of_ble_eq_true rfl) ?ke ?kf ?kg ?kh ?_
  walk_at "set"
  intro es m hD
  refine r_cons (r_setattr (r_int fun _ => r_local rfl ?_))
  refine' o_set (tl := [(D4, dictOf [] m4), (D3, listOf ([] : List Value).toArray 0), (D2, dictOf [] m2), (D1, dictOf [] m1)]) hD (Nat.le_of_ble_eq_true rfl) ?ke ?kf ?kg ?kh ?_
  walk_at "set"
  intro es m hD
  refine r_cons (r_setattr (r_dict0 fun D5 m5 l5 => r_local rfl ?_))
  refine' o_set (tl := [(D5, dictOf [] m5), (D4, dictOf [] m4), (D3, listOf ([] : List Value).toArray 0), (D2, dictOf [] m2), (D1, dictOf [] m1)]) hD (Nat.le_of_ble_eq_true rfl) ?ke ?kf ?kg ?kh ?_
  walk_at "set"
  intro es m hD
  refine r_cons (r_setattr (r_call0 ?_))
  walk_at "g"
  refine ⟨by walk_at "K", o_new (by walk_at "K") (by walk_at "K") (by walk_at "K") fun y dy _ _ => (turner_1).mono ?_⟩
  rintro v n' ⟨rfl, tq, eq, mq, fq, rfl, hDq, gA, mg', hg, hgm, hlo, hcv⟩
  refine ⟨rfl, r_local rfl (Rn.led (n2 := (tq ++ (y, instObj 531 dy) :: (dy, dictOf eq mq) :: [(D5, dictOf [] m5), (D4, dictOf [] m4), (D3, listOf ([] : List Value).toArray 0), (D2, dictOf [] m2), (D1, dictOf [] m1)]) ++ (x, instObj 622 dx) :: (dx, dictOf es m) :: n) (by simp) ?_)⟩
  refine' o_set (tl := (tq ++ (y, instObj 531 dy) :: (dy, dictOf eq mq) :: [(D5, dictOf [] m5), (D4, dictOf [] m4), (D3, listOf ([] : List Value).toArray 0), (D2, dictOf [] m2), (D1, dictOf [] m1)])) hD (Nat.le_of_ble_eq_true rfl) ?ke ?kf ?kg ?kh ?_
  walk_at "set"
  intro es m hD
  refine r_cons (r_setattr (r_int fun tc => r_local rfl ?_))
  refine' o_set (tl := (tq ++ (y, instObj 531 dy) :: (dy, dictOf eq mq) :: [(D5, dictOf [] m5), (D4, dictOf [] m4), (D3, listOf ([] : List Value).toArray 0), (D2, dictOf [] m2), (D1, dictOf [] m1)])) hD (Nat.le_of_ble_eq_true rfl) ?ke ?kf ?kg ?kh ?_
  walk_at "set"
  intro es m hD
  refine r_cons (r_setattr (r_int fun _ => r_local rfl ?_))
  refine' o_set (tl := (tq ++ (y, instObj 531 dy) :: (dy, dictOf eq mq) :: [(D5, dictOf [] m5), (D4, dictOf [] m4), (D3, listOf ([] : List Value).toArray 0), (D2, dictOf [] m2), (D1, dictOf [] m1)])) hD (Nat.le_of_ble_eq_true rfl) ?ke ?kf ?kg ?kh ?_
  walk_at "set"
  intro es m hD
  refine r_cons (r_setattr (r_none (r_local rfl ?_)))
  refine' o_set (tl := (tq ++ (y, instObj 531 dy) :: (dy, dictOf eq mq) :: [(D5, dictOf [] m5), (D4, dictOf [] m4), (D3, listOf ([] : List Value).toArray 0), (D2, dictOf [] m2), (D1, dictOf [] m1)])) hD (Nat.le_of_ble_eq_true rfl) ?ke ?kf ?kg ?kh ?_
  walk_at "set"
  intro es m hD
  refine r_cons (r_setattr (r_int fun _ => r_local rfl ?_))
  refine' o_set (tl := (tq ++ (y, instObj 531 dy) :: (dy, dictOf eq mq) :: [(D5, dictOf [] m5), (D4, dictOf [] m4), (D3, listOf ([] : List Value).toArray 0), (D2, dictOf [] m2), (D1, dictOf [] m1)])) hD (Nat.le_of_ble_eq_true rfl) ?ke ?kf ?kg ?kh ?_
  walk_at "set"
  intro es m hD
  refine r_cons (r_setattr (r_int fun _ => r_local rfl ?_))
  refine' o_set (tl := (tq ++ (y, instObj 531 dy) :: (dy, dictOf eq mq) :: [(D5, dictOf [] m5), (D4, dictOf [] m4), (D3, listOf ([] : List Value).toArray 0), (D2, dictOf [] m2), (D1, dictOf [] m1)])) hD (Nat.le_of_ble_eq_true rfl) ?ke ?kf ?kg ?kh ?_
  walk_at "set"
  intro es m hD
  exact r_nil ⟨rfl, _, es, m, _, rfl, hD, y, D3, tc, rfl, rfl, List.mem_append.mpr (.inr (.tail _ (.tail _ (.tail _ (.tail _ (.head _)))))), rfl, rfl, Nat.le_of_ble_eq_true rfl,
    dy, eq, mq, fq, gA, mg', ⟨List.mem_append.mpr (.inr (.head _)), List.mem_append.mpr (.inr (.tail _ (.head _)))⟩, hDq, hg, List.mem_append.mpr (.inl hgm), hlo, hcv⟩
end

/-! Ct10 -/
def Ones (c : Int) (vs : List Value) : Prop := ∀ x ∈ vs, ∃ t, x = .int c t
def Rows1 (n : Ld) (vs : List Value) : Prop := ∀ x ∈ vs, ∃ a t u i, x = .ref a ∧ (a, tup [.int 1 t, .int i u] 0) ∈ n
theorem Rows1.mono {n n' : Ld} (h : ∀ q ∈ n, q ∈ n') {vs : List Value} (r : Rows1 n vs) : Rows1 n' vs := fun x hx => let ⟨a, t, u, i, e, hm⟩ := r x hx; ⟨a, t, u, i, e, h _ hm⟩
theorem Ones.snoc {c : Int} {vs : List Value} {t : Tok} (h : Ones c vs) : Ones c (vs ++ [.int c t]) := fun x hx => by
  rcases List.mem_append.mp hx with hx | hx
  · exact h x hx
  · rw [List.mem_singleton.mp hx]; exact ⟨t, rfl⟩
structure KtFs (fs : Bs) (R X De We Op : Addr) : Prop where
  r : fs.lookup (Str.ofString "rows") = some (.ref R)
  x : fs.lookup (Str.ofString "index") = some (.ref X)
  d : fs.lookup (Str.ofString "depths") = some (.ref De)
  w : fs.lookup (Str.ofString "weights") = some (.ref We)
  o : fs.lookup (Str.ofString "opens") = some (.ref Op)
/-- the five lists of the table of kinds, in the order in which they lie in the ledger -/
def Seven (pre : Ld) (rvs dvs wvs ovs : List Value) : Prop := ∃ a t u i t1 t2 t3, rvs[7]? = some (.ref a) ∧ (a, tup [.int 1 t, .int i u] 0) ∈ pre ∧ dvs[7]? = some (.int 1 t1) ∧ wvs[7]? = some (.int 1 t2) ∧ ovs[7]? = some (.int 0 t3)
def KtQ (W : Wd) (pre q : Ld) (fs : Bs) (N : Nat) (P : RKey → Prop) : Prop :=
  ∃ R X De We Op rvs dvs wvs ovs m1 m3 m4 m5 xs oX, q = [(Op, listOf ovs.toArray m5), (We, listOf wvs.toArray m4), (De, listOf dvs.toArray m3), (X, oX), (R, listOf rvs.toArray m1)] ∧ KtFs fs R X De We Op ∧
    rvs.length = N ∧ dvs.length = N ∧ wvs.length = N ∧ ovs.length = N ∧ Seven pre rvs dvs wvs ovs ∧ (X == sysModules) = false ∧ RowOb W oX xs ∧ (xs.map (·.1)).Nodup ∧ (∀ z ∈ xs, RowIn pre z.1 z.2.1) ∧ xs.length = N ∧ (∀ z ∈ xs, P z.1)
theorem Seven.mono {pre pre' : Ld} (h : ∀ q ∈ pre, q ∈ pre') {rvs dvs wvs ovs : List Value} (s : Seven pre rvs dvs wvs ovs) : Seven pre' rvs dvs wvs ovs :=
  let ⟨a, t, u, i, t1, t2, t3, h1, h2, r⟩ := s; ⟨a, t, u, i, t1, t2, t3, h1, h _ h2, r⟩
theorem KtQ.mono {W : Wd} {pre pre' q : Ld} (h : ∀ q ∈ pre, q ∈ pre') {fs : Bs} {N : Nat} {P : RKey → Prop} (k : KtQ W pre q fs N P) : KtQ W pre' q fs N P :=
  let ⟨R, X, De, We, Op, rvs, dvs, wvs, ovs, m1, m3, m4, m5, xs, oX, e, f, e1, e2, e3, e4, s, lo, ob, nd, ky, r⟩ := k
  ⟨R, X, De, We, Op, rvs, dvs, wvs, ovs, m1, m3, m4, m5, xs, oX, e, f, e1, e2, e3, e4, s.mono h, lo, ob, nd, fun z hz => (ky z hz).mono h, r⟩
theorem ones_at {c : Int} {vs : List Value} (h : Ones c vs) {i : Nat} (hi : i < vs.length) : ∃ t, vs[i]? = some (.int c t) := by
  obtain ⟨t, e⟩ := h _ (List.getElem_mem hi)
  exact ⟨t, by rw [List.getElem?_eq_getElem hi, e]⟩
theorem seven_of {pre : Ld} {rvs dvs wvs ovs : List Value} (hr : Rows1 pre rvs) (h1 : Ones 1 dvs) (h2 : Ones 1 wvs) (h3 : Ones 0 ovs) (e0 : rvs.length = 16) (e1 : dvs.length = 16) (e2 : wvs.length = 16) (e3 : ovs.length = 16) : Seven pre rvs dvs wvs ovs := by
  have hi : 7 < rvs.length := by omega
  obtain ⟨a, t, u, i, e, hm⟩ := hr _ (List.getElem_mem hi)
  obtain ⟨t1, q1⟩ := ones_at h1 (i := 7) (by omega)
  obtain ⟨t2, q2⟩ := ones_at h2 (i := 7) (by omega)
  obtain ⟨t3, q3⟩ := ones_at h3 (i := 7) (by omega)
  exact ⟨a, t, u, i, t1, t2, t3, by rw [List.getElem?_eq_getElem hi, e], hm, q1, q2, q3⟩
section
variable {w : World} {p : Program} {loose : List Str} {mg mb : Str → Option Value} {d : Nat} {n : Ld}
set_option maxHeartbeats 8000000 in
theorem kt_1 {x dx : Addr} : Cl (wd w p loose mg mb) (d + 1) 81 [.ref x] ((x, instObj 98 dx) :: (dx, dictOf [] 0) :: n)
    (Made x 98 dx n fun tl fs => ∃ pre q, tl = pre ++ q ∧ fs.lookup (Str.ofString "put") = none ∧ fs.lookup (Str.ofString "row") = none ∧ KtQ (wd w p loose mg mb) pre q fs 16 fun k => ∃ b, k = .two 1 b) := by
  refine' cl_def [(Str.ofString "self", .ref x)] ?ho ?hcd ?hb ?hl (fun L => ?_) ?hcell ?h1 ?h2 ?h3
  walk_at "def"
  refine r_cons (r_setattr (r_listF (r_args0 ⟨by decide, fun R hR => r_local rfl ?_⟩)))
  refine' o_set (tl := [(R, _)]) DF.nil (Nat.le_of_ble_eq_true rfl) ?ke ?kf ?kg ?kh ?_
  walk_at "set"
  intro es m hD
  refine r_cons (r_setattr (r_dict0 fun X mX lX => r_local rfl ?_))
  refine' o_set (tl := [(X, _), (R, _)]) hD (Nat.le_of_ble_eq_true rfl) ?ke ?kf ?kg ?kh ?_
  walk_at "set"
  intro es m hD
  refine r_cons (r_setattr (r_listF (r_args0 ⟨by decide, fun De hDe => r_local rfl ?_⟩)))
  refine' o_set (tl := [(De, _), (X, _), (R, _)]) hD (Nat.le_of_ble_eq_true rfl) ?ke ?kf ?kg ?kh ?_
  walk_at "set"
  intro es m hD
  refine r_cons (r_setattr (r_listF (r_args0 ⟨by decide, fun We hWe => r_local rfl ?_⟩)))
  refine' o_set (tl := [(We, _), (De, _), (X, _), (R, _)]) hD (Nat.le_of_ble_eq_true rfl) ?ke ?kf ?kg ?kh ?_
  walk_at "set"
  intro es m hD
  refine r_cons (r_setattr (r_listF (r_args0 ⟨by decide, fun Op hOp => r_local rfl ?_⟩)))
  refine' o_set (tl := [(Op, _), (We, _), (De, _), (X, _), (R, _)]) hD (Nat.le_of_ble_eq_true rfl) ?ke ?kf ?kg ?kh ?_
  walk_at "set"
  intro es m hD
  have o1 : R < De := hDe (R, listOf ([] : List Value).toArray 0) (.tail _ (.head _))
  have o2 : De < We := hWe (De, listOf ([] : List Value).toArray 0) (.head _)
  have o3 : We < Op := hOp (We, listOf ([] : List Value).toArray 0) (.head _)
  refine r_cons (r_forR ?_)
  refine r_callT (r_built (by walk_at "K") boot_range ⟨rfl, r_args ?_⟩)
  walk_at "g"
  refine r_args0 (o_range fun Rg t' u' v' => ⟨Rg, 16, t', u', v', fun i lt tl n0 => ∃ rvs dvs wvs ovs m1 m3 m4 m5 xs oX,
    n0 = (Rg, rng 16 t' u' v') :: (Op, listOf ovs.toArray m5) :: (We, listOf wvs.toArray m4) :: (De, listOf dvs.toArray m3) :: (X, oX) :: (R, listOf rvs.toArray m1) :: (x, instObj 98 dx) :: (dx, dictOf es m) :: n ∧
    Rows1 tl rvs ∧ Ones 1 dvs ∧ Ones 1 wvs ∧ Ones 0 ovs ∧ rvs.length = i ∧ dvs.length = i ∧ wvs.length = i ∧ ovs.length = i ∧ RowOb (wd w p loose mg mb) oX xs ∧ (xs.map (·.1)).Nodup ∧ (∀ z ∈ xs, RowIn tl z.1 z.2.1) ∧ xs.length = i ∧ (∀ z ∈ xs, ∃ b : Int, z.1 = .two 1 b ∧ b < i) ∧
    lt.lookup (Str.ofString "self") = some (.ref x), rfl, .head _, by omega, ⟨[], [], [], [], 0, 0, 0, 0, [], _, rfl, fun _ h => (nomatch h), fun _ h => (nomatch h), fun _ h => (nomatch h), fun _ h => (nomatch h), rfl, rfl, rfl, rfl, ⟨_, mX, ⟨rfl, rfl, rfl⟩, rfl, rfl⟩, List.nodup_nil, fun _ h => (nomatch h), rfl, fun _ h => (nomatch h), rfl⟩, ?_, ?_⟩)
  · rintro i ti lt tl n0 I it hi ⟨rvs, dvs, wvs, ovs, m1, m3, m4, m5, xs, oX, rfl, hr, h1, h2, h3, e1, e2, e3, e4, hT, hN, hK, e5, hx, hself⟩ _
    have ins : ∀ (pre : Ld) (o5 o4 o3 o2 o1 : Obj), Ins x 98 dx es m (pre ++ (I, it) :: (Rg, rng 16 t' u' v') :: (Op, o5) :: (We, o4) :: (De, o3) :: (X, o2) :: (R, o1) :: (x, instObj 98 dx) :: (dx, dictOf es m) :: n) := fun pre o5 o4 o3 o2 o1 => ⟨List.mem_append.mpr (.inr (.tail _ (.tail _ (.tail _ (.tail _ (.tail _ (.tail _ (.tail _ (.head _)))))))))  , List.mem_append.mpr (.inr (.tail _ (.tail _ (.tail _ (.tail _ (.tail _ (.tail _ (.tail _ (.tail _ (.head _))))))))))⟩
    refine r_cons (r_assign (r_tuple (r_args ?_)))
    walk_at "g"
    refine r_args (r_local lk0 (r_args0 ⟨len2, fun A => ?_⟩))
    refine r_cons (r_expr (r_meth (r_attr (r_local (lkS (lkS hself)) ?_))))
    refine o_attr (ins ((A, _) :: tl) _ _ _ _ _) (by walk_at "K") (by walk_at "K") (by walk_at "K") (by walk_at "K") (by rw [hD.getL]; rfl) rfl ?_
    refine g_list (a := R) (vs := rvs) (m := m1) (.tail _ (List.mem_append.mpr (.inr (.tail _ (.tail _ (.tail _ (.tail _ (.tail _ (.tail _ (.head _)))))))))) slot_list_append rfl (m_built (r_args (r_local lk0 (r_args0 (o_append (.app (.tail (.tail (.tail (.tail (.tail (.tail .head)))))) ((A, _) :: tl)) (by rw [sizeLine_eq]; omega) ?_)))))
    have key : ∀ tk, RowIn ((A, tup [.int 1 tk, .int (i : Int) ti] 0) :: tl) (.two 1 i) A := fun tk => ⟨_, 0, .head _, .two⟩
    refine r_cons (r_setitem (r_local (lkS lk0) (r_attr (r_local (lkS (lkS hself)) ?_))))
    refine o_attr (ins ((A, _) :: tl) _ _ _ _ _) (by walk_at "K") (by walk_at "K") (by walk_at "K") (by walk_at "K") (by rw [hD.getL]; rfl) rfl ?_
    refine r_local lk0 (o_rset (xs := xs) (key := .two 1 i) ⟨lX, ⟨oX, .tail _ (List.mem_append.mpr (.inr (.tail _ (.tail _ (.tail _ (.tail _ (.tail _ (.head _)))))))), hT⟩, hN, fun z hz => (hK z hz).mono fun q hq => .tail _ (List.mem_append.mpr (.inl hq))⟩ ((key _).mono fun q hq => (List.mem_cons.mp hq).elim (fun e => e ▸ .head _) fun hq => .tail _ (List.mem_append.mpr (.inl hq))) ?_ (by omega) ?_)
    · intro z hz e
      obtain ⟨b, e2, hb⟩ := hx z hz
      rw [e2] at e
      cases e
      omega
    intro o o' n' od hch _ hT' hTab
    obtain ⟨eo, en⟩ := chg_uniq hch (.app (.tail (.tail (.tail (.tail (.tail .head))))) ((A, _) :: tl) : Chg X oX o' _ _) od
    obtain rfl := en rfl
    refine r_cons (r_expr (r_meth (r_attr (r_local (lkS (lkS hself)) ?_))))
    refine o_attr (ins ((A, _) :: tl) _ _ _ _ _) (by walk_at "K") (by walk_at "K") (by walk_at "K") (by walk_at "K") (by rw [hD.getL]; rfl) rfl ?_
    refine g_list (a := De) (vs := dvs) (m := m3) (.tail _ (List.mem_append.mpr (.inr (.tail _ (.tail _ (.tail _ (.tail _ (.head _)))))))) slot_list_append rfl (m_built (r_args (r_int fun y3 => r_args0 (o_append (.app (.tail (.tail (.tail (.tail .head)))) ((A, _) :: tl)) (by rw [sizeLine_eq]; omega) ?_))))
    refine r_cons (r_expr (r_meth (r_attr (r_local (lkS (lkS hself)) ?_))))
    refine o_attr (ins ((A, _) :: tl) _ _ _ _ _) (by walk_at "K") (by walk_at "K") (by walk_at "K") (by walk_at "K") (by rw [hD.getL]; rfl) rfl ?_
    refine g_list (a := We) (vs := wvs) (m := m4) (.tail _ (List.mem_append.mpr (.inr (.tail _ (.tail _ (.tail _ (.head _))))))) slot_list_append rfl (m_built (r_args (r_int fun y4 => r_args0 (o_append (.app (.tail (.tail (.tail .head))) ((A, _) :: tl)) (by rw [sizeLine_eq]; omega) ?_))))
    refine r_cons (r_expr (r_meth (r_attr (r_local (lkS (lkS hself)) ?_))))
    refine o_attr (ins ((A, _) :: tl) _ _ _ _ _) (by walk_at "K") (by walk_at "K") (by walk_at "K") (by walk_at "K") (by rw [hD.getL]; rfl) rfl ?_
    refine g_list (a := Op) (vs := ovs) (m := m5) (.tail _ (List.mem_append.mpr (.inr (.tail _ (.tail _ (.head _)))))) slot_list_append rfl (m_built (r_args (r_int fun y5 => r_args0 (o_append (.app (.tail (.tail .head)) ((A, _) :: tl)) (by rw [sizeLine_eq]; omega) ?_))))
    refine r_nil ⟨(A, _) :: tl, _, rfl, rfl, rvs ++ [.ref A], dvs ++ [.int 1 y3], wvs ++ [.int 1 y4], ovs ++ [.int 0 y5], m1 + 1, m3 + 1, m4 + 1, m5 + 1, xs ++ [(.two 1 i, A, .int i ti)], o', rfl, ?_, h1.snoc, h2.snoc, h3.snoc, by simp [e1], by simp [e2], by simp [e3], by simp [e4], hT', hTab.nd, ?_, by simp [e5], ?_, lkS (lkS hself)⟩
    · intro z hz
      rcases List.mem_append.mp hz with hz | hz
      · exact (hr.mono fun q hq => .tail _ hq) z hz
      · rw [List.mem_singleton.mp hz]; exact ⟨A, _, _, _, rfl, .head _⟩
    · intro z hz
      rcases List.mem_append.mp hz with hz | hz
      · exact (hK z hz).mono fun q hq => .tail _ hq
      · rw [List.mem_singleton.mp hz]; exact key _
    · intro z hz
      rcases List.mem_append.mp hz with hz | hz
      · obtain ⟨b, e, hb⟩ := hx z hz; exact ⟨b, e, by omega⟩
      · rw [List.mem_singleton.mp hz]; exact ⟨i, rfl, by omega⟩
  · rintro lt tl n0 ⟨rvs, dvs, wvs, ovs, m1, m3, m4, m5, xs, oX, rfl, hr, h1, h2, h3, e1, e2, e3, e4, hT, hN, hK, e5, hx, hself⟩
    exact r_nil ⟨rfl, (tl ++ [(Rg, rng 16 t' u' v')]) ++ [(Op, listOf ovs.toArray m5), (We, listOf wvs.toArray m4), (De, listOf dvs.toArray m3), (X, oX), (R, listOf rvs.toArray m1)], es, m, _, by simp, hD, _, _, rfl, rfl, rfl, R, X, De, We, Op, rvs, dvs, wvs, ovs, m1, m3, m4, m5, xs, oX, rfl, ⟨rfl, rfl, rfl, rfl, rfl⟩, e1, e2, e3, e4,
      (seven_of hr h1 h2 h3 e1 e2 e3 e4).mono fun q hq => List.mem_append.mpr (.inl hq), lX, hT, hN, fun z hz => (hK z hz).mono fun q hq => List.mem_append.mpr (.inl hq), e5, fun z hz => let ⟨b, e, _⟩ := hx z hz; ⟨b, e⟩⟩
end

/-! Ct11 -/
/-- the table of kinds: kt in post, its five objects q, all else in pre -/
def KtIn (W : Wd) (pre q post : Ld) (kt : Addr) (N : Nat) (P : RKey → Prop) : Prop :=
  ∃ dk es m fs, Ins kt 98 dk es m post ∧ DF es fs ∧ fs.lookup (Str.ofString "put") = none ∧ fs.lookup (Str.ofString "row") = none ∧ KtQ W pre q fs N P
theorem KtIn.mono {W : Wd} {pre pre' q post post' : Ld} {kt : Addr} {N : Nat} {P : RKey → Prop} (h : ∀ q ∈ pre, q ∈ pre') (h' : ∀ q ∈ post, q ∈ post') (k : KtIn W pre q post kt N P) : KtIn W pre' q post' kt N P :=
  let ⟨dk, es, m, fs, i, D, a, b, q⟩ := k
  ⟨dk, es, m, fs, i.mono h', D, a, b, q.mono h⟩
section
variable {w : World} {p : Program} {loose : List Str} {mg mb : Str → Option Value} {d : Nat} {n : Ld}
set_option maxHeartbeats 8000000 in
theorem store_1 {x dx : Addr} : Cl (wd w p loose mg mb) (d + 3) 729 [.ref x] ((x, instObj 732 dx) :: (dx, dictOf [] 0) :: n)
    (Made x 732 dx n fun tl fs => ∃ pre q post kt, tl = pre ++ q ++ post ∧ fs.lookup (Str.ofString "kt") = some (.ref kt) ∧ KtIn (wd w p loose mg mb) pre q post kt 16 fun k => ∃ b, k = .two 1 b) := by
  refine' cl_def [(Str.ofString "self", .ref x)] ?ho ?hcd ?hb ?hl (fun L => ?_) ?hcell ?h1 ?h2 ?h3
  walk_at "def"
  refine r_cons (r_setattr (r_call0 ?_))
  walk_at "g"
  refine ⟨by walk_at "K", o_new (by walk_at "K") (by walk_at "K") (by walk_at "K") fun y dy _ _ => (kt_1).mono ?_⟩
  rintro v n' ⟨rfl, tq, eq, mq, fq, rfl, hDq, pre, q, rfl, hput, hrow, hQ⟩
  refine ⟨rfl, r_local rfl (Rn.led (n2 := (pre ++ q ++ [(y, instObj 98 dy), (dy, dictOf eq mq)]) ++ (x, instObj 732 dx) :: (dx, dictOf [] 0) :: n) (by simp) ?_)⟩
  refine' o_set (tl := pre ++ q ++ [(y, instObj 98 dy), (dy, dictOf eq mq)]) DF.nil (Nat.le_of_ble_eq_true rfl) ?ke ?kf ?kg ?kh ?_
  walk_at "set"
  intro es m hD
  refine r_cons (r_setattr (r_list (r_args (r_none (r_args0 ⟨by decide, fun D1 => r_local rfl ?_⟩)))))
  refine' o_set (tl := (D1, _) :: (pre ++ q ++ [(y, instObj 98 dy), (dy, dictOf eq mq)])) hD (Nat.le_of_ble_eq_true rfl) ?ke ?kf ?kg ?kh ?_
  walk_at "set"
  intro es m hD
  refine r_cons (r_setattr (r_list (r_args (r_none (r_args0 ⟨by decide, fun D2 => r_local rfl ?_⟩)))))
  refine' o_set (tl := (D2, _) :: (D1, _) :: (pre ++ q ++ [(y, instObj 98 dy), (dy, dictOf eq mq)])) hD (Nat.le_of_ble_eq_true rfl) ?ke ?kf ?kg ?kh ?_
  walk_at "set"
  intro es m hD
  refine r_cons (r_setattr (r_list (r_args (r_none (r_args0 ⟨by decide, fun D3 => r_local rfl ?_⟩)))))
  refine' o_set (tl := (D3, _) :: (D2, _) :: (D1, _) :: (pre ++ q ++ [(y, instObj 98 dy), (dy, dictOf eq mq)])) hD (Nat.le_of_ble_eq_true rfl) ?ke ?kf ?kg ?kh ?_
  walk_at "set"
  intro es m hD
  refine r_cons (r_setattr (r_dict0 fun D4 m4 l4 => r_local rfl ?_))
  refine' o_set (tl := (D4, _) :: (D3, _) :: (D2, _) :: (D1, _) :: (pre ++ q ++ [(y, instObj 98 dy), (dy, dictOf eq mq)])) hD (Nat.le_of_ble_eq_true rfl) ?ke ?kf ?kg ?kh ?_
  walk_at "set"
  intro es m hD
  refine r_cons (r_setattr (r_list (r_args0 ⟨by decide, fun D5 => r_local rfl ?_⟩)))
  refine' o_set (tl := (D5, _) :: (D4, _) :: (D3, _) :: (D2, _) :: (D1, _) :: (pre ++ q ++ [(y, instObj 98 dy), (dy, dictOf eq mq)])) hD (Nat.le_of_ble_eq_true rfl) ?ke ?kf ?kg ?kh ?_
  walk_at "set"
  intro es m hD
  refine r_cons (r_setattr (r_int fun t0 => r_local rfl ?_))
  refine' o_set (tl := (D5, _) :: (D4, _) :: (D3, _) :: (D2, _) :: (D1, _) :: (pre ++ q ++ [(y, instObj 98 dy), (dy, dictOf eq mq)])) hD (Nat.le_of_ble_eq_true rfl) ?ke ?kf ?kg ?kh ?_
  walk_at "set"
  intro es m hD
  refine r_nil ⟨rfl, _, es, m, _, rfl, hD, (D5, _) :: (D4, _) :: (D3, _) :: (D2, _) :: (D1, _) :: pre, q, [(y, instObj 98 dy), (dy, dictOf eq mq)], y, rfl, rfl, dy, eq, mq, fq, ⟨.head _, .tail _ (.head _)⟩, hDq, hput, hrow, hQ.mono fun z hz => .tail _ (.tail _ (.tail _ (.tail _ (.tail _ hz))))⟩
end

/-! Ct12 -/
local macro_rules | `(tactic| walk_at "attr") => `(tactic| ((case ke => walk_at "K"); (case kf => walk_at "K"); (case kg => walk_at "K"); (case kh => walk_at "K")))
theorem ifT {c : Bool} {P Q : Prop} (h : c = true) (x : P) : if c = true then P else Q := by rw [if_pos h]; exact x
theorem ifF {c : Bool} {P Q : Prop} (h : c = false) (x : Q) : if c = true then P else Q := by rw [if_neg (by rw [h]; exact Bool.false_ne_true)]; exact x
def Sev (cs : List Value) : Prop := ∀ x ∈ cs, ∃ t, x = .int 7 t
/-- the table of kinds, as far as its seventh row -/
structure KtR (n : Ld) (kt : Addr) : Prop where
  ex : ∃ (dk : Addr) (es : List DictEntry) (m : Nat) (fs : Bs) (R : Addr) (rvs : List Value) (m1 : Nat) (a : Addr) (t u : Tok) (i : Int), Ins kt 98 dk es m n ∧ DF es fs ∧ fs.lookup (Str.ofString "rows") = some (.ref R) ∧ fs.lookup (Str.ofString "row") = none ∧ (R, listOf rvs.toArray m1) ∈ n ∧ rvs[7]? = some (.ref a) ∧ rvs.length < 1000 ∧ (a, tup [.int 1 t, .int i u] 0) ∈ n
theorem KtR.mono {n n' : Ld} (h : ∀ q ∈ n, q ∈ n') {kt : Addr} (k : KtR n kt) : KtR n' kt :=
  let ⟨dk, es, m, fs, R, rvs, m1, a, t, u, i, h1, h2, h3, h4, h5, h6, h7, h8⟩ := k.ex
  ⟨dk, es, m, fs, R, rvs, m1, a, t, u, i, h1.mono h, h2, h3, h4, h _ h5, h6, h7, h _ h8⟩
section
variable {w : World} {p : Program} {loose : List Str} {mg mb : Str → Option Value} {d : Nat} {n : Ld}
theorem row_length_1 {a : Int} {t : Tok} (ha : a = 2 ∨ a = 3) : Cl (wd w p loose mg mb) (d + 1) 123 [.int a t] n fun v n' => n' = n ∧ ∃ t, v = .int 3 t := by
  refine' cl_def [(Str.ofString "sort", .int a t)] ?ho ?hcd ?hb ?hl (fun L => ?_) ?hcell ?h1 ?h2 ?h3
  walk_at "def"
  refine r_cons (r_if (t_or (t_cmp (r_local rfl ?_))))
  walk_at "g"
  refine o_eqI ⟨_, rfl, ?_⟩
  rcases ha with rfl | rfl
  · refine ifT rfl (ifT rfl ?_)
    exact r_cons (r_return (r_int fun t => ⟨rfl, t, rfl⟩))
  · refine ifF (by decide) ?_
    refine t_or (t_cmp (r_local rfl ?_))
    walk_at "g"
    refine o_eqI ⟨_, rfl, ?_⟩
    refine ifT rfl (ifT rfl ?_)
    exact r_cons (r_return (r_int fun t => ⟨rfl, t, rfl⟩))
theorem row_level_1 {a : Int} {t : Tok} (ha : a = 2 ∨ a = 3) : Cl (wd w p loose mg mb) (d + 1) 116 [.int a t] n fun v n' => n' = n ∧ ∃ t, v = .int 1 t := by
  refine' cl_def [(Str.ofString "sort", .int a t)] ?ho ?hcd ?hb ?hl (fun L => ?_) ?hcell ?h1 ?h2 ?h3
  walk_at "def"
  refine r_cons (r_if (t_or (t_cmp (r_local rfl ?_))))
  walk_at "g"
  refine o_eqI ⟨_, rfl, ?_⟩
  rcases ha with rfl | rfl
  · refine ifT rfl (ifT rfl ?_)
    exact r_cons (r_return (r_int fun t => ⟨rfl, t, rfl⟩))
  · refine ifF (by decide) ?_
    refine t_or (t_cmp (r_local rfl ?_))
    walk_at "g"
    refine o_eqI ⟨_, rfl, ?_⟩
    refine ifT rfl (ifT rfl ?_)
    exact r_cons (r_return (r_int fun t => ⟨rfl, t, rfl⟩))
theorem inner_kinds_1 {A c : Addr} {a b : Int} {t u : Tok} {m : Nat} (ha : a = 2 ∨ a = 3) (hA : (A, tup [.int a t, .int b u, .ref c] m) ∈ n) : Cl (wd w p loose mg mb) (d + 1) 109 [.ref A] n fun v n' => n' = n ∧ v = .ref c := by
  refine' cl_def [(Str.ofString "row", .ref A)] ?ho ?hcd ?hb ?hl (fun L => ?_) ?hcell ?h1 ?h2 ?h3
  walk_at "def"
  refine r_cons (r_assign (r_sub (r_local rfl (r_int fun _ => o_tupI hA (by decide) (by decide) rfl ?_))))
  refine r_cons (r_if (t_or (t_cmp (r_local lk0 ?_))))
  walk_at "g"
  refine o_eqI ⟨_, rfl, ?_⟩
  rcases ha with rfl | rfl
  · refine ifT rfl (ifT rfl ?_)
    exact r_cons (r_return (r_sub (r_local (lkS rfl) (r_int fun _ => o_tupI hA (by decide) (by decide) rfl ⟨rfl, rfl⟩))))
  · refine ifF (by decide) ?_
    refine t_or (t_cmp (r_local lk0 ?_))
    walk_at "g"
    refine o_eqI ⟨_, rfl, ?_⟩
    refine ifT rfl (ifT rfl ?_)
    exact r_cons (r_return (r_sub (r_local (lkS rfl) (r_int fun _ => o_tupI hA (by decide) (by decide) rfl ⟨rfl, rfl⟩))))
theorem row_1 {kt : Addr} {t : Tok} (hk : KtR n kt) : Cl (wd w p loose mg mb) (d + 1) 88 [.ref kt, .int 7 t] n fun v n' => n' = n ∧ ∃ a t u i, v = .ref a ∧ (a, tup [.int 1 t, .int i u] 0) ∈ n := by
  obtain ⟨dk, es, m, fs, R, rvs, m1, a, t', u, i, h1, h2, h3, h4, h5, h6, h7, h8⟩ := hk.ex
  have h9 := (List.getElem?_eq_some_iff.mp h6).1
  refine' cl_def [(Str.ofString "self", .ref kt), (Str.ofString "k", .int 7 t)] ?ho ?hcd ?hb ?hl (fun L => ?_) ?hcell ?h1 ?h2 ?h3
  walk_at "def"
  refine r_cons (r_if (t_or (t_cmp (r_local rfl (r_int fun _ => o_ltI ⟨_, rfl, ?_⟩)))))
  refine ifF (by decide) ?_
  refine t_or (t_cmp (r_local rfl (r_callB (r_built (by walk_at "K") boot_len ⟨rfl, r_args (r_attr (r_local rfl ?_))⟩))))
  refine' o_attr h1 ?ke ?kf ?kg ?kh (by rw [h2.getL, h3]) rfl (r_args0 (o_lenL h5 (by omega) fun _ => o_geI ⟨_, rfl, ?_⟩))
  walk_at "attr"
  refine ifF (by simp; omega) ?_
  refine t_or0 ?_
  refine ifF (by decide) ?_
  refine r_nil (r_cons (r_return (r_sub (r_attr (r_local rfl ?_)))))
  refine' o_attr h1 ?ke ?kf ?kg ?kh (by rw [h2.getL, h3]) rfl (r_local rfl (o_lstI h5 (by decide) (by decide) h6 ⟨rfl, a, t', u, i, rfl, h8⟩))
  walk_at "attr"
theorem may_stand_1 {kt : Addr} {t : Tok} (hk : KtR n kt) : Cl (wd w p loose mg mb) (d + 2) 151 [.ref kt, .int 7 t] n fun v n' => n' = n ∧ v = .bool true := by
  obtain ⟨dk, es, m, fs, R, rvs, m1, a, t', u, i, h1, h2, h3, h4, h5, h6, h7, h8⟩ := hk.ex
  refine' cl_def [(Str.ofString "kt", .ref kt), (Str.ofString "k", .int 7 t)] ?ho ?hcd ?hb ?hl (fun L => ?_) ?hcell ?h1 ?h2 ?h3
  walk_at "def"
  refine r_cons (r_if (t_or (t_cmp (r_local rfl ?_))))
  walk_at "g"
  refine o_eqI ⟨_, rfl, ?_⟩
  refine ifF (by decide) ?_
  refine t_or (t_cmp (r_local rfl ?_))
  walk_at "g"
  refine o_eqI ⟨_, rfl, ?_⟩
  refine ifF (by decide) ?_
  refine t_or0 ?_
  refine ifF (by decide) ?_
  refine r_nil (r_cons (r_assign (r_sub (r_meth (r_local rfl ?_)))))
  refine' g_inst h1 ?ke ?kf ?kg (by rw [h2.getL, h4]) (m_def (by walk_at "K") (r_args (r_local rfl (r_args0 (o_call ((row_1 hk).mono ?_))))))
  case ke => walk_at "K"
  case kf => walk_at "K"
  case kg => walk_at "K"
  rintro v n' ⟨rfl, a, t1, u1, i1, rfl, hA⟩
  refine r_int fun _ => o_tupI hA (by decide) (by decide) rfl ?_
  refine r_cons (r_return (v_or (r_cmp (r_local lk0 ?_))))
  walk_at "g"
  exact o_leI ⟨true, rfl, ifT rfl ⟨rfl, rfl⟩⟩
end

/-! Ct13 -/
noncomputable def tids : List (Int × PyData) := [(20, .int 0), (9, .int 1), (10, .int 2), (11, .int 3), (12, .int 4), (13, .int 5), (14, .int 6), (15, .int 7), (16, .int 8), (17, .int 9), (18, .int 10), (19, .int 11), (1, .int 12), (4, .int 13)]
theorem tids_K (P : Params) : (K P).lookup 55 = some o41 := by k_is
theorem tids_look : KTD.keyedLook (fun _ => some o41) 55 tids = true := by rfl
section
variable {w : World} {p : Program} {loose : List Str} {mg mb : Str → Option Value} {d : Nat} {n : Ld}
theorem check_args_1 {kt c : Addr} {cs : List Value} {m : Nat} (hk : KtR n kt) (hc : (c, tup cs m) ∈ n) (hs : Sev cs) : Cl (wd w p loose mg mb) (d + 3) 144 [.ref kt, .ref c] n fun v n' => n' = n := by
  refine' cl_def [(Str.ofString "kt", .ref kt), (Str.ofString "args", .ref c)] ?ho ?hcd ?hb ?hl (fun L => ?_) ?hcell ?h1 ?h2 ?h3
  walk_at "def"
  refine r_cons (r_for (r_local rfl ⟨c, cs, fun _ lt tl n0 => tl = [] ∧ n0 = n ∧ lt.lookup (Str.ofString "kt") = some (.ref kt), rfl, .tup hc, ⟨rfl, rfl, rfl⟩, ?_, ?_⟩))
  · rintro i v lt tl n0 I it hv ⟨rfl, rfl, hl⟩ _ _
    obtain ⟨t, rfl⟩ := hs _ (List.mem_of_getElem? hv)
    refine r_cons (r_if (t_not (t_call (r_call ?_))))
    walk_at "g"
    refine ⟨by walk_at "K", r_args (r_local (lkS hl) (r_args (r_local lk0 (r_args0 (o_call ((may_stand_1 (hk.mono fun q hq => .tail _ hq)).mono ?_))))))⟩
    rintro v n' ⟨rfl, rfl⟩
    exact ⟨true, rfl, ifF rfl (r_nil (r_nil ⟨[], n0, rfl, rfl, fun o h => h, rfl, rfl, lkS hl⟩))⟩
  · rintro lt tl n0 ⟨rfl, rfl, hl⟩
    exact r_nil rfl
theorem check_named_1 {kt A c : Addr} {a b : Int} {t u : Tok} {cs : List Value} {m mc : Nat} (hk : KtR n kt) (hA : (A, tup [.int a t, .int b u, .ref c] m) ∈ n) (hb : b = 64 ∨ b = 8) (hc : (c, tup cs mc) ∈ n) (hs : Sev cs) :
    Cl (wd w p loose mg mb) (d + 4) 137 [.ref kt, .ref A] n fun v n' => n' = n := by
  refine' cl_def [(Str.ofString "kt", .ref kt), (Str.ofString "row", .ref A)] ?ho ?hcd ?hb ?hl (fun L => ?_) ?hcell ?h1 ?h2 ?h3
  walk_at "def"
  refine r_cons (r_if (t_or (t_cmp (r_sub (r_local rfl (r_int fun _ => o_tupI hA (by decide) (by decide) rfl (r_int fun _ => o_leI ⟨_, rfl, ifF (by rcases hb with rfl | rfl <;> rfl) ?_⟩)))))))
  refine t_or (t_cmp (r_sub (r_local rfl (r_int fun _ => o_tupI hA (by decide) (by decide) rfl ?_))))
  walk_at "g"
  refine o_inK (DD := tids) (tids_K _) tids_look ⟨_, rfl, ifF (by rcases hb with rfl | rfl <;> rfl) (t_or0 (ifF rfl (r_nil ?_)))⟩
  refine r_cons (r_expr (r_call ?_))
  walk_at "g"
  refine ⟨by walk_at "K", r_args (r_local rfl (r_args (r_sub (r_local rfl (r_int fun _ => o_tupI hA (by decide) (by decide) rfl (r_args0 (o_call ((check_args_1 hk hc hs).mono ?_))))))))⟩
  rintro v n' rfl
  exact r_nil rfl
set_option maxHeartbeats 8000000 in
theorem check_kind_row_1 {kt A c : Addr} {a b : Int} {t u : Tok} {cs : List Value} {m mc : Nat} (hk : KtR n kt) (ha : a = 2 ∨ a = 3) (hA : (A, tup [.int a t, .int b u, .ref c] m) ∈ n) (hb : b = 64 ∨ b = 8) (hc : (c, tup cs mc) ∈ n) (hs : Sev cs) :
    Cl (wd w p loose mg mb) (d + 5) 130 [.ref kt, .ref A] n fun v n' => n' = n := by
  obtain ⟨dk, es, mm, fs, R, rvs, m1, a', t', u', i', g1, g2, g3, g4, g5, g6, g7, g8⟩ := hk.ex
  refine' cl_def [(Str.ofString "kt", .ref kt), (Str.ofString "row", .ref A)] ?ho ?hcd ?hb ?hl (fun L => ?_) ?hcell ?h1 ?h2 ?h3
  walk_at "def"
  refine r_cons (r_if (t_or (t_cmp (r_callB (r_built (by walk_at "K") boot_len ⟨rfl, r_args (r_local rfl (r_args0 (o_lenT hA (by show ((3 : Nat) : Int) < 2 ^ 63; decide) fun _ => r_int fun _ => o_eqI ⟨_, rfl, ifF rfl ?_⟩)))⟩)))))
  refine t_or (t_cmp (r_sub (r_local rfl (r_int fun _ => o_tupI hA (by decide) (by decide) rfl ?_))))
  walk_at "g"
  refine o_leI ⟨_, rfl, ifF (by rcases ha with rfl | rfl <;> rfl) ?_⟩
  refine t_or (t_cmp (r_sub (r_local rfl (r_int fun _ => o_tupI hA (by decide) (by decide) rfl ?_))))
  walk_at "g"
  refine o_gtI ⟨_, rfl, ifF (by rcases ha with rfl | rfl <;> rfl) (t_or0 (ifF rfl (r_nil ?_)))⟩
  refine r_cons (r_assign (r_sub (r_local rfl (r_int fun _ => o_tupI hA (by decide) (by decide) rfl ?_))))
  refine r_cons (r_if (t_cmp (r_callB (r_built (by walk_at "K") boot_len ⟨rfl, r_args (r_local (lkS rfl) (r_args0 (o_lenT hA (by show ((3 : Nat) : Int) < 2 ^ 63; decide) fun _ => r_call ?_)))⟩))))
  walk_at "g"
  refine ⟨by walk_at "K", r_args (r_local lk0 (r_args0 (o_call ((row_length_1 ha).mono ?_))))⟩
  rintro v n' ⟨rfl, tv, rfl⟩
  refine o_neI ⟨_, rfl, ifF rfl (r_nil ?_)⟩
  refine r_cons (r_for (r_call ?_))
  walk_at "g"
  refine ⟨by walk_at "K", r_args (r_local (lkS rfl) (r_args0 (o_call ((inner_kinds_1 ha hA).mono ?_))))⟩
  rintro v n'' ⟨rfl, rfl⟩
  refine ⟨c, cs, fun _ lt tl n0 => tl = [] ∧ n0 = n'' ∧ lt.lookup (Str.ofString "kt") = some (.ref kt) ∧ lt.lookup (Str.ofString "row") = some (.ref A) ∧ lt.lookup (Str.ofString "sort") = some (.int a t), rfl, .tup hc, ⟨rfl, rfl, lkS rfl, lkS rfl, lk0⟩, ?_, ?_⟩
  · rintro i v lt tl n0 I it hv ⟨rfl, rfl, hl, hl2, hl3⟩ _ _
    obtain ⟨t, rfl⟩ := hs _ (List.mem_of_getElem? hv)
    refine r_cons (r_expr (r_meth (r_local (lkS hl) ?_)))
    refine' g_inst (g1.mono fun q hq => .tail _ hq) ?ke ?kf ?kg (by rw [g2.getL, g4]) (m_def (by walk_at "K") (r_args (r_local lk0 (r_args0 (o_call ((row_1 (hk.mono fun q hq => .tail _ hq)).mono ?_))))))
    case ke => walk_at "K"
    case kf => walk_at "K"
    case kg => walk_at "K"
    rintro v n' ⟨rfl, a, t1, u1, i1, rfl, hA⟩
    exact r_nil ⟨[], n0, rfl, rfl, fun o h => h, rfl, rfl, lkS hl, lkS hl2, lkS hl3⟩
  · rintro lt tl n0 ⟨rfl, rfl, hl, hl2, hl3⟩
    refine r_cons (r_if (Rn.mono (k := fun b l' n' => b = true ∧ l' = lt ∧ n' = n0) ?_ ?_))
    · refine t_or (t_cmp (r_local hl3 ?_))
      walk_at "g"
      refine o_eqI ⟨_, rfl, ?_⟩
      rcases ha with rfl | rfl
      · exact ifT rfl ⟨rfl, rfl, rfl⟩
      · refine ifF rfl (t_or (t_cmp (r_local hl3 ?_)))
        walk_at "g"
        exact o_eqI ⟨_, rfl, ifT rfl ⟨rfl, rfl, rfl⟩⟩
    · rintro b2 l2 n2 ⟨rfl, rfl, rfl⟩
      refine ifT rfl (r_cons (r_expr (r_call ?_)))
      walk_at "g"
      refine ⟨by walk_at "K", r_args (r_local hl (r_args (r_local hl2 (r_args0 (o_call ((check_named_1 hk hA hb hc hs).mono ?_))))))⟩
      rintro v n' rfl
      exact r_nil (r_nil rfl)
end

/-! Ct14 -/
theorem snoc7 {vs : List Value} {x y : Value} (h : vs[7]? = some x) : (vs ++ [y])[7]? = some x := by
  rw [List.getElem?_append_left (List.getElem?_eq_some_iff.mp h).1]; exact h
section
variable {w : World} {p : Program} {loose : List Str} {mg mb : Str → Option Value} {d : Nat} {n : Ld}
set_option maxHeartbeats 8000000 in
theorem put_1 {kt A c : Addr} {a b : Int} {t u : Tok} {cs : List Value} {m mc N : Nat} {pre q post : Ld} {P : RKey → Prop} {key : RKey} (ha : a = 2 ∨ a = 3) (hb : b = 64 ∨ b = 8) (hA : (A, tup [.int a t, .int b u, .ref c] m) ∈ pre) (hc : (c, tup cs mc) ∈ pre) (hs : Sev cs) (hz : cs.length ≤ 1)
    (hK : KtIn (wd w p loose mg mb) pre q post kt N P) (hP : ∀ k, P k → k ≠ key) (hN : N < 100) (hkey : RowIn pre key A) :
    Cl (wd w p loose mg mb) (d + 6) 95 [.ref kt, .ref A] (pre ++ q ++ post) fun v n' => (∃ t, v = .int N t) ∧ ∃ q', n' = pre ++ q' ++ post ∧ KtIn (wd w p loose mg mb) pre q' post kt (N + 1) fun k => P k ∨ k = key := by
  obtain ⟨dk, es, mm, fs, hI, hD, hput, hrow, R, X, De, We, Op, rvs, dvs, wvs, ovs, m1, m3, m4, m5, xs, oX, rfl, hF, e1, e2, e3, e4, ⟨a7, t7, u7, i7, s1, s2, s3, hr7, hm7, hd7, hw7, ho7⟩, lX, hob, hnd, hky, e5, hPs⟩ := hK
  rw [List.append_assoc]
  show Cl _ _ _ _ (pre ++ (Op, listOf ovs.toArray m5) :: (We, listOf wvs.toArray m4) :: (De, listOf dvs.toArray m3) :: (X, oX) :: (R, listOf rvs.toArray m1) :: post) _
  have inp : ∀ (q5 : Ld) (z : Addr × Obj), z ∈ pre → z ∈ pre ++ q5 := fun q5 z hz => List.mem_append.mpr (.inl hz)
  have ins : ∀ (o5 o4 o3 o2 o1 : Obj), Ins kt 98 dk es mm (pre ++ (Op, o5) :: (We, o4) :: (De, o3) :: (X, o2) :: (R, o1) :: post) := fun o5 o4 o3 o2 o1 => hI.mono fun z hz => List.mem_append.mpr (.inr (.tail _ (.tail _ (.tail _ (.tail _ (.tail _ hz))))))
  have inO : ∀ (o5 o4 o3 o2 o1 : Obj), (Op, o5) ∈ (pre ++ (Op, o5) :: (We, o4) :: (De, o3) :: (X, o2) :: (R, o1) :: post) := fun o5 o4 o3 o2 o1 => List.mem_append.mpr (.inr (.head _))
  have inW : ∀ (o5 o4 o3 o2 o1 : Obj), (We, o4) ∈ (pre ++ (Op, o5) :: (We, o4) :: (De, o3) :: (X, o2) :: (R, o1) :: post) := fun o5 o4 o3 o2 o1 => List.mem_append.mpr (.inr (.tail _ (.head _)))
  have inD : ∀ (o5 o4 o3 o2 o1 : Obj), (De, o3) ∈ (pre ++ (Op, o5) :: (We, o4) :: (De, o3) :: (X, o2) :: (R, o1) :: post) := fun o5 o4 o3 o2 o1 => List.mem_append.mpr (.inr (.tail _ (.tail _ (.head _))))
  have inX : ∀ (o5 o4 o3 o2 o1 : Obj), (X, o2) ∈ (pre ++ (Op, o5) :: (We, o4) :: (De, o3) :: (X, o2) :: (R, o1) :: post) := fun o5 o4 o3 o2 o1 => List.mem_append.mpr (.inr (.tail _ (.tail _ (.tail _ (.head _)))))
  have inR : ∀ (o5 o4 o3 o2 o1 : Obj), (R, o1) ∈ (pre ++ (Op, o5) :: (We, o4) :: (De, o3) :: (X, o2) :: (R, o1) :: post) := fun o5 o4 o3 o2 o1 => List.mem_append.mpr (.inr (.tail _ (.tail _ (.tail _ (.tail _ (.head _))))))
  have hk : KtR (pre ++ (Op, listOf ovs.toArray m5) :: (We, listOf wvs.toArray m4) :: (De, listOf dvs.toArray m3) :: (X, oX) :: (R, listOf rvs.toArray m1) :: post) kt := ⟨dk, es, mm, fs, R, rvs, m1, a7, t7, u7, i7, ins _ _ _ _ _, hD, hF.r, hrow, inR _ _ _ _ _, hr7, by omega, inp _ _ hm7⟩
  have hz0 : ∀ (o5 o4 o3 o1 : Obj), RowTab (wd w p loose mg mb) (pre ++ (Op, o5) :: (We, o4) :: (De, o3) :: (X, oX) :: (R, o1) :: post) X xs := fun o5 o4 o3 o1 => ⟨lX, ⟨oX, inX _ _ _ _ _, hob⟩, hnd, fun z hz => (hky z hz).mono (inp _)⟩
  refine' cl_def [(Str.ofString "self", .ref kt), (Str.ofString "row", .ref A)] ?ho ?hcd ?hb ?hl (fun L => ?_) ?hcell ?h1 ?h2 ?h3
  walk_at "def"
  refine r_cons (r_assign (r_meth (r_attr (r_local rfl ?_))))
  refine' o_attr (ins _ _ _ _ _) ?ke ?kf ?kg ?kh (by rw [hD.getL, hF.x]) rfl ?_
  walk_at "attr"
  refine g_rget (hz0 _ _ _ _) (m_built (r_args (r_local rfl (r_args (r_unary (r_int fun _ => o_neg fun _ => r_args0 (o_rget (hz0 _ _ _ _) (hkey.mono (inp _)) (fun z hz => hP _ (hPs z hz)) ?_)))))))
  refine r_cons (r_if (t_cmp (r_local lk0 (r_int fun _ => o_geI ⟨_, rfl, ifF rfl (r_nil ?_)⟩))))
  refine r_cons (r_expr (r_call ?_))
  walk_at "g"
  refine ⟨by walk_at "K", r_args (r_local (lkS rfl) (r_args (r_local (lkS rfl) (r_args0 (o_call ((check_kind_row_1 hk ha (inp _ _ hA) hb (inp _ _ hc) hs).mono ?_))))))⟩
  rintro v n' rfl
  refine r_cons (r_assign (r_int fun td => ?_))
  refine r_cons (r_assign (r_int fun tw => ?_))
  refine r_cons (r_assign (r_int fun to => ?_))
  refine r_cons (r_if (t_or (t_cmp (r_sub (r_local (lkS (lkS (lkS (lkS rfl)))) (r_int fun _ => o_tupI (inp _ _ hA) (by decide) (by decide) rfl ?_))))))
  walk_at "g"
  refine o_eqI ⟨_, rfl, ifF (by rcases ha with rfl | rfl <;> rfl) ?_⟩
  refine t_or (t_cmp (r_sub (r_local (lkS (lkS (lkS (lkS rfl)))) (r_int fun _ => o_tupI (inp _ _ hA) (by decide) (by decide) rfl ?_))))
  walk_at "g"
  refine o_eqI ⟨_, rfl, ifF (by rcases ha with rfl | rfl <;> rfl) (t_or0 (ifF rfl (r_nil ?_)))⟩
  refine r_cons (r_assign (r_call ?_))
  walk_at "g"
  refine ⟨by walk_at "K", r_args (r_sub (r_local (lkS (lkS (lkS (lkS rfl)))) (r_int fun _ => o_tupI (inp _ _ hA) (by decide) (by decide) rfl (r_args0 (o_call ((row_level_1 ha).mono ?_))))))⟩
  rintro v n' ⟨rfl, tv, rfl⟩
  refine r_cons (r_for (r_call ?_))
  walk_at "g"
  refine ⟨by walk_at "K", r_args (r_local (lkS (lkS (lkS (lkS (lkS rfl))))) (r_args0 (o_call ((inner_kinds_1 ha (inp _ _ hA)).mono ?_))))⟩
  rintro v n'' ⟨rfl, rfl⟩
  refine ⟨c, cs, fun i lt tl n0 => tl = [] ∧ n0 = pre ++ (Op, listOf ovs.toArray m5) :: (We, listOf wvs.toArray m4) :: (De, listOf dvs.toArray m3) :: (X, oX) :: (R, listOf rvs.toArray m1) :: post ∧
    lt.lookup (Str.ofString "self") = some (.ref kt) ∧ lt.lookup (Str.ofString "row") = some (.ref A) ∧ (∃ tv, lt.lookup (Str.ofString "level") = some (.int 1 tv)) ∧ (∃ D td, lt.lookup (Str.ofString "depth") = some (.int D td) ∧ D ≤ 2) ∧ (∃ Wt tw, lt.lookup (Str.ofString "weight") = some (.int Wt tw) ∧ Wt ≤ 1 + i) ∧ (∃ to, lt.lookup (Str.ofString "opened") = some (.int 0 to)),
    rfl, .tup (inp _ _ hc), ⟨rfl, rfl, lkS (lkS (lkS (lkS (lkS rfl)))), lkS (lkS (lkS (lkS (lkS rfl)))), ⟨_, lk0⟩, ⟨_, _, lkS (lkS (lkS lk0)), by decide⟩, ⟨_, _, lkS (lkS lk0), by decide⟩, ⟨_, lkS lk0⟩⟩, ?_, ?_⟩
  · rintro i v lt tl n0 I it hv ⟨rfl, rfl, hl, hl2, ⟨tv, hl3⟩, ⟨D, td, hl4, hD2⟩, ⟨Wt, tw, hl5, hW⟩, ⟨to, hl6⟩⟩ _ _
    obtain ⟨t, rfl⟩ := hs _ (List.mem_of_getElem? hv)
    have up : ∀ {Ln : Ld} {z : Addr × Obj}, z ∈ Ln → z ∈ ([] : Ld) ++ (I, it) :: Ln := fun hz => .tail _ hz
    have insI := (ins (listOf ovs.toArray m5) (listOf wvs.toArray m4) (listOf dvs.toArray m3) oX (listOf rvs.toArray m1)).mono (n' := ([] : Ld) ++ (I, it) :: (pre ++ (Op, listOf ovs.toArray m5) :: (We, listOf wvs.toArray m4) :: (De, listOf dvs.toArray m3) :: (X, oX) :: (R, listOf rvs.toArray m1) :: post)) fun z hz => .tail _ hz
    refine r_cons (Rn.mono (k := fun fl l' n' => fl = .next ∧ n' = ([] : Ld) ++ (I, it) :: (pre ++ (Op, listOf ovs.toArray m5) :: (We, listOf wvs.toArray m4) :: (De, listOf dvs.toArray m3) :: (X, oX) :: (R, listOf rvs.toArray m1) :: post) ∧
      l'.lookup (Str.ofString "self") = some (.ref kt) ∧ l'.lookup (Str.ofString "row") = some (.ref A) ∧ (∃ tv, l'.lookup (Str.ofString "level") = some (.int 1 tv)) ∧ (∃ D td, l'.lookup (Str.ofString "depth") = some (.int D td) ∧ D ≤ 2) ∧ l'.lookup (Str.ofString "weight") = some (.int Wt tw) ∧ (∃ to, l'.lookup (Str.ofString "opened") = some (.int 0 to)) ∧ l'.lookup (Str.ofString "inner") = some (.int 7 t)) ?_ ?_)
    · refine r_if (t_cmp (r_bin (r_sub (r_attr (r_local (lkS hl) ?_)))))
      refine' o_attr insI ?ke ?kf ?kg ?kh (by rw [hD.getL, hF.d]) rfl (r_local lk0 (o_lstI (up (inD _ _ _ _ _)) (by decide) (by decide) hd7 (r_local (lkS hl3) (o_addI fun _ => r_local (lkS hl4) (o_gtI ⟨_, rfl, ?_⟩)))))
      walk_at "attr"
      by_cases hlt : D < 1 + 1
      · refine ifT (decide_eq_true hlt) (r_cons (r_assign (r_bin (r_sub (r_attr (r_local (lkS hl) ?_))))))
        refine' o_attr insI ?ke ?kf ?kg ?kh (by rw [hD.getL, hF.d]) rfl (r_local lk0 (o_lstI (up (inD _ _ _ _ _)) (by decide) (by decide) hd7 (r_local (lkS hl3) (o_addI fun _ => r_nil ⟨rfl, rfl, lkS (lkS hl), lkS (lkS hl2), ⟨_, lkS (lkS hl3)⟩, ⟨_, _, lk0, by decide⟩, lkS (lkS hl5), ⟨_, lkS (lkS hl6)⟩, lkS lk0⟩))))
        walk_at "attr"
      · exact ifF (decide_eq_false hlt) (r_nil ⟨rfl, rfl, lkS hl, lkS hl2, ⟨_, lkS hl3⟩, ⟨_, _, lkS hl4, hD2⟩, lkS hl5, ⟨_, lkS hl6⟩, lk0⟩)
    · rintro fl l' n' ⟨rfl, rfl, hl, hl2, ⟨tv, hl3⟩, ⟨D, td, hl4, hD2⟩, hl5, ⟨to, hl6⟩, hl7⟩
      refine r_cons (r_augI hl5 (r_sub (r_attr (r_local hl ?_))))
      refine' o_attr insI ?ke ?kf ?kg ?kh (by rw [hD.getL, hF.w]) rfl (r_local hl7 (o_lstI (up (inW _ _ _ _ _)) (by decide) (by decide) hw7 ⟨_, _, rfl, fun tw' => ?_⟩))
      walk_at "attr"
      refine r_cons (r_if (t_cmp (r_sub (r_attr (r_local (lkS hl) ?_)))))
      refine' o_attr insI ?ke ?kf ?kg ?kh (by rw [hD.getL, hF.o]) rfl (r_local (lkS hl7) (o_lstI (up (inO _ _ _ _ _)) (by decide) (by decide) ho7 (r_int fun _ => o_eqI ⟨_, rfl, ifF rfl (r_nil (r_nil ⟨[], _, rfl, rfl, fun o h => h, rfl, rfl, lkS hl, lkS hl2, ⟨_, lkS hl3⟩, ⟨_, _, lkS hl4, hD2⟩, ⟨_, _, lk0, by push_cast; omega⟩, ⟨_, lkS hl6⟩⟩))⟩)))
      walk_at "attr"
  · rintro lt tl n0 ⟨rfl, rfl, hl, hl2, ⟨tv, hl3⟩, ⟨D, td, hl4, hD2⟩, ⟨Wt, tw, hl5, hW⟩, ⟨to, hl6⟩⟩
    refine r_cons (r_if (t_cmp (r_local hl4 ?_)))
    walk_at "g"
    refine o_gtI ⟨_, rfl, ifF (decide_eq_false (by omega)) (r_nil ?_)⟩
    refine r_cons (r_if (t_cmp (r_local hl5 ?_)))
    walk_at "g"
    refine o_gtI ⟨_, rfl, ifF (decide_eq_false (by omega)) (r_nil ?_)⟩
    refine r_cons (r_assign (r_callB (r_built (by walk_at "K") boot_len ⟨rfl, r_args (r_attr (r_local hl ?_))⟩)))
    refine' o_attr (ins _ _ _ _ _) ?ke ?kf ?kg ?kh (by rw [hD.getL, hF.r]) rfl (r_args0 (o_lenL (inR _ _ _ _ _) (by omega) fun tk => ?_))
    walk_at "attr"
    refine r_cons (r_expr (r_meth (r_attr (r_local (lkS hl) ?_))))
    refine' o_attr (ins _ _ _ _ _) ?ke ?kf ?kg ?kh (by rw [hD.getL, hF.r]) rfl (g_list (inR _ _ _ _ _) slot_list_append rfl (m_built (r_args (r_local (lkS hl2) (r_args0 (o_append (.app (.tail (.tail (.tail (.tail .head)))) pre) (by rw [sizeLine_eq]; omega) ?_))))))
    walk_at "attr"
    refine r_cons (r_setitem (r_local lk0 (r_attr (r_local (lkS hl) ?_))))
    refine' o_attr (ins _ _ _ _ _) ?ke ?kf ?kg ?kh (by rw [hD.getL, hF.x]) rfl (r_local (lkS hl2) (o_rset (hz0 _ _ _ _) (hkey.mono (inp _)) (fun z hz => hP _ (hPs z hz)) (by omega) ?_))
    walk_at "attr"
    intro o o' n' od hch _ hT' hTab
    obtain ⟨eo, en⟩ := chg_uniq hch (.app (.tail (.tail (.tail .head))) pre : Chg X oX o' _ _) od
    obtain rfl := en rfl
    refine r_cons (r_expr (r_meth (r_attr (r_local (lkS hl) ?_))))
    refine' o_attr (ins _ _ _ _ _) ?ke ?kf ?kg ?kh (by rw [hD.getL, hF.d]) rfl (g_list (inD _ _ _ _ _) slot_list_append rfl (m_built (r_args (r_local (lkS hl4) (r_args0 (o_append (.app (.tail (.tail .head)) pre) (by rw [sizeLine_eq]; omega) ?_))))))
    walk_at "attr"
    refine r_cons (r_expr (r_meth (r_attr (r_local (lkS hl) ?_))))
    refine' o_attr (ins _ _ _ _ _) ?ke ?kf ?kg ?kh (by rw [hD.getL, hF.w]) rfl (g_list (inW _ _ _ _ _) slot_list_append rfl (m_built (r_args (r_local (lkS hl5) (r_args0 (o_append (.app (.tail .head) pre) (by rw [sizeLine_eq]; omega) ?_))))))
    walk_at "attr"
    refine r_cons (r_expr (r_meth (r_attr (r_local (lkS hl) ?_))))
    refine' o_attr (ins _ _ _ _ _) ?ke ?kf ?kg ?kh (by rw [hD.getL, hF.o]) rfl (g_list (inO _ _ _ _ _) slot_list_append rfl (m_built (r_args (r_local (lkS hl6) (r_args0 (o_append (.app .head pre) (by rw [sizeLine_eq]; omega) ?_))))))
    walk_at "attr"
    refine r_cons (r_return (r_local lk0 ⟨⟨tk, by rw [e1]; rfl⟩, [(Op, _), (We, _), (De, _), (X, _), (R, _)], by rw [List.append_assoc]; rfl, dk, es, mm, fs, hI, hD, hput, hrow, R, X, De, We, Op, _, _, _, _, _, _, _, _, xs ++ [(key, A, .int rvs.length tk)], o', rfl, hF, by simp [e1], by simp [e2], by simp [e3], by simp [e4],
      ⟨a7, t7, u7, i7, s1, s2, s3, snoc7 hr7, hm7, snoc7 hd7, snoc7 hw7, snoc7 ho7⟩, lX, hT', hTab.nd, ?_, by simp [e5], ?_⟩))
    · intro z hz
      rcases List.mem_append.mp hz with hz | hz
      · exact hky z hz
      · rw [List.mem_singleton.mp hz]; exact hkey
    · intro z hz
      rcases List.mem_append.mp hz with hz | hz
      · exact .inl (hPs z hz)
      · rw [List.mem_singleton.mp hz]; exact .inr rfl
end

/-! Ct15 -/
noncomputable def lawB : List Stmt := match tS 124 with
  | .FunctionDef _ _ body _ _ _ _ _ _ _ => body
  | _ => []
noncomputable def lawSc : Scope := match tS 124 with
  | .FunctionDef _ _ _ _ _ _ sc _ _ _ => sc
  | _ => ⟨.function, [], false, false, []⟩
noncomputable abbrev lawF (L fa cp cs : Addr) (cd : Value) : FI := ⟨Str.ofString "law", lawSc, L, fa, cd, [(Str.ofString "pool", cp), (Str.ofString "seed", cs)]⟩
/-- the numbers, the two cells -/
structure Bas (n : Ld) (N cp cs : Addr) (ns : List Int) (sv pv : Option Value) : Prop where
  nums : ∃ vs m, (N, listOf vs.toArray m) ∈ n ∧ IntsAre vs ns
  few : ns.length ≤ 24
  low : ∀ x ∈ ns, 0 ≤ x ∧ x < 1000000007
  pool : ∃ o, (cp, o) ∈ n ∧ o.data = .cell pv
  seed : ∃ o, (cs, o) ∈ n ∧ o.data = .cell sv
  ne : cp ≠ cs
theorem Bas.mono {n n' : Ld} (h : ∀ q ∈ n, q ∈ n') {N cp cs : Addr} {ns : List Int} {sv pv : Option Value} (b : Bas n N cp cs ns sv pv) : Bas n' N cp cs ns sv pv :=
  ⟨let ⟨vs, m, h1, h2⟩ := b.nums; ⟨vs, m, h _ h1, h2⟩, b.few, b.low, let ⟨o, h1, h2⟩ := b.pool; ⟨o, h _ h1, h2⟩, let ⟨o, h1, h2⟩ := b.seed; ⟨o, h _ h1, h2⟩, b.ne⟩
theorem sum_low {ns : List Int} (h : ∀ x ∈ ns, 0 ≤ x ∧ x < 1000000007) : 0 ≤ ns.sum ∧ ns.sum ≤ 1000000007 * ns.length := by
  induction ns with
  | nil => exact ⟨by decide, by decide⟩
  | cons x r ih =>
    have h1 := ih fun y hy => h y (.tail _ hy)
    have h2 := h x (.head _)
    rw [List.sum_cons, List.length_cons]
    omega
/-- an entry that is no cell stays where a cell is turned -/
theorem Chg.keepC {c : Addr} {o o' : Obj} {v₀ : Option Value} {n n' : Ld} (h : Chg c o o' n n') (hd : o.data = .cell v₀) {p : Addr × Obj} (hp : p ∈ n) (hn : ∀ v, p.2.data ≠ .cell v) : p ∈ n' :=
  h.keepO hp fun e => hn v₀ (by rw [e]; exact hd)
section
variable {w : World} {p : Program} {loose : List Str} {mg mb : Str → Option Value} {d : Nat} {n : Ld} {l : Bs}
theorem law_s2 {L fa cp cs N : Addr} {cd : Value} {ns : List Int} (hl : l.lookup (Str.ofString "nums") = some (.ref N)) (hb : Bas n N cp cs ns none none) :
    Rn (wd w p loose mg mb) (lawF L fa cp cs cd) (d + 12) l n (execs ((lawB.drop 1).take 1)) fun fl l' n' => fl = .next ∧ l' = l ∧ ∃ sd t, 0 ≤ sd ∧ sd < 1000000007 ∧ Bas n' N cp cs ns (some (.int sd t)) none := by
  obtain ⟨vs, m, hN, hi⟩ := hb.nums
  obtain ⟨os, hs, hsd⟩ := hb.seed
  obtain ⟨op, hp, hpd⟩ := hb.pool
  have hlo := sum_low hb.low
  have hfew := hb.few
  conv in List.take 1 (List.drop 1 lawB) => whnf
  refine r_cons (r_assignC (r_bin (r_bin (r_bin (r_callB (r_built (by walk_at "K") boot_sum ⟨rfl, r_args (r_local hl (r_args0 (o_sum hN hi fun _ => r_int fun _ => o_addI fun _ => r_int fun _ => o_mulI ?_ fun _ => r_int fun _ => o_modI (by decide) fun tsd => ?_)))⟩))))))
  · exact IntMulOk.of_right (by decide)
  · refine ⟨cs, os, none, rfl, hs, hsd, fun o' n2 hd' hc => r_nil ⟨rfl, rfl, _, tsd, Int.fmod_nonneg_of_pos _ (by decide), Int.fmod_lt_of_pos _ (by decide), ⟨vs, m, hc.keepC hsd hN (fun v e => nomatch e), hi⟩, hb.few, hb.low, ⟨op, hc.keep hp hb.ne, hpd⟩, ⟨o', hc.mem', hd'⟩, hb.ne⟩⟩
/-- the seat, as it is made -/
def CxAt (T : Ld) (cx : Addr) : Prop := ∃ dx es m fs tA td tc dt et mt ft gA mg, Ins cx 622 dx es m T ∧ DF es fs ∧ fs.lookup (Str.ofString "turner") = some (.ref tA) ∧ fs.lookup (Str.ofString "told") = some (.ref td) ∧ (td, listOf ([] : List Value).toArray 0) ∈ T ∧
  fs.lookup (Str.ofString "checked") = some (.int 0 tc) ∧ fs.lookup (Str.ofString "convert") = none ∧ fs.length < 100 ∧
  Ins tA 531 dt et mt T ∧ DF et ft ∧ ft.lookup (Str.ofString "goes") = some (.ref gA) ∧ (gA, dictOf [] mg) ∈ T ∧ (gA == sysModules) = false ∧ ft.lookup (Str.ofString "convert") = none ∧ dt ≠ dx
theorem CxAt.mono {n n' : Ld} (h : ∀ q ∈ n, q ∈ n') {cx : Addr} (c : CxAt n cx) : CxAt n' cx :=
  let ⟨dx, es, m, fs, tA, td, tc, dt, et, mt, ft, gA, mg, h1, h2, h3, h4, h5, h6, h7, h8, h9, h10, h11, h12, r⟩ := c
  ⟨dx, es, m, fs, tA, td, tc, dt, et, mt, ft, gA, mg, h1.mono h, h2, h3, h4, h _ h5, h6, h7, h8, h9.mono h, h10, h11, h _ h12, r⟩
set_option maxHeartbeats 8000000 in
theorem law_s3 {L fa cp cs : Addr} {cd : Value} :
    Rn (wd w p loose mg mb) (lawF L fa cp cs cd) (d + 12) l n (execs ((lawB.drop 2).take 3)) fun fl l' n' => fl = .next ∧ ∃ st kt cx pre q post, l' = sto (Str.ofString "cx") (.ref cx) (sto (Str.ofString "kt") (.ref kt) (sto (Str.ofString "store") (.ref st) l)) ∧
      n' = pre ++ q ++ (post ++ n) ∧ KtIn (wd w p loose mg mb) pre q post kt 16 (fun k => ∃ b, k = .two 1 b) ∧ CxAt pre cx := by
  conv in List.take 3 (List.drop 2 lawB) => whnf
  refine r_cons (r_assign (r_call0 ?_))
  walk_at "g"
  refine ⟨by walk_at "K", o_new (by walk_at "K") (by walk_at "K") (by walk_at "K") fun st dst _ _ => (store_1).mono ?_⟩
  rintro v n' ⟨rfl, tl, es, ms, fs, rfl, hD, pre, q, post, kt, rfl, hkt, hK⟩
  refine ⟨rfl, ?_⟩
  have iS : Ins st 732 dst es ms (pre ++ q ++ post ++ (st, instObj 732 dst) :: (dst, dictOf es ms) :: n) := ⟨List.mem_append.mpr (.inr (.head _)), List.mem_append.mpr (.inr (.tail _ (.head _)))⟩
  refine r_cons (r_assign (r_attr (r_local lk0 ?_)))
  refine' o_attr iS ?ke ?kf ?kg ?kh (by rw [hD.getL, hkt]) rfl ?_
  walk_at "attr"
  refine r_cons (r_assign (r_call ?_))
  walk_at "g"
  refine ⟨by walk_at "K", r_args (r_call ?_)⟩
  walk_at "g"
  refine ⟨by walk_at "K", r_args (r_local (lkS lk0) (r_args (r_int fun _ => r_args0 (o_new (by walk_at "K") (by walk_at "K") (by walk_at "K") fun u du _ _ => (unit_1).mono ?_))))⟩
  rintro v n' ⟨rfl, tlu, eu, mu, fu, rfl, hDu, hfu⟩
  refine ⟨rfl, r_args (r_int fun _ => r_args (r_call ?_))⟩
  walk_at "g"
  refine ⟨by walk_at "K", r_args (r_local lk0 (r_args0 (o_new (by walk_at "K") (by walk_at "K") (by walk_at "K") fun ho dh _ _ => (host_1).mono ?_)))⟩
  rintro v n' ⟨rfl, tlh, eh, mh, fh, rfl, hDh, _⟩
  refine ⟨rfl, r_args0 (o_new (by walk_at "K") (by walk_at "K") (by walk_at "K") fun cx dcx _ _ => (pew_1 (u := u) (st := st) (kt := kt) ?_ ?_).mono ?_)⟩
  · exact ⟨du, eu, mu, fu, ⟨List.mem_append.mpr (.inr (.tail _ (.tail _ (List.mem_append.mpr (.inr (.head _)))))), List.mem_append.mpr (.inr (.tail _ (.tail _ (List.mem_append.mpr (.inr (.tail _ (.head _)))))))⟩, hDu, hfu⟩
  · exact ⟨dst, es, ms, fs, iS.mono fun z hz => List.mem_append.mpr (.inr (.tail _ (.tail _ (List.mem_append.mpr (.inr (.tail _ (.tail _ hz))))))), hD, hkt⟩
  rintro v n' ⟨rfl, tlp, ep, mp, fp, rfl, hDp, tA, td, tc, h1, h2, h3, h4, h5, h6, dt, et, mt, ft, gA, mg', h7, h8, h9, h10, h11, h12⟩
  have up : ∀ z ∈ tlp, z ∈ tlp ++ ((cx, instObj 622 dcx) :: (dcx, dictOf ep mp) :: (tlh ++ (ho, instObj 711 dh) :: (dh, dictOf eh mh) :: (tlu ++ (u, instObj 243 du) :: (du, dictOf eu mu) :: pre))) := fun z hz => List.mem_append.mpr (.inl hz)
  refine ⟨rfl, r_od fun od => r_nil ⟨rfl, st, kt, cx, tlp ++ ((cx, instObj 622 dcx) :: (dcx, dictOf ep mp) :: (tlh ++ (ho, instObj 711 dh) :: (dh, dictOf eh mh) :: (tlu ++ (u, instObj 243 du) :: (du, dictOf eu mu) :: pre))), q, post ++ [(st, instObj 732 dst), (dst, dictOf es ms)], rfl, by simp, ?_, ?_⟩⟩
  · exact hK.mono (fun z hz => List.mem_append.mpr (.inr (.tail _ (.tail _ (List.mem_append.mpr (.inr (.tail _ (.tail _ (List.mem_append.mpr (.inr (.tail _ (.tail _ hz))))))))))))  fun z hz => List.mem_append.mpr (.inl hz)
  · refine ⟨dcx, ep, mp, fp, tA, td, tc, dt, et, mt, ft, gA, mg', ⟨List.mem_append.mpr (.inr (.head _)), List.mem_append.mpr (.inr (.tail _ (.head _)))⟩, hDp, h1, h2, up _ h3, h4, h5, h6, h7.mono up, h8, h9, up _ h10, h11, h12, ?_⟩
    rw [List.map_append, List.pairwise_append] at od
    exact Nat.ne_of_gt (od.2.2 _ (List.mem_map_of_mem h7.di) _ (.tail _ (.head _)))
end

/-! Ct16 -/
section
variable {w : World} {p : Program} {loose : List Str} {mg mb : Str → Option Value} {d : Nat} {n : Ld} {l : Bs}
set_option maxHeartbeats 8000000 in
theorem law_s6 {L fa cp cs kt : Addr} {cd : Value} {pre q post : Ld} (hl : l.lookup (Str.ofString "kt") = some (.ref kt)) (hK : KtIn (wd w p loose mg mb) pre q post kt 16 (fun k => ∃ b, k = .two 1 b)) :
    Rn (wd w p loose mg mb) (lawF L fa cp cs cd) (d + 12) l (pre ++ q ++ post) (execs ((lawB.drop 5).take 2)) fun fl l' n' => fl = .next ∧ ∃ t1 t2 pre' q', l' = sto (Str.ofString "maybe") (.int 17 t2) (sto (Str.ofString "thing") (.int 16 t1) l) ∧
      n' = pre' ++ q' ++ post ∧ ∀ z ∈ pre, z ∈ pre' := by
  conv in List.take 2 (List.drop 5 lawB) => whnf
  refine r_cons (r_assign (r_meth (r_local hl ?_)))
  have hK1 := hK
  obtain ⟨dk, es, m, fs, hI, hD, hput, hrow, _⟩ := hK1
  refine' g_inst (hI.mono fun z hz => List.mem_append.mpr (.inr hz)) ?ke ?kf ?kg (by rw [hD.getL, hput]) ?_
  case ke => walk_at "K"
  case kf => walk_at "K"
  case kg => walk_at "K"
  refine m_def (by walk_at "K") (r_args (r_tuple (r_args ?_)))
  walk_at "g"
  refine r_args (r_int fun t64 => r_args (r_tuple (r_args0 ⟨by decide, fun c1 => r_args0 ⟨len3, fun A1 => r_args0 (o_call ?_)⟩⟩)))
  refine (put_1 (d := d + 6) (pre := (A1, tup [.int 2 _, .int 64 t64, .ref c1] 0) :: (c1, tup [] 0) :: pre) (q := q) (post := post) (key := .three 2 64 []) (.inl rfl) (.inl rfl) (.head _) (.tail _ (.head _)) (fun _ h => nomatch h) (by decide) (hK.mono (fun z hz => .tail _ (.tail _ hz)) fun z hz => hz) ?_ (by decide) ⟨_, _, .head _, .three (p := pw) (w := w) (.tail _ (.head _)) .nil⟩).mono ?_
  · rintro k ⟨b, rfl⟩ h; cases h
  rintro v n' ⟨⟨t1, rfl⟩, q1, rfl, hK2⟩
  refine r_cons (r_assign (r_meth (r_local (lkS hl) ?_)))
  have hK3 := hK2
  obtain ⟨dk, es, m, fs, hI, hD, hput, hrow, _⟩ := hK3
  refine' g_inst (hI.mono fun z hz => List.mem_append.mpr (.inr hz)) ?ke ?kf ?kg (by rw [hD.getL, hput]) ?_
  case ke => walk_at "K"
  case kf => walk_at "K"
  case kg => walk_at "K"
  refine m_def (by walk_at "K") (r_args (r_tuple (r_args ?_)))
  walk_at "g"
  refine r_args ?_
  walk_at "g"
  refine r_args (r_tuple (r_args ?_))
  walk_at "g"
  refine r_args0 ⟨len1, fun c2 => r_args0 ⟨len3, fun A2 => r_args0 (o_call ?_)⟩⟩
  refine (put_1 (d := d + 6) (pre := (A2, tup [.int 3 _, .int 8 _, .ref c2] 0) :: (c2, tup [.int 7 _] 0) :: (A1, tup [.int 2 _, .int 64 t64, .ref c1] 0) :: (c1, tup [] 0) :: pre) (q := q1) (post := post) (key := .three 3 8 [7]) (.inr rfl) (.inr rfl) (.head _) (.tail _ (.head _)) (fun x h => ⟨_, List.mem_singleton.mp h⟩) (by decide) (hK2.mono (fun z hz => .tail _ (.tail _ hz)) fun z hz => hz) ?_ (by decide) ⟨_, _, .head _, .three (p := pw) (w := w) (.tail _ (.head _)) (.cons (intKind_is ..) .nil)⟩).mono ?_
  · rintro k (⟨b, rfl⟩ | rfl) h <;> cases h
  rintro v n' ⟨⟨t2, rfl⟩, q2, rfl, hK4⟩
  exact r_nil ⟨rfl, t1, t2, _, q2, rfl, rfl, fun z hz => .tail _ (.tail _ (.tail _ (.tail _ hz)))⟩
/-- the kinds of the pool, in order -/
def Kinds8 (vs : List Value) (t : Fin 8 → Tok) : Prop := vs = [.int 13 (t 0), .int 12 (t 1), .int 16 (t 2), .int 7 (t 3), .int 9 (t 4), .int 1 (t 5), .int 2 (t 6), .int 17 (t 7)]
theorem CxAt.chgC {c cx : Addr} {o o' : Obj} {v₀ : Option Value} {n n' : Ld} (h : Chg c o o' n n') (hd : o.data = .cell v₀) (x : CxAt n cx) : CxAt n' cx :=
  let ⟨dx, es, m, fs, tA, td, tc, dt, et, mt, ft, gA, mg, h1, h2, h3, h4, h5, h6, h7, h8, h9, h10, h11, h12, r⟩ := x
  ⟨dx, es, m, fs, tA, td, tc, dt, et, mt, ft, gA, mg, ⟨h.keepC hd h1.ob (fun v e => nomatch e), h.keepC hd h1.di (fun v e => nomatch e)⟩, h2, h3, h4, h.keepC hd h5 (fun v e => nomatch e), h6, h7, h8, ⟨h.keepC hd h9.ob (fun v e => nomatch e), h.keepC hd h9.di (fun v e => nomatch e)⟩, h10, h11, h.keepC hd h12 (fun v e => nomatch e), r⟩
set_option maxHeartbeats 8000000 in
theorem law_s8 {L fa cp cs N cx : Addr} {cd : Value} {ns : List Int} {sv : Option Value} {t1 t2 : Tok} (h1 : l.lookup (Str.ofString "thing") = some (.int 16 t1)) (h2 : l.lookup (Str.ofString "maybe") = some (.int 17 t2)) (hb : Bas n N cp cs ns sv none) (hx : CxAt n cx) :
    Rn (wd w p loose mg mb) (lawF L fa cp cs cd) (d + 12) l n (execs ((lawB.drop 7).take 1)) fun fl l' n' => fl = .next ∧ l' = l ∧ ∃ pA vs t, (pA, listOf vs.toArray 0) ∈ n' ∧ Kinds8 vs t ∧ Bas n' N cp cs ns sv (some (.ref pA)) ∧ CxAt n' cx := by
  obtain ⟨vs, m, hN, hi⟩ := hb.nums
  obtain ⟨os, hs, hsd⟩ := hb.seed
  obtain ⟨op, hp, hpd⟩ := hb.pool
  conv in List.take 1 (List.drop 7 lawB) => whnf
  refine r_cons (r_assignC (r_list (r_args ?_)))
  walk_at "g"
  refine r_args ?_
  walk_at "g"
  refine r_args (r_local h1 (r_args ?_))
  walk_at "g"
  refine r_args ?_
  walk_at "g"
  refine r_args ?_
  walk_at "g"
  refine r_args ?_
  walk_at "g"
  refine r_args (r_local h2 (r_args0 ⟨by show 8 ≤ _; decide, fun pA => ⟨cp, op, none, rfl, .tail _ hp, hpd, fun o' n2 hd' hc => r_nil ⟨rfl, rfl, pA, _, fun i => match i with | 0 => _ | 1 => _ | 2 => _ | 3 => _ | 4 => _ | 5 => _ | 6 => _ | 7 => _, hc.keepC hpd (.head _) (fun v e => nomatch e), rfl, ?_, ?_⟩⟩⟩))
  · exact ⟨⟨vs, m, hc.keepC hpd (.tail _ hN) (fun v e => nomatch e), hi⟩, hb.few, hb.low, ⟨o', hc.mem', hd'⟩, ⟨os, hc.keep (.tail _ hs) (fun e => hb.ne e.symm), hsd⟩, hb.ne⟩
  · exact CxAt.chgC hc hpd (hx.mono fun z hz => .tail _ hz)
end

/-! Ct17 -/
/-- a dict's object, its keys (tuples of ints) in S -/
def TO (W : Wd) (S : Ld) (g : Addr) (o : Obj) (D : List (PyData × PyData)) : Prop :=
  (g == sysModules) = false ∧ ∃ es ep xs, o.ExactDict ∧ o.data = .dict es ep ∧ es.toList = xs.map (entryOfKey (tupleKind (intKind W.prog W.w))) ∧ (xs.map (·.1)).Nodup ∧
    (∀ x ∈ xs, ∃ ok, (x.2.1, ok) ∈ S ∧ TupKeyObj (intKind W.prog W.w) x.1 ok) ∧ FlatPairs (encTuple PyData.int) (kvsOf xs) D
theorem TO.mono {W : Wd} {S S' : Ld} (h : ∀ q ∈ S, q ∈ S') {g : Addr} {o : Obj} {D : List (PyData × PyData)} (T : TO W S g o D) : TO W S' g o D :=
  let ⟨lo, es, ep, xs, h1, h2, h3, h4, h5, h6⟩ := T
  ⟨lo, es, ep, xs, h1, h2, h3, h4, fun x hx => let ⟨ok, q, r⟩ := h5 x hx; ⟨ok, h _ q, r⟩, h6⟩
theorem TO.tab {W : Wd} {n : Ld} {g : Addr} {o : Obj} {D : List (PyData × PyData)} (T : TO W n g o D) (hm : (g, o) ∈ n) : TT2 W n g D :=
  let ⟨lo, es, ep, xs, h1, h2, h3, h4, h5, h6⟩ := T
  ⟨lo, o, es, ep, xs, hm, h1, h2, h3, h4, h5, h6⟩
theorem TO.empty {W : Wd} {S : Ld} {g : Addr} {m : Nat} (lo : (g == sysModules) = false) : TO W S g (dictOf [] m) [] :=
  ⟨lo, _, m, [], ⟨rfl, rfl, rfl⟩, rfl, rfl, List.nodup_nil, (fun _ h => nomatch h), .nil⟩
theorem chg_split {g : Addr} {o o' : Obj} {b : Ld} : ∀ {a n' : Ld}, Chg g o o' (a ++ b) n' → (∀ z ∈ a, z.1 ≠ g) → ∃ b', n' = a ++ b' ∧ Chg g o o' b b'
  | [], n', h, _ => ⟨n', rfl, h⟩
  | z :: a, n', h, hn => by
    cases h with
    | head => exact absurd rfl (hn (g, o) (.head _))
    | tail h =>
      obtain ⟨b', rfl, hb⟩ := chg_split h fun z hz => hn z (.tail _ hz)
      exact ⟨b', rfl, hb⟩
theorem od_ne {n : Ld} (od : Od n) {a g : Addr} {o o2 : Obj} (h1 : (a, o) ∈ n) (h2 : (g, o2) ∈ n) (h : o ≠ o2) : a ≠ g := fun e => h (od_uniq od (e ▸ h1) h2)
section
variable {W : Wd} {F : FI} {d : Nat} {l : Bs} {n : Ld}
theorem o_dsetS {S : Ld} {g a : Addr} {og : Obj} {D : List (PyData × PyData)} {x y c : Int} {t u tc : Tok} {k : Unit → Bs → Ld → Prop} (hs : ∀ z ∈ S, z ∈ n) (hm : (g, og) ∈ n) (T : TO W S g og D) (ha : (a, tup [.int x t, .int y u] 0) ∈ S) (hz : D.length ≤ 1000)
    (h : ∀ o' n', Od n → Chg g og o' n n' → TO W S g o' (putD (kT [x, y]) (.int c) D) → k () l n') : Rn W F d l n (fun _ => setItem (.ref g) (.ref a) (.int c tc)) k :=
  fun A _ _ _ _ s _ S₀ D₀ kQ => by
    obtain ⟨lo, es, ep, xs, hc, hd, he, hn, hk, hf⟩ := T
    have tk := two_ints (p := W.prog) (w := W.w) (a := x) (b := y) (t := t) (u := u)
    have hD : s.heap.DictOfH (tupleKind (intKind W.prog W.w)) g xs := ⟨og, es, ep, D₀.nw.get hm, hc, hd, he, fun z hz => let ⟨_, hmk, q⟩ := hk z hz; q.key (D₀.nw.get (hs _ hmk)), hn⟩
    have hxs : xs.length ≤ sizeLine := by
      have e := hf.length
      simp only [kvsOf, List.length_map] at e
      rw [sizeLine_eq]; omega
    refine wpAny_setItem_heap (hsz := hxs) (knd := tupleKind (intKind W.prog W.w)) (tupleKind_room_in1 (by have := S₀.uni; omega)) (tk.key (D₀.nw.get (hs _ ha))) hD fun h' hm' hs' => ?_
    obtain ⟨o', es', ep', ho', hc', hd', he', _, hn'⟩ := hm'
    obtain ⟨n', hch⟩ := mem_chg (o' := o') hm
    obtain ⟨pre, post, e1, e2, h1, h2⟩ := (hch.upd D₀.od).split
    refine kQ _ _ _ h' _ ⟨D₀.fr.change hs' (D₀.nw _ hm).2.1 (D₀.nw.fresh hm), by rw [e2]; exact news_set (e1 ▸ D₀.nw) h1 h2 hs' ho', by rw [hch.keys]; exact D₀.od⟩ (h _ _ D₀.od hch ⟨lo, es', ep', storedH xs [x, y] a (.int c tc), hc', hd', he', hn', fun z hz => ?_, by rw [kvsOf_storedH]; exact hf.stored (same_encTuple same_int) [x, y] (fun _ => .int _ _)⟩)
    rcases mem_storedH hz with ⟨y', hy, q1, q2⟩ | ⟨q1, q2⟩
    · obtain ⟨oky, hmk, q⟩ := hk y' hy
      exact ⟨oky, by rw [q2]; exact hmk, by rw [q1]; exact q⟩
    · exact ⟨_, by rw [q2]; exact ha, by rw [q1]; exact tk⟩
theorem o_dsetT {S : Ld} {g a : Addr} {og : Obj} {D : List (PyData × PyData)} {x y c : Int} {t u tc : Tok} {k : Unit → Bs → Ld → Prop} (hs : ∀ z ∈ S, z ∈ n) (hm : (g, og) ∈ n) (T : TO W S g og D) (hz : D.length ≤ 1000)
    (h : ∀ o' n', Od ((a, tup [.int x t, .int y u] 0) :: n) → Chg g og o' ((a, tup [.int x t, .int y u] 0) :: n) n' → TO W ((a, tup [.int x t, .int y u] 0) :: S) g o' (putD (kT [x, y]) (.int c) D) → k () l n') : Rn W F d l ((a, tup [.int x t, .int y u] 0) :: n) (fun _ => setItem (.ref g) (.ref a) (.int c tc)) k :=
  o_dsetS (S := (a, tup [.int x t, .int y u] 0) :: S) (fun z hz => (List.mem_cons.mp hz).elim (fun e => e ▸ .head _) fun hz => .tail _ (hs z hz)) (.tail _ hm) (T.mono fun q hq => .tail _ hq) (.head _) hz h
end
noncomputable def Dg (i : Nat) : List (PyData × PyData) := (kinds9.take i).foldl (fun D k => putD (kT [k, 12]) (.int (cvK k)) D) []
theorem dg_step {i : Nat} {k : Int} (h : kinds9[i]? = some k) : putD (kT [k, 12]) (.int (cvK k)) (Dg i) = Dg (i + 1) := by
  unfold Dg
  rw [List.take_add_one, h, List.foldl_append]
  rfl
theorem dg_len : ∀ i, (Dg i).length ≤ i
  | 0 => Nat.le_refl _
  | i + 1 => by
    cases h : kinds9[i]? with
    | some k => rw [← dg_step h]; exact Nat.le_trans (putD_length_le _ _ _) (Nat.succ_le_succ (dg_len i))
    | none =>
      have e : Dg (i + 1) = Dg i := by
        unfold Dg
        rw [List.take_add_one, h]
        simp
      rw [e]; exact Nat.le_succ_of_le (dg_len i)
theorem dg_all : ∀ k ∈ kinds9, PySem.Spec.lookup (kT [k, 12]) (Dg 9) = some (.int (cvK k)) := by
  intro k hk
  simp only [kinds9, List.mem_cons, List.not_mem_nil, or_false] at hk
  rcases hk with rfl | rfl | rfl | rfl | rfl | rfl | rfl | rfl | rfl <;> kernel_rfl
theorem kinds_at {vs : List Value} {t : Fin 8 → Tok} (h : Kinds8 vs t) {u : Tok} {i : Nat} {v : Value} (e : (vs ++ [.int 14 u])[i]? = some v) : ∃ k tk, v = .int k tk ∧ kinds9[i]? = some k := by
  rw [h] at e
  rcases i with _ | _ | _ | _ | _ | _ | _ | _ | _ | i
  · exact ⟨_, _, (Option.some.inj e).symm, rfl⟩
  · exact ⟨_, _, (Option.some.inj e).symm, rfl⟩
  · exact ⟨_, _, (Option.some.inj e).symm, rfl⟩
  · exact ⟨_, _, (Option.some.inj e).symm, rfl⟩
  · exact ⟨_, _, (Option.some.inj e).symm, rfl⟩
  · exact ⟨_, _, (Option.some.inj e).symm, rfl⟩
  · exact ⟨_, _, (Option.some.inj e).symm, rfl⟩
  · exact ⟨_, _, (Option.some.inj e).symm, rfl⟩
  · exact ⟨_, _, (Option.some.inj e).symm, rfl⟩
  · exact nomatch e
theorem od_low {a b : Ld} (od : Od (a ++ b)) {g : Addr} {o : Obj} (h : (g, o) ∈ b) : ∀ z ∈ a, z.1 ≠ g := fun z hz => by
  rw [Od, List.map_append, List.pairwise_append] at od
  exact Nat.ne_of_gt (od.2.2 _ (List.mem_map_of_mem hz) _ (List.mem_map.mpr ⟨_, h, rfl⟩))
section
variable {w : World} {p : Program} {loose : List Str} {mg mb : Str → Option Value} {d : Nat} {n : Ld} {l : Bs}
set_option maxHeartbeats 8000000 in
theorem law_s9 {L fa cp cs cx dx tA dt gA pA : Addr} {cd : Value} {es et : List DictEntry} {m mt mg' : Nat} {fs ft : Bs} {t1 : Tok} {vs : List Value} {t : Fin 8 → Tok} (hcx : l.lookup (Str.ofString "cx") = some (.ref cx)) (hth : l.lookup (Str.ofString "thing") = some (.int 16 t1))
    (iC : Ins cx 622 dx es m n) (hDC : DF es fs) (hT : fs.lookup (Str.ofString "turner") = some (.ref tA)) (iT : Ins tA 531 dt et mt n) (hDT : DF et ft) (hG : ft.lookup (Str.ofString "goes") = some (.ref gA)) (hg : (gA, dictOf [] mg') ∈ n) (lo : (gA == sysModules) = false)
    (ne1 : cx ≠ gA) (ne2 : dx ≠ gA) (ne3 : tA ≠ gA) (ne4 : dt ≠ gA) (hpool : ∃ o, (cp, o) ∈ n ∧ o.data = .cell (some (.ref pA))) (hP : (pA, listOf vs.toArray 0) ∈ n) (hv : Kinds8 vs t) :
    Rn (wd w p loose mg mb) (lawF L fa cp cs cd) (d + 12) l n (execs ((lawB.drop 8).take 1)) fun fl l' n' => fl = .next ∧ (∀ y, y ≠ Str.ofString "k" → l'.lookup y = l.lookup y) ∧ (∀ z ∈ n, z.1 ≠ gA → z ∈ n') ∧ ∃ o, (gA, o) ∈ n' ∧ TO (wd w p loose mg mb) n' gA o (Dg 9) := by
  obtain ⟨op, hp, hpd⟩ := hpool
  have hv8 : vs.length = 8 := by rw [hv]; rfl
  conv in List.take 1 (List.drop 8 lawB) => whnf
  refine r_cons (r_for (r_bin (r_cell rfl hp hpd (r_list (r_args ?_)))))
  walk_at "g"
  refine r_args0 ⟨len1, fun Z => o_addL (.tail _ hP) (.head _) (by rw [hv8]; show 9 ≤ _; decide) fun B => ?_⟩
  refine ⟨B, _, fun i lt tl n0 => (∀ y, y ≠ Str.ofString "k" → lt.lookup y = l.lookup y) ∧ (∀ z ∈ n, z.1 ≠ gA → z ∈ n0) ∧ ∃ o, (gA, o) ∈ n0 ∧ TO (wd w p loose mg mb) tl gA o (Dg i), rfl, .list (.head _), ⟨fun _ _ => rfl, fun z hz _ => .tail _ (.tail _ hz), _, .tail _ (.tail _ hg), TO.empty lo⟩, ?_, ?_⟩
  · rintro i v lt tl n0 I it hv' ⟨hl, hn, o, ho, hTO⟩ _ hkeys
    obtain ⟨k9, tk, rfl, hk9⟩ := kinds_at hv hv'
    refine r_od fun od => ?_
    have od0 : Od n0 := by
      have z : List.Pairwise (· > ·) ((tl ++ (I, it) :: n0).map (·.1)) := od
      rw [List.map_append, List.pairwise_append] at z
      exact (List.pairwise_cons.mp z.2.1).2
    have hB : B ≠ gA := by
      have z : List.Pairwise (· > ·) (n0.map (·.1)) := od0
      rw [hkeys] at z
      exact od_ne z (.head _) (.tail _ (.tail _ hg)) fun e => by have := congrArg Obj.data e; cases this
    have up : ∀ z ∈ n, z.1 ≠ gA → z ∈ tl ++ (I, it) :: n0 := fun z hz hne => List.mem_append.mpr (.inr (.tail _ (hn z hz hne)))
    refine r_cons (r_setitem (Rn.mono (k := fun v l' n' => (∃ tc, v = .int (cvK k9) tc) ∧ l' = sto (Str.ofString "k") (.int k9 tk) lt ∧ n' = tl ++ (I, it) :: n0) ?_ ?_))
    · refine r_ifexp (t_cmp (r_local lk0 (r_local (lkS (by rw [hl _ (by decide)]; exact hth)) (o_eqI ⟨_, rfl, ?_⟩))))
      by_cases h16 : k9 = 16
      · refine ifT (by rw [h16]; rfl) ?_
        walk_at "g"
        exact ⟨⟨_, by rw [h16]; rfl⟩, rfl, rfl⟩
      · refine ifF (beq_false_of_ne h16) ?_
        walk_at "g"
        exact ⟨⟨_, by unfold cvK; rw [if_neg h16]⟩, rfl, rfl⟩
    · rintro v l' n' ⟨⟨tc, rfl⟩, rfl, rfl⟩
      refine r_attr (r_attr (r_local (lkS (by rw [hl _ (by decide)]; exact hcx)) ?_))
      refine' o_attr (m := m) ⟨up _ iC.ob ne1, up _ iC.di ne2⟩ ?ke ?kf ?kg ?kh (by rw [hDC.getL, hT]) rfl ?_
      walk_at "attr"
      refine' o_attr (m := mt) ⟨up _ iT.ob ne3, up _ iT.di ne4⟩ ?ke ?kf ?kg ?kh (by rw [hDT.getL, hG]) rfl ?_
      walk_at "attr"
      refine r_tuple (r_args (r_local lk0 (r_args ?_)))
      walk_at "g"
      refine r_args0 ⟨len2, fun Tp => o_dsetT (S := tl) (fun z hz => List.mem_append.mpr (.inl hz)) (List.mem_append.mpr (.inr (.tail _ ho))) hTO (Nat.le_trans (dg_len i) ?_) ?_⟩
      · have : i < kinds9.length := (List.getElem?_eq_some_iff.mp hk9).1
        have e : kinds9.length = 9 := rfl
        omega
      · intro o' n' od' hch hTO'
        have e : ∀ x : Addr × Obj, x :: (tl ++ (I, it) :: n0) = (x :: (tl ++ [(I, it)])) ++ n0 := fun x => by simp
        rw [e] at hch od'
        obtain ⟨n0', rfl, hc0⟩ := chg_split hch (od_low od' ho)
        refine r_nil ⟨(Tp, _) :: tl, n0', by simp; rfl, by rw [hc0.keys]; exact hkeys, fun o2 h2 => hc0.keep h2 hB, fun y hy => ?_, fun z hz hne => hc0.keep (hn z hz hne) hne, o', hc0.mem', ?_⟩
        · rw [sto_lookup, if_neg hy]; exact hl y hy
        · rw [← dg_step hk9]; exact hTO'
  · rintro lt tl n0 ⟨hl, hn, o, ho, hTO⟩
    rw [List.length_append, hv8] at hTO
    exact r_nil ⟨rfl, hl, fun z hz hne => List.mem_append.mpr (.inr (hn z hz hne)), o, List.mem_append.mpr (.inr ho), hTO.mono fun z hz => List.mem_append.mpr (.inl hz)⟩
end

/-! Ct18 -/
theorem PoolIs.of {n : Ld} {pA : Addr} {vs : List Value} {t : Fin 8 → Tok} {m : Nat} (h : (pA, listOf vs.toArray m) ∈ n) (hv : Kinds8 vs t) : PoolIs n pA := by
  refine ⟨vs, m, h, by rw [hv]; rfl, fun x hx => ?_⟩
  rw [hv] at hx
  simp only [List.mem_cons, List.not_mem_nil, or_false] at hx
  rcases hx with rfl | rfl | rfl | rfl | rfl | rfl | rfl | rfl
  all_goals exact ⟨_, _, rfl, by decide, by decide⟩
/-- the seat is ready -/
structure Rdy (w : World) (n : Ld) (cx pA : Addr) (ck : Int) (tA gA : Addr) : Prop where
  ctx : Ctx w n cx ck tA gA
  pool : PoolIs n pA
  told : ∃ dx es m fs td, Ins cx 622 dx es m n ∧ DF es fs ∧ fs.lookup (Str.ofString "told") = some (.ref td) ∧ (td, listOf ([] : List Value).toArray 0) ∈ n
theorem Rdy.mono {w : World} {n n' : Ld} (h : ∀ q ∈ n, q ∈ n') {cx pA : Addr} {ck : Int} {tA gA : Addr} (r : Rdy w n cx pA ck tA gA) : Rdy w n' cx pA ck tA gA :=
  ⟨r.ctx.mono h, r.pool.mono h, let ⟨dx, es, m, fs, td, h1, h2, h3, h4⟩ := r.told; ⟨dx, es, m, fs, td, h1.mono h, h2, h3, h _ h4⟩⟩
theorem df_ne {es : List DictEntry} {fs : Bs} {x : Str} {v : Value} (h : DF es fs) (hl : fs.lookup x = some v) {m m' : Nat} : dictOf es m ≠ dictOf [] m' := fun e => by
  have e2 := congrArg Obj.data e
  have e3 : es = [] := by
    injection e2 with e4
    simpa using congrArg Array.toList e4
  subst e3
  have := h.get x
  rw [hl] at this
  cases this
section
variable {w : World} {p : Program} {loose : List Str} {mg mb : Str → Option Value} {d : Nat} {n : Ld} {l : Bs}
set_option maxHeartbeats 8000000 in
theorem law_s10 {L fa cp cs cx dx : Addr} {cd : Value} {es : List DictEntry} {m : Nat} {fs : Bs} {sd : Int} {ts : Tok} (hcx : l.lookup (Str.ofString "cx") = some (.ref cx)) (hseed : ∃ o, (cs, o) ∈ n ∧ o.data = .cell (some (.int sd ts))) (iC : Ins cx 622 dx es m n) (hDC : DF es fs) (hf : fs.length < 100) :
    Rn (wd w p loose mg mb) (lawF L fa cp cs cd) (d + 12) l n (execs ((lawB.drop 9).take 1)) fun fl l' n' => fl = .next ∧ l' = l ∧ ∃ ck tk es' m', Chg dx (dictOf es m) (dictOf es' m') n n' ∧ DF es' ((Str.ofString "checked", .int ck tk) :: fs) := by
  obtain ⟨os, hs, hsd⟩ := hseed
  conv in List.take 1 (List.drop 9 lawB) => whnf
  refine r_cons (r_setattr (r_bin (r_cell rfl hs hsd (r_int fun _ => o_modI (by decide) fun tk => r_local hcx ?_))))
  refine' o_setM iC hDC (by omega) ?ke ?kf ?kg ?kh fun es' m' n' hD' hc => r_nil ⟨rfl, rfl, _, tk, es', m', hc, hD'⟩
  walk_at "attr"
set_option maxHeartbeats 8000000 in
/-- from the pool to the seat's last field -/
theorem law_mid {L fa cp cs N cx : Addr} {cd : Value} {ns : List Int} {sd : Int} {ts t1 t2 : Tok} {k : Flow → Bs → Ld → Prop} (hnums : l.lookup (Str.ofString "nums") = some (.ref N)) (hcx : l.lookup (Str.ofString "cx") = some (.ref cx)) (h1 : l.lookup (Str.ofString "thing") = some (.int 16 t1)) (h2 : l.lookup (Str.ofString "maybe") = some (.int 17 t2))
    (hb : Bas n N cp cs ns (some (.int sd ts)) none) (hx : CxAt n cx)
    (hk : ∀ l' n' pA ck tA gA, l'.lookup (Str.ofString "nums") = some (.ref N) → l'.lookup (Str.ofString "cx") = some (.ref cx) → Bas n' N cp cs ns (some (.int sd ts)) (some (.ref pA)) → Rdy w n' cx pA ck tA gA → Rn (wd w p loose mg mb) (lawF L fa cp cs cd) (d + 12) l' n' (execs (lawB.drop 10)) k) :
    Rn (wd w p loose mg mb) (lawF L fa cp cs cd) (d + 12) l n (execs (lawB.drop 7)) k := by
  refine r_seg (j := 1) (law_s8 h1 h2 hb hx) ?_
  rintro l1 n1 ⟨rfl, pA, vs, t, hP, hv, hb1, hx1⟩
  obtain ⟨dx, es, m, fs, tA, td, tc, dt, et, mt, ft, gA, mg', iC, hDC, hT, htd, hm, hck, hcv, hlen, iT, hDT, hG, hg, lo, hcv2, hdd⟩ := hx1
  refine r_od fun od => ?_
  have nd : dictOf et mt ≠ dictOf [] mg' := df_ne hDT hG
  have n1' : cx ≠ gA := od_ne od iC.ob hg fun e => by have := congrArg Obj.data e; cases this
  have n2 : dx ≠ gA := od_ne od iC.di hg (df_ne hDC hT)
  have n3 : tA ≠ gA := od_ne od iT.ob hg fun e => by have := congrArg Obj.data e; cases this
  have n4 : dt ≠ gA := od_ne od iT.di hg nd
  have n5 : td ≠ gA := od_ne od hm hg fun e => by have := congrArg Obj.data e; cases this
  have n6 : pA ≠ gA := od_ne od hP hg fun e => by have := congrArg Obj.data e; cases this
  obtain ⟨vn, mn, hN, hi⟩ := hb1.nums
  obtain ⟨op, hp, hpd⟩ := hb1.pool
  obtain ⟨os, hs, hsd⟩ := hb1.seed
  have n7 : N ≠ gA := od_ne od hN hg fun e => by have := congrArg Obj.data e; cases this
  have n8 : cp ≠ gA := od_ne od hp hg fun e => by have := congrArg Obj.data e; rw [hpd] at this; cases this
  have n9 : cs ≠ gA := od_ne od hs hg fun e => by have := congrArg Obj.data e; rw [hsd] at this; cases this
  refine r_seg (j := 1) (law_s9 hcx h1 iC hDC hT iT hDT hG hg lo n1' n2 n3 n4 ⟨op, hp, hpd⟩ hP hv) ?_
  rintro l2 n2' ⟨hl, hn, o, ho, hTO⟩
  refine r_seg (j := 1) (law_s10 (m := m) (by rw [hl _ (by decide)]; exact hcx) ⟨os, hn _ hs n9, hsd⟩ ⟨hn _ iC.ob n1', hn _ iC.di n2⟩ hDC hlen) ?_
  rintro l3 n3' ⟨rfl, ck, tk, es', m', hc, hD'⟩
  have kp : ∀ z ∈ n2', z.1 ≠ dx → z ∈ n3' := fun z hz hne => hc.keep hz hne
  have kd : ∀ {a : Addr} {ob : Obj}, (a, ob) ∈ n1 → ob ≠ dictOf es m → a ≠ dx := fun h1 h2 => od_ne od h1 iC.di h2
  have q1 : cx ≠ dx := kd iC.ob fun e => by have := congrArg Obj.data e; cases this
  have q2 : tA ≠ dx := kd iT.ob fun e => by have := congrArg Obj.data e; cases this
  have q3 : dt ≠ dx := hdd
  have q4 : td ≠ dx := kd hm fun e => by have := congrArg Obj.data e; cases this
  have q5 : pA ≠ dx := kd hP fun e => by have := congrArg Obj.data e; cases this
  have q6 : N ≠ dx := kd hN fun e => by have := congrArg Obj.data e; cases this
  have q7 : cp ≠ dx := kd hp fun e => by have := congrArg Obj.data e; rw [hpd] at this; cases this
  have q8 : cs ≠ dx := kd hs fun e => by have := congrArg Obj.data e; rw [hsd] at this; cases this
  have kk : ∀ {a : Addr} {ob : Obj}, (a, ob) ∈ n1 → a ≠ gA → a ≠ dx → (a, ob) ∈ n3' := fun h1 h2 h3 => kp _ (hn _ h1 h2) h3
  have iC3 : Ins cx 622 dx es' m' n3' := ⟨kk iC.ob n1' q1, hc.mem'⟩
  have e1 : (Str.ofString "turner" == Str.ofString "checked") = false := by decide
  have e2 : (Str.ofString "convert" == Str.ofString "checked") = false := by decide
  have e3 : (Str.ofString "told" == Str.ofString "checked") = false := by decide
  have e4 : (Str.ofString "checked" == Str.ofString "checked") = true := by decide
  refine hk _ _ pA ck tA gA (by rw [hl _ (by decide)]; exact hnums) (by rw [hl _ (by decide)]; exact hcx) ⟨⟨vn, mn, kk hN n7 q6, hi⟩, hb1.few, hb1.low, ⟨op, kk hp n8 q7, hpd⟩, ⟨os, kk hs n9 q8, hsd⟩, hb1.ne⟩ ⟨⟨dx, es', m', dt, et, mt, tk, Dg 9, iC3, ?_, ?_, ?_, ⟨kk iT.ob n3 q2, kk iT.di n4 q3⟩, by rw [hDT.getL, hG], by rw [hDT.getL, hcv2], TupTab.chgD hc n2.symm (hTO.tab ho), dg_all⟩, .of (kk hP n6 q5) hv, ⟨dx, es', m', _, td, iC3, hD', ?_, kk hm n5 q4⟩⟩
  · rw [hD'.getL, List.lookup_cons, e1]; exact congrArg some hT
  · rw [hD'.getL, List.lookup_cons, e4]
  · rw [hD'.getL, List.lookup_cons, e2]; exact congrArg some hcv
  · rw [List.lookup_cons, e3]; exact htd
end

/-! Ct19 -/
/-- a row in the ledger -/
def RowAt (n : Ld) (v : Value) : Prop := ∃ eA us m ds, v = .ref eA ∧ (eA, listOf us.toArray m) ∈ n ∧ DatAll n us ds ∧ RowD ds
theorem RowAt.mono {n n' : Ld} (h : ∀ q ∈ n, q ∈ n') {v : Value} (r : RowAt n v) : RowAt n' v :=
  let ⟨eA, us, m, ds, e, h1, h2, h3⟩ := r
  ⟨eA, us, m, ds, e, h _ h1, h2.mono h, h3⟩
theorem ints_mem : ∀ {vs : List Value} {ns : List Int}, IntsAre vs ns → ∀ {v : Value}, v ∈ vs → ∃ k t, v = .int k t
  | _, _, .nil, _, h => nomatch h
  | _, _, .cons k t r, v, h => by
    rcases List.mem_cons.mp h with rfl | h
    · exact ⟨_, _, rfl⟩
    · exact ints_mem r h
section
variable {w : World} {p : Program} {loose : List Str} {mg mb : Str → Option Value} {d : Nat} {n : Ld} {l : Bs}
set_option maxHeartbeats 8000000 in
theorem law_s11 {L fa cp cs N cx pA tA gA : Addr} {cd : Value} {ns : List Int} {sd ck : Int} {ts : Tok} (hnums : l.lookup (Str.ofString "nums") = some (.ref N)) (hcx : l.lookup (Str.ofString "cx") = some (.ref cx))
    (hb : Bas n N cp cs ns (some (.int sd ts)) (some (.ref pA))) (hR : Rdy w n cx pA ck tA gA) :
    Rn (wd w p loose mg mb) (lawF L fa cp cs cd) (d + 12) l n (execs (lawB.drop 10)) fun fl _ _ => fl = .ret (.bool true) := by
  obtain ⟨vn, mn, hN, hi⟩ := hb.nums
  obtain ⟨op, hp, hpd⟩ := hb.pool
  obtain ⟨os, hs, hsd⟩ := hb.seed
  have hvn : vn.length ≤ 24 := by have := hi.length; have := hb.few; omega
  conv in List.drop 10 lawB => whnf
  refine r_cons (r_assign (r_list (r_args (r_tuple (r_args ?_)))))
  walk_at "g"
  refine r_args ?_
  walk_at "g"
  refine r_args (r_int fun _ => r_args0 ⟨len3, fun A1 => r_args (r_tuple (r_args ?_))⟩)
  walk_at "g"
  refine r_args ?_
  walk_at "g"
  refine r_args (r_tuple (r_args (r_tuple (r_args ?_))))
  walk_at "g"
  refine r_args ?_
  walk_at "g"
  refine r_args (r_str fun _ => r_args0 ⟨len3, fun A2 => r_args (r_tuple (r_args ?_))⟩)
  walk_at "g"
  refine r_args ?_
  walk_at "g"
  refine r_args (r_int fun _ => r_args0 ⟨len3, fun A3 => r_args0 ⟨len2, fun A4 => r_args0 ⟨len3, fun A5 => r_args0 ⟨len2, fun A6 => ?_⟩⟩⟩⟩)
  generalize hn2 : ((A6, _) :: _ : Ld) = n2
  obtain ⟨hrow, up2⟩ : RowAt n2 (.ref A6) ∧ ∀ z ∈ n, z ∈ n2 := by
    subst hn2
    refine ⟨⟨A6, _, _, [.tuple [.int 2, .int 13, .int 1], .tuple [.int 26, .int 13, .tuple [.tuple [.int 1, .int 13, .str "z"], .tuple [.int 2, .int 13, .int 2]]]], rfl, .head _, ?_, ?_⟩, fun z hz => .tail _ (.tail _ (.tail _ (.tail _ (.tail _ (.tail _ hz)))))⟩
    · exact .cons (.tuple (.tail _ (.tail _ (.tail _ (.tail _ (.tail _ (.head _)))))) (.cons (.int _ _) (.cons (.int _ _) (.cons (.int _ _) .nil)))) (.cons (.tuple (.tail _ (.head _)) (.cons (.int _ _) (.cons (.int _ _) (.cons (.tuple (.tail _ (.tail _ (.head _))) (.cons (.tuple (.tail _ (.tail _ (.tail _ (.tail _ (.head _))))) (.cons (.int _ _) (.cons (.int _ _) (.cons (.str _ _) .nil)))) (.cons (.tuple (.tail _ (.tail _ (.tail _ (.head _)))) (.cons (.int _ _) (.cons (.int _ _) (.cons (.int _ _) .nil)))) .nil))) .nil)))) .nil)
    · refine ⟨by decide, by decide, fun e he => ?_⟩
      rcases List.mem_cons.mp he with rfl | he
      · exact law_loc (by decide) (by decide)
      · rw [List.mem_singleton.mp he]
        exact law_cat (jo_txt _) (jo_loc (by decide) (by decide)) (.inl rfl) (.inl rfl) (by rw [wj_loc (by decide)]; decide) (by decide +kernel) (by decide +kernel)
  clear hn2
  refine r_cons (r_for (r_bin (r_list (r_args (r_local lk0 (r_args0 ⟨len1, fun Y => r_comp ?_ rfl (by decide) rfl ?hnm rfl⟩))))))
  case hnm => decide
  refine r_bin (r_local (lkS hnums) (r_list (r_args (r_bin (r_cell rfl (.tail _ (up2 _ hs)) hsd (r_int fun _ => o_divI (by decide) (PyProof.noPylong_small (by decide)) fun _ => ?_))))))
  refine r_args (r_bin (r_cell rfl (.tail _ (up2 _ hs)) hsd (r_int fun _ => o_divI (by decide) (PyProof.noPylong_small (by decide)) fun _ => ?_)))
  refine r_args (r_bin (r_cell rfl (.tail _ (up2 _ hs)) hsd (r_int fun _ => o_divI (by decide) (PyProof.noPylong_small (by decide)) fun _ => ?_)))
  refine r_args0 ⟨len3, fun Z => ?_⟩
  refine o_addL (.tail _ (.tail _ (up2 _ hN))) (.head _) (by show _ + 3 ≤ _; rw [sizeLine_eq]; omega) fun X => ?_
  refine ⟨rfl, X, _, _, fun i ys tl => ys.length = i ∧ ∀ y ∈ ys, RowAt tl y, rfl, .head _, by rw [List.length_append]; show _ + 3 ≤ _; omega, ⟨rfl, fun _ h => nomatch h⟩, elem_of fun C oC m₂ nw i ys tl v hv hj hC hsub hoC hm => ?_, ?_⟩
  · obtain ⟨vi, vt, rfl⟩ : ∃ k t, v = .int k t := by
      rcases List.mem_append.mp (List.mem_of_getElem? hv) with h | h
      · exact ints_mem hi h
      · simp only [List.mem_cons, List.not_mem_nil, or_false] at h
        rcases h with rfl | rfl | rfl <;> exact ⟨_, _, rfl⟩
    have upw : ∀ q ∈ n, q ∈ nw := fun q hq => hsub q (List.mem_append.mpr (.inr (.tail _ (.tail _ (.tail _ (up2 _ hq))))))
    refine' e_call (e_global ?ke ?_)
    case ke => walk_at "K"
    refine ⟨by walk_at "K", ?_⟩
    refine e_args (e_cell rfl (upw _ hp) hpd (e_args (e_local hC hoC hm (e_args (e_cell rfl (upw _ hs) hsd (e_args0 (o_call ((law_row_1 (d := d + 10) (hR.pool.mono upw)).mono ?_))))))))
    rintro y n' ⟨tl', rfl, eA, us, m, ds, rfl, h1, h2, h3⟩
    refine ⟨rfl, tl', rfl, by rw [List.length_append, hj.1]; rfl, fun y hy => ?_⟩
    rcases List.mem_append.mp hy with hy | hy
    · exact (hj.2 y hy).mono fun q hq => List.mem_append.mpr (.inr hq)
    · rw [List.mem_singleton.mp hy]
      exact ⟨eA, us, m, ds, rfl, List.mem_append.mpr (.inl h1), h2.mono fun q hq => List.mem_append.mpr (.inl hq), h3⟩
  intro ys tl D n' ⟨hlen, hrows⟩ hmem
  rw [List.length_append] at hlen
  have hlen : ys.length = vn.length + 3 := hlen
  refine o_addL (vs := [.ref A6]) (us := ys) (j := ys.length) ((hmem _).mpr (.inr (.inr (.tail _ (.tail _ (.head _)))))) ((hmem _).mpr (.inl rfl)) (by rw [sizeLine_eq]; show 1 + _ ≤ _; omega) fun B => ?_
  have up3 : ∀ q ∈ n2, q ∈ n' := fun q hq => (hmem q).mpr (.inr (.inr (.tail _ (.tail _ (.tail _ hq)))))
  have all : ∀ v ∈ [Value.ref A6] ++ ys, RowAt n' v := fun v hv => by
    rcases List.mem_append.mp hv with hv | hv
    · rw [List.mem_singleton.mp hv]; exact hrow.mono up3
    · exact (hrows v hv).mono fun q hq => (hmem q).mpr (.inr (.inl hq))
  have hR3 : Rdy w n' cx pA ck tA gA := hR.mono fun q hq => up3 _ (up2 _ hq)
  refine ⟨B, [.ref A6] ++ ys, fun i lt tl n0 => n0 = (B, listOf ([Value.ref A6] ++ ys).toArray 0) :: n' ∧ lt.lookup (Str.ofString "cx") = some (.ref cx), rfl, .list (.head _), ⟨rfl, lkS hcx⟩, ?_, ?_⟩
  · rintro i v lt tlo n0 I it hv ⟨rfl, hcx'⟩ _ _
    have upN : ∀ q ∈ n', q ∈ tlo ++ (I, it) :: (B, listOf ([Value.ref A6] ++ ys).toArray 0) :: n' := fun q hq => List.mem_append.mpr (.inr (.tail _ (.tail _ hq)))
    obtain ⟨eA, us, m, ds, rfl, hE, hD, hrl, hrh, hro⟩ := RowAt.mono upN (all v (List.mem_of_getElem? hv))
    have hR4 := hR3.ctx.mono upN
    generalize hN1 : tlo ++ (I, it) :: (B, listOf ([Value.ref A6] ++ ys).toArray 0) :: n' = N1 at hE hD hR4 ⊢
    cases ds with
    | nil => exact absurd hrl (by decide)
    | cons d0 dr =>
      obtain ⟨u0, ur, rfl, h0, hr⟩ := dall_cons hD
      have l0 : LawOp d0 := hro _ (.head _)
      have lr : ∀ e ∈ dr, LawOp e := fun e he => hro _ (.tail _ he)
      have hur : ur.length = dr.length := dall_len hr
      have hdr : dr.length ≤ 5 := by rw [List.length_cons] at hrh; omega
      have hdr1 : 1 ≤ dr.length := by rw [List.length_cons] at hrl; omega
      refine r_cons (r_assign (r_sub (r_local lk0 (r_int fun _ => o_lstI hE (by decide) (by decide) rfl ?_))))
      refine r_cons (r_forI (r_from (r_local (lkS lk0) (r_int fun _ => ⟨eA, u0 :: ur, m, _, 1, rfl, rfl, hE, by rw [sizeLine_eq, List.length_cons]; omega, fun E _ => ?_⟩))))
      have upE : ∀ q ∈ N1, q ∈ (E, listOf ur.toArray 0) :: N1 := fun q hq => .tail _ hq
      refine ⟨E, ur, fun j lt tl n0 => n0 = (E, listOf ur.toArray 0) :: N1 ∧ lt.lookup (Str.ofString "cx") = some (.ref cx) ∧ lt.lookup (Str.ofString "es") = some (.ref eA) ∧ ∃ g, lt.lookup (Str.ofString "got") = some g ∧ DatIn (tl ++ n0) g ((dr.take j).foldl (bindC ck) d0),
        rfl, ⟨0, .head _⟩, ⟨rfl, lkS (lkS hcx'), lkS lk0, u0, lk0, h0.mono upE⟩, ?_, ?_⟩
      · rintro j v lt tl n0 I2 it2 hcls hv ⟨rfl, hcx2, hes2, g, hgot, hdat⟩ _ _
        have upJ : ∀ q ∈ N1, q ∈ tl ++ (I2, it2) :: (E, listOf ur.toArray 0) :: N1 := fun q hq => List.mem_append.mpr (.inr (.tail _ (.tail _ hq)))
        obtain ⟨e, he, hve⟩ := dall_at (hr.mono upJ) hv
        have hj : j < dr.length := (List.getElem?_eq_some_iff.mp he).1
        have le : LawOp e := lr e (List.mem_of_getElem? he)
        have go := goes_i (ck := ck) l0 lr j (by omega)
        have room := go.room le (by omega)
        refine r_cons (r_assign (r_call ?_))
        walk_at "g"
        refine ⟨by walk_at "K", r_args (r_local (lkS hcx2) (r_args (r_local (lkS hgot) (r_args (r_local lk0 (r_args (r_none (r_args0 (o_call ((bind_concat_1 (d := d + 7) (hR4.mono upJ) (hdat.mono fun q hq => ?_) hve go.lt le.jo.op room.1 room.2).mono ?_))))))))))⟩
        · rcases List.mem_append.mp hq with hq | hq
          · exact List.mem_append.mpr (.inl hq)
          · exact List.mem_append.mpr (.inr (.tail _ hq))
        rintro v' n'' ⟨⟨tl', rfl⟩, hd⟩
        rw [take_bind he, ← List.append_assoc] at hd
        exact r_nil ⟨tl' ++ tl, _, (List.append_assoc ..).symm, rfl, fun o h => h, rfl, lkS (lkS hcx2), lkS (lkS hes2), v', lk0, DatIn.drop hcls hd⟩
      · rintro lt tl n0 ⟨rfl, hcx2, hes2, g, hgot, hdat⟩
        have upJ : ∀ q ∈ N1, q ∈ tl ++ (E, listOf ur.toArray 0) :: N1 := fun q hq => List.mem_append.mpr (.inr (.tail _ hq))
        have hne : dr ≠ [] := fun e => by rw [e] at hdr1; exact absurd hdr1 (by decide)
        rw [hur, List.take_length, law_eq ck l0.lj hne (row_jo l0 lr)] at hdat
        have room := row_room l0 lr (by omega)
        refine r_cons (r_if (t_cmp (r_local hgot (r_call ?_))))
        walk_at "g"
        refine ⟨by walk_at "K", r_args (r_local hcx2 (r_args (r_local hes2 (r_args0 (o_call ((joined_1 (d := d + 11) (hR4.mono upJ) (upJ _ hE) (h0.mono upJ) (hr.mono upJ) l0.lj (fun e he => (lr e he).jo) room.1 room.2).mono ?_))))))⟩
        rintro v' n'' ⟨⟨tl', rfl⟩, hd2⟩
        refine o_neD (hdat.mono fun q hq => List.mem_append.mpr (.inr hq)) hd2 (row_ok l0 lr) ⟨false, rfl, ifF rfl (r_nil (r_nil ⟨tl' ++ tl ++ (E, listOf ur.toArray 0) :: tlo, _, ?_, rfl, fun o h => h, rfl, hcx2⟩))⟩
        rw [← hN1]; simp
  · rintro lt tl n0 ⟨rfl, hcx'⟩
    obtain ⟨dx, es, m, fs, td, iC, hDC, htd, hm⟩ := hR3.told
    have upZ : ∀ q ∈ n', q ∈ tl ++ (B, listOf ([Value.ref A6] ++ ys).toArray 0) :: n' := fun q hq => List.mem_append.mpr (.inr (.tail _ hq))
    refine r_cons (r_return (r_cmp (r_attr (r_local hcx' ?_))))
    refine' o_attr (iC.mono upZ) ?ke ?kf ?kg ?kh (by rw [hDC.getL, htd]) rfl (r_list (r_args0 ⟨by decide, fun T => o_eqD (e := .list []) (.list (.tail _ (upZ _ hm)) .nil) (.list (.head _) .nil) rfl rfl⟩))
    walk_at "attr"
end

/-! Ct20 -/
section
variable {w : World} {p : Program} {loose : List Str} {mg mb : Str → Option Value} {d : Nat} {n : Ld} {l : Bs}
/-- all but the law's first statement -/
theorem law_rest {L fa cp cs N : Addr} {cd : Value} {ns : List Int} (hl : l.lookup (Str.ofString "nums") = some (.ref N)) (hb : Bas n N cp cs ns none none) :
    Rn (wd w p loose mg mb) (lawF L fa cp cs cd) (d + 12) l n (execs (lawB.drop 1)) fun fl _ _ => fl = .ret (.bool true) := by
  refine r_seg (j := 1) (law_s2 hl hb) ?_
  rintro l1 n1 ⟨rfl, sd, t, _, _, hb1⟩
  refine r_seg (j := 3) law_s3 ?_
  rintro l2 n2 ⟨st, kt, cx, pre, q, post, rfl, rfl, hK, hC⟩
  refine r_seg (j := 2) (law_s6 (kt := kt) (lkS lk0) (hK.mono (fun _ h => h) fun z hz => List.mem_append.mpr (.inl hz))) ?_
  rintro l3 n3 ⟨t1, t2, pre', q', rfl, rfl, hp⟩
  refine law_mid (N := N) (cx := cx) (ns := ns) (lkS (lkS (lkS (lkS (lkS hl))))) (lkS (lkS lk0)) (lkS lk0) lk0 (hb1.mono fun z hz => List.mem_append.mpr (.inr (List.mem_append.mpr (.inr hz)))) (hC.mono fun z hz => List.mem_append.mpr (.inl (List.mem_append.mpr (.inl (hp z hz))))) ?_
  intro l4 n4 pA ck tA gA h1 h2 h3 h4
  exact law_s11 h1 h2 h3 h4
end
section
variable {W : Wd} {F : FI} {d : Nat} {l : Bs} {n : Ld}
theorem slice_base {A A₀ : Around} {base h₀ : Heap} {outer : List Env} {s : Shared} {Q : Value → Shared → Prop} {x : Str} {px pc p pos : Pos} {c : Nat} {a : Addr} {vs : List Value} {i : Nat} (S : Sit W F.env d A A₀ base h₀ outer) (D : Led h₀ F.L l s.heap n)
    (hl : l.lookup x = some (.ref a)) (hs : h₀.IsList a vs.toArray) (hz : vs.length ≤ sizeLine) (kQ : ∀ Dd h tk, Led h₀ F.L l h ((Dd, listOf (vs.take i).toArray 0) :: n) → Q (.ref Dd) { s with heap := h, toks := tk })
    (hk : F.scope.kind = .function) (hx : F.env.kindOf x = some .local) (hd : (x == ("__debug__" : Str)) = false) : wpAny (model W.prog W.w) A (eval (.Subscript (.Name x px) (.Slice none (some (.Constant (.int (i : Int)) c pc)) none p) pos) F.env) Q no s := by
  refine wpAny_Subscript_list_slice (nameX_L D.fr hl (wpAny_pure (wpAny_Constant_int (k := c) (pos := pc) ?_)) hk hx hd) (by intro _ _; rfl)
  refine ⟨a, vs.toArray, none, some (i : Int), rfl, hs.at fun o e => D.fr.keep _ _ e, by simpa using hz, .none, .int _ _, ?_⟩
  rw [pick_upto]
  exact kQ _ _ _ (D.push2 (o' := { cls := .type "slice", data := .fields #[.none, .int i s.toks, .none] }) (o := listOf (vs.take i).toArray 0) rfl)
end
theorem ints_snoc {vs : List Value} {ns : List Int} {k : Int} {t : Tok} (h : IntsAre vs ns) : IntsAre (vs ++ [.int k t]) (ns ++ [k]) := by
  induction h with
  | nil => exact .cons _ _ .nil
  | cons k t _ ih => exact .cons _ _ ih
theorem ints_len {vs : List Value} {ns : List Int} (h : IntsAre vs ns) : vs.length = ns.length := by
  induction h with
  | nil => rfl
  | cons k t _ ih => exact congrArg Nat.succ ih
/-- the law's body -/
theorem law_body {w : World} {p : Program} {loose : List Str} {mg mb : Str → Option Value} {d : Nat} {n : Ld} {l : Bs} {L fa cp cs sc : Addr} {cd : Value} {vs : List Value} {ns : List Int} {A A₀ : Around} {base h₀ : Heap} {outer : List Env} {s : Shared} {Q : Flow → Shared → Prop}
    (S : Sit (wd w p loose mg mb) (lawF L fa cp cs cd).env (d + 12) A A₀ base h₀ outer) (D : Led h₀ L l s.heap n) (hl : l.lookup (Str.ofString "script") = some (.ref sc)) (hs : h₀.IsList sc vs.toArray) (hi : IntsAre vs ns) (hz : vs.length ≤ 1000)
    (hpool : ∃ o, (cp, o) ∈ n ∧ o.data = .cell none) (hseed : ∃ o, (cs, o) ∈ n ∧ o.data = .cell none) (hne : cp ≠ cs)
    (kQ : ∀ l' n' h tk, Led h₀ L l' h n' → Q (.ret (.bool true)) { s with heap := h, toks := tk }) : wpAny (model pw w) A (execs lawB (lawF L fa cp cs cd).env) Q no s := by
  conv in lawB => whnf
  refine wpAny_execs_cons (r_assignComp (W := wd w p loose mg mb) (F := lawF L fa cp cs cd) (d := d + 12) (l := l) (n := n)
    (k := fun fl l' n' => fl = .next ∧ ∃ N ns, l'.lookup (Str.ofString "nums") = some (.ref N) ∧ Bas n' N cp cs ns none none) S D (fun Q' kQ' => ?_) (fun fl l' n' h' tk' D' x => ?_) rfl rfl (by decide) rfl ?hnm rfl rfl rfl)
  case hnm => decide
  · refine slice_base (W := wd w p loose mg mb) (F := lawF L fa cp cs cd) (d := d + 12) (i := 24) S D hl hs (by rw [sizeLine_eq]; omega) (fun Dd h1 tk1 D1 => ?_) rfl rfl (by decide)
    refine kQ' ((Dd, _) :: n) h1 tk1 Dd (vs.take 24) 0 (fun i ys tl => tl = [] ∧ ∃ ks, IntsAre ys ks ∧ ks.length = i ∧ ∀ x ∈ ks, 0 ≤ x ∧ x < 1000000007) D1 (.head _) (by rw [List.length_take]; omega) ⟨rfl, [], .nil, rfl, fun _ h => nomatch h⟩ (elem_of fun C oC m₂ nw i ys tl v hv hj hC hsub hoC hm => ?_) ?_
    · obtain ⟨vi, vt, rfl⟩ := ints_mem hi (List.mem_of_mem_take (List.mem_of_getElem? hv))
      obtain ⟨rfl, ks, h1, h2, h3⟩ := hj
      refine e_bin (e_local hC hoC hm (e_int fun _ => o_modI (by decide) fun t => ⟨rfl, [], rfl, rfl, ks ++ [_], ints_snoc h1, by rw [List.length_append, h2]; rfl, fun x hx => ?_⟩))
      rcases List.mem_append.mp hx with hx | hx
      · exact h3 x hx
      · rw [List.mem_singleton.mp hx]
        exact ⟨Int.fmod_nonneg_of_pos _ (by decide), Int.fmod_lt_of_pos _ (by decide)⟩
    · rintro ys tl D2 n' ⟨rfl, ks, h1, h2, h3⟩ hmem
      obtain ⟨op, hp, hpd⟩ := hpool
      obtain ⟨os, hs', hsd⟩ := hseed
      refine ⟨rfl, D2, ks, lk0, ⟨ys, ys.length, (hmem _).mpr (.inl rfl), h1⟩, ?_, h3, ⟨op, (hmem _).mpr (.inr (.inr (.tail _ hp))), hpd⟩, ⟨os, (hmem _).mpr (.inr (.inr (.tail _ hs'))), hsd⟩, hne⟩
      rw [h2, List.length_take]
      omega
  · obtain ⟨rfl, N, ks, h1, h2⟩ := x
    exact (law_rest (d := d) h1 h2).go S D' fun fl l2 n2 h3 tk3 D3 e => by
      subst e
      exact kQ l2 n2 h3 tk3 D3

end

/-! Top2 -/
noncomputable section
abbrev law1 := PySem.Challenge.rw_sj0001_01
abbrev rw1 : RowW := law1.row.toRowW
def qv : Program := view pw [124]
def loo : List Str := pw.boundNames.filter fun x => x != "law"
abbrev OS := Fast.tw4187177175401517315
theorem tOS : @openSeen = OS := Fast.te4187177175401517315
abbrev sF (w : World) (os : OsState) : Shared := ⟨hF w.params, Array.mk [], {}, 1444, os⟩
theorem dks : (defOf qv "law").isSome = true := by kernel_rfl
def dk : DefRec × List (Str × Expr) := (defOf qv "law").get dks
theorem hdef : defOf qv law1.row.name = some (dk.1, dk.2) := show defOf qv (Str.ofString "law") = some dk from (Option.some_get dks).symm
theorem hp : rw1.prog.theDef law1.row.name = some (dk.1.params, dk.1.body, dk.1.scope) := by kernel_rfl
theorem hkw : kwWritten? dk.1.params.kwonlyargs dk.1.params.kw_defaults = some dk.2 := by kernel_rfl
theorem ka (P : Params) : Ka = (K P).map (·.1) := by kernel_rfl
abbrev hook : Hook := kHook K Ka ka
theorem noMods : importedModules pw.main.body = [] := by kernel_rfl
theorem okA1 (w : World) : staticsOk [] (boot_heap w.params) (hF w.params) = true := by kernel_rfl
theorem okA2 (w : World) : namesBound pw (hF w.params) = true := by kernel_rfl
theorem okA3 (w : World) (os : OsState) : gensDone (sF w os) = true := rfl
theorem okA4 (w : World) : laidKept (boot_heap w.params) (hF w.params) = true := by kernel_rfl
theorem lookA (w : World) (os : OsState) : (staticsOk (importedModules pw.main.body) (boot_heap w.params) (hF w.params) && namesBound pw (hF w.params) && gensDone (sF w os) && laidKept (boot_heap w.params) (hF w.params)) = true := by
  rw [noMods, okA1, okA2, okA3, okA4]; rfl
theorem lookC (w : World) : (fun os => hook.obs (sF w os)) = fun _ => hook.val w := by kernel_rfl
theorem size (w : World) : ((boot_heap w.params).isNs mainGlobals && (Array.mk [] : Array GenState).size == 0, (boot_heap w.params).objs.size, (boot_heap w.params).nsMap mainGlobals "__annotations__") = (true, 11, ann) := by kernel_rfl
theorem op1 : opening pw = plainProg pw.main.scope.names := by kernel_rfl
theorem op2 (s : Shared) : fenceModules? pw s = some s := by kernel_rfl
theorem lookB (w : World) : (fun os => OS qv loo [] (fun s => xlAt qv [] s && recOk rw1.records s) true (sF w os)) = fun _ => openGood qv loo := by kernel_rfl
theorem left : LeftO pw qv loo (fun s => xlAt qv [] s && recOk rw1.records s) hook.obs hook.val 12048 :=
  LeftO.of_pieces (boot_open op1 (by decide) op2) size run (by decide) fun w => by
    funext os
    rw [show openSeen qv loo (importedModules pw.main.body) (fun s => xlAt qv [] s && recOk rw1.records s) true (sF w os) = openGood qv loo from by rw [tOS, noMods]; exact congrFun (lookB w) os]
    rw [show (staticsOk (importedModules pw.main.body) (boot_heap w.params) (hF w.params) && namesBound pw (hF w.params) && gensDone (sF w os) && laidKept (boot_heap w.params) (hF w.params)) = true from lookA w os]
    rw [show hook.obs (sF w os) = hook.val w from congrFun (lookC w) os]
theorem saidQ : Fast.tw9446332074065402090 law1 = true := by kernel_rfl
theorem said : law1.wellSaid = true := (congrFun Fast.te9446332074065402090 law1).trans saidQ
theorem topok (call : WalkO qv loo (XL qv []) hook.says rw1 dk.1 dk.2 fun f vs => PySem.call f vs) : law1.Holds := by
  refine holds_law said fun s => ?_
  refine holds_open (q := qv) (loose := loo) (Xt := fun s => xlAt qv [] s && recOk rw1.records s) (XP := XL qv []) (Yf := hook.obs) (Ya := hook.val) (YP := hook.says) (N := 12048) left hook.of hook.keeps (fun s e => xl_of s (Bool.and_eq_true_iff.mp e).1) XL.keeps hdef hp hkw (fun s e => recFacts_of (Bool.and_eq_true_iff.mp e).2) (by rfl) s (by decide +kernel) ⟨rfl, rfl, rfl, rfl, rfl, by decide +kernel⟩ ?hw call
  w_witness2
end

/-! Ct21 -/
theorem dkB : dk.1.body = lawB := by kernel_rfl
theorem dkE (L fa : Addr) (cd : Value) : envOfC dk.1.name dk.1.scope L fa cd = (lawF L fa (L + 1 + 1) (L + 1) cd).env := by kernel_rfl
theorem kf_script (L fa cp cs : Addr) (cd : Value) : (lawF L fa cp cs cd).env.kindOf (Str.ofString "script") = some .local := by kernel_rfl
theorem law_enter {w1 : World} {s0 s1 : Shared} {mg mb : Str → Option Value} {fa sc cdA : Addr} {vs : List Value} {ns : List Int} {h1 : Heap} {tk1 : Nat} {o1 o2 : Obj} {E : Value → Shared → Prop} (hL : s1.heap.IsList sc vs.toArray) (hI : IntsAre vs ns) (hc : ¬ ((63 : Nat) : Int) < (ns.length : Int))
    (F0 : Fr s1.heap s1.heap.objs.size h1 (fun y => if y = Str.ofString "script" then some (.ref sc) else none)) (N0 : News s1.heap s1.heap.objs.size h1 [(s1.heap.objs.size + 1 + 1, o1), (s1.heap.objs.size + 1, o2)])
    (c1 : o1.data = .cell none) (c2 : o2.data = .cell none) (KX : (K w1.params).In s1.heap) (T : Top qv (looseW qv loo) (ExcName.means s0.heap) mg mb s1.heap) (hg : s1.gens = #[]) :
    wpAny (model rw1.prog w1) (callerA.deeper (lawF s1.heap.objs.size fa (s1.heap.objs.size + 1 + 1) (s1.heap.objs.size + 1) (.ref cdA)).env) (execs lawB (lawF s1.heap.objs.size fa (s1.heap.objs.size + 1 + 1) (s1.heap.objs.size + 1) (.ref cdA)).env)
      (fun f s' => GoodW rw1.claim (classAt s0.heap) (ExcName.means s0.heap) [ofPy (PyData.list (List.map PyData.int ns))] s1 (.ok (.ret (match f with | .ret v => v | _ => .none))) s') E { s1 with heap := h1, toks := tk1 } := by
  have hz : vs.length ≤ 1000 := by
    have := ints_len hI
    omega
  have S : Sit (wd w1 qv (looseW qv loo) mg mb) (lawF s1.heap.objs.size fa (s1.heap.objs.size + 1 + 1) (s1.heap.objs.size + 1) (.ref cdA)).env 12 (callerA.deeper (lawF s1.heap.objs.size fa (s1.heap.objs.size + 1 + 1) (s1.heap.objs.size + 1) (.ref cdA)).env) callerA s1.heap s1.heap [] :=
    ⟨below_caller _, KX, topRead_of T, rfl, rfl, by show callerA.depth + 1 + 12 < recursionLimit; decide +kernel, by show callerA.units + 3 + 10 * 12 + 200 < cLine; decide +kernel⟩
  have F1 : Fr s1.heap s1.heap.objs.size h1 (fun y => [(Str.ofString "script", Value.ref sc)].lookup y) := by
    have e : (fun y => [(Str.ofString "script", Value.ref sc)].lookup y) = fun y => if y = Str.ofString "script" then some (.ref sc) else none := by
      funext y
      rw [List.lookup_cons]
      by_cases h : y = Str.ofString "script"
      · subst h; simp
      · have : (y == Str.ofString "script") = false := beq_false_of_ne h
        rw [this, if_neg h]; rfl
    rw [e]
    exact F0
  have D : Led s1.heap s1.heap.objs.size [(Str.ofString "script", .ref sc)] h1 [(s1.heap.objs.size + 1 + 1, o1), (s1.heap.objs.size + 1, o2)] :=
    ⟨F1, N0, List.Pairwise.cons (fun b hb => by rw [List.mem_singleton.mp hb]; exact Nat.lt_succ_self _) (List.Pairwise.cons (fun _ h => nomatch h) .nil)⟩
  refine wpAny_mono (Q := fun f s' => ∃ h tk, f = .ret (.bool true) ∧ s' = { s1 with heap := h, toks := tk } ∧ ∀ b o, s1.heap.get? b = some o → h.get? b = some o) (E := no) ?_ (fun f s' x => ?_) (fun _ _ x => x.elim)
  · refine law_body (d := 0) (sc := sc) (ns := ns) S D rfl hL hI hz ⟨o1, .head _, c1⟩ ⟨o2, .tail _ (.head _), c2⟩ (Nat.ne_of_gt (Nat.lt_succ_self _)) fun l' n' h tk D' => ⟨h, tk, rfl, rfl, D'.fr.keep⟩
  · obtain ⟨h, tk, rfl, rfl, hk⟩ := x
    exact ⟨.inl ⟨.bool true, .bool true, [], rfl, fun _ => rfl, ReadsW.bool _, by kernel_rfl, fun _ => ⟨List.nodup_nil, fun _ h => nomatch h⟩⟩, hk, rfl, hg⟩
set_option maxHeartbeats 8000000 in
theorem law_all : law1.Holds := by
  refine topok ?_
  w_on
  intro w1 s0 s1 mg mb G Y fa ob pm cd doc dV kV ho hd hcd hD hmg hg args vals as hpre hlay hrd hwl hlo
  have KX := kIn_of Y
  refine Ground.open G ?_
  intro T B D TE TW
  clear D
  obtain ⟨cdA, _, he, B0⟩ := based_of_top T rfl hmg ho hd
  have he' : cd = _ := he
  subst he'
  clear he hmg
  wrow_args hpre hlay hrd hwl hlo
  refine enter_call ?_
  w_top on
  refine codeAny_mono ?_ (fun _ _ g => GoodW.toG g)
  w_call any ho hd hcd hD T F
  rename Heap.IsList _ _ _ => hL
  rename IntsAre _ _ => hI
  rename ¬ _ => hc
  rename Fr _ _ _ _ => F0
  rename News _ _ _ _ => N0
  rename_i h1 tk1 o1 o2 c1 c2 x0
  rw [dkE, dkB]
  exact law_enter hL hI hc F0 N0 c1 c2 KX T hg
end Mine
set_option maxRecDepth 100000 in
set_option maxHeartbeats 8000000 in
theorem PySem.Challenge.cw_sj0001_01_holds : PySem.Challenge.rw_sj0001_01.Holds := by
  exact Mine.law_all
