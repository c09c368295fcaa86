import PyProof.Rows.All
import Wide.All
import OpenK.AllK
import Wide.FinOn
import PySem.Challenge.RW_xm0998_01
/-! The law over the flags: a small compiled form of the pure-int defs and its soundness, the defs' contracts, the plain laws of their values, the law's own walk. -/
open PySem PySem.W PySem.Calls PyProof.Rows
set_option Elab.async false
set_option maxRecDepth 100000
set_option linter.unusedSimpArgs false
set_option linter.unusedVariables false

namespace Mine
set_option maxHeartbeats 8000000
open_top hd for PySem.Challenge.rw_xm0998_01
end Mine

namespace Mine
/-- what a value is, without its token or its place -/
inductive AV where
  | int (i : Int)
  | bool (b : Bool)
  | tup (l : List Int)
  | none

abbrev Led := List (Addr × Obj)
def tupObj (vs : List Value) (c : Nat) : Obj := { cls := .type "tuple", data := .seq vs.toArray c }

def Rep (news : Led) (v : Value) : AV → Prop
  | .int i => ∃ t, v = .int i t
  | .bool b => v = .bool b
  | .tup l => ∃ D vs c, v = .ref D ∧ (D, tupObj vs c) ∈ news ∧ IntsAre vs l
  | .none => v = .none

theorem Rep.mono {news news' : Led} {v : Value} {a : AV} (h : Rep news v a) (hs : ∀ q ∈ news, q ∈ news') : Rep news' v a := by
  cases a with
  | int i => exact h
  | bool b => exact h
  | none => exact h
  | tup l =>
    obtain ⟨D, vs, c, e, hm, hi⟩ := h
    exact ⟨D, vs, c, e, hs _ hm, hi⟩

mutual
inductive CI where
  | lit (i : Int)
  | var (k : Nat)
  | bin (op : Operator) (a b : CI)
  | ite (t : CB) (a b : CI)
  | call1 (g : Nat) (a : CI)
  | call2 (g : Nat) (a b : CI)
  | call3 (g : Nat) (a b c : CI)
inductive CB where
  | tr (a : CI)
  | cmp (op : CmpOp) (a b : CI)
  | neB (a b : CB)
  | and (a b : CB)
  | or (a b : CB)
  | nel3 (a b c a' b' c' : CI)
end
inductive CT where
  | call2 (g : Nat) (a b : CI)
  | call3 (g : Nat) (a b c : CI)
  | ite (t : CB) (a b : CT)

/-- the k-th int of a state -/
def gt : List Int → Nat → Int
  | [], _ => 0
  | x :: _, 0 => x
  | _ :: r, k + 1 => gt r k
theorem gt_of : ∀ (l : List Int) (k : Nat), gt l k = l.getD k 0
  | [], _ => by simp [gt]
  | x :: _, 0 => rfl
  | _ :: r, k + 1 => by rw [gt, gt_of r k]; simp

structure Fn where
  addr : Addr
  isT : Bool
  vi : List Int → Int
  vt : List Int → List Int
  ok : List Int → Prop

def Fn.res (F : Fn) (args : List Int) : AV := if F.isT then .tup (F.vt args) else .int (F.vi args)

def binI : Operator → Int → Int → Int
  | .Add, a, b => a + b
  | .Sub, a, b => a - b
  | .Mult, a, b => a * b
  | .Mod, a, b => a.fmod b
  | .FloorDiv, a, b => a.fdiv b
  | .LShift, a, b => a * 2 ^ b.toNat
  | .RShift, a, b => a.fdiv (2 ^ b.toNat)
  | .BitAnd, a, b => Builtin.bitAnd a b
  | .BitOr, a, b => Builtin.bitOr a b
  | .BitXor, a, b => Builtin.bitXor a b
  | _, _, _ => 0
def binOk : Operator → Int → Int → Prop
  | .Add, _, _ => True
  | .Sub, _, _ => True
  | .Mult, a, _ => a.natAbs < 2 ^ 63
  | .Mod, _, b => b ≠ 0
  | .FloorDiv, _, b => b ≠ 0 ∧ b.natAbs < 1073741824
  | .LShift, a, b => 0 ≤ b ∧ b ≤ 1000000 ∧ a.natAbs < 2 ^ 64
  | .RShift, _, b => 0 ≤ b
  | .BitAnd, _, _ => True
  | .BitOr, _, _ => True
  | .BitXor, _, _ => True
  | _, _, _ => False
def cmpI : CmpOp → Int → Int → Bool
  | .Eq, a, b => a == b
  | .NotEq, a, b => a != b
  | .Lt, a, b => decide (a < b)
  | .LtE, a, b => decide (a ≤ b)
  | .Gt, a, b => decide (b < a)
  | .GtE, a, b => decide (b ≤ a)
  | _, _, _ => false
def cmpOk : CmpOp → Bool
  | .Eq => true
  | .NotEq => true
  | .Lt => true
  | .LtE => true
  | .Gt => true
  | .GtE => true
  | _ => false

section
variable (G : Nat → Fn) (σ : List Int)
mutual
def ci : CI → Int
  | .lit i => i
  | .var k => gt σ k
  | .bin op a b => binI op (ci a) (ci b)
  | .ite t a b => if cb t then ci a else ci b
  | .call1 g a => (G g).vi [ci a]
  | .call2 g a b => (G g).vi [ci a, ci b]
  | .call3 g a b c => (G g).vi [ci a, ci b, ci c]
def cb : CB → Bool
  | .tr a => ci a != 0
  | .cmp op a b => cmpI op (ci a) (ci b)
  | .neB a b => cb a != cb b
  | .and a b => cb a && cb b
  | .or a b => cb a || cb b
  | .nel3 a b c a' b' c' => !decide ([ci a, ci b, ci c] = [ci a', ci b', ci c'])
end
def ct : CT → List Int
  | .call2 g a b => (G g).vt [ci G σ a, ci G σ b]
  | .call3 g a b c => (G g).vt [ci G σ a, ci G σ b, ci G σ c]
  | .ite t a b => if cb G σ t then ct a else ct b
mutual
def oki : CI → Prop
  | .lit _ => True
  | .var _ => True
  | .bin op a b => oki a ∧ oki b ∧ binOk op (ci G σ a) (ci G σ b)
  | .ite t a b => okb t ∧ (cb G σ t = true → oki a) ∧ (cb G σ t = false → oki b)
  | .call1 g a => oki a ∧ (G g).ok [ci G σ a]
  | .call2 g a b => oki a ∧ oki b ∧ (G g).ok [ci G σ a, ci G σ b]
  | .call3 g a b c => oki a ∧ oki b ∧ oki c ∧ (G g).ok [ci G σ a, ci G σ b, ci G σ c]
def okb : CB → Prop
  | .tr a => oki a
  | .cmp _ a b => oki a ∧ oki b
  | .neB a b => okb a ∧ okb b
  | .and a b => okb a ∧ (cb G σ a = true → okb b)
  | .or a b => okb a ∧ (cb G σ a = false → okb b)
  | .nel3 a b c a' b' c' => (oki a ∧ oki b ∧ oki c) ∧ oki a' ∧ oki b' ∧ oki c'
end
def okt : CT → Prop
  | .call2 g a b => oki G σ a ∧ oki G σ b ∧ (G g).ok [ci G σ a, ci G σ b]
  | .call3 g a b c => oki G σ a ∧ oki G σ b ∧ oki G σ c ∧ (G g).ok [ci G σ a, ci G σ b, ci G σ c]
  | .ite t a b => okb G σ t ∧ (cb G σ t = true → okt a) ∧ (cb G σ t = false → okt b)
end

def idx : List Str → Str → Option Nat
  | [], _ => none
  | y :: r, x => if x = y then some 0 else (idx r x).map (· + 1)

/-- the static side of a frame -/
structure SE where
  sc : Scope
  consts : List (Str × Int)
  fns : List (Str × Nat)
  G : Nat → Fn

def SE.fn (S : SE) (isT : Bool) (f : Str) : Option Nat :=
  if f == ("__debug__" : Str) then none else
  if S.sc.names.lookup f = some .globalImplicit then
    (match S.fns.lookup f with
    | some g => if (S.G g).isT = isT then some g else none
    | none => none)
  else none

def compVar (S : SE) (vars : List Str) (x : Str) : Option CI :=
  if x == ("__debug__" : Str) then none else
  if S.sc.names.lookup x = some .local then (idx vars x).map .var
  else if S.sc.names.lookup x = some .globalImplicit then (S.consts.lookup x).map .lit
  else none

/-- what an expression is compiled to -/
inductive Kd where
  | I (c : CI)
  | B (c : CB)
  | E (c : CB)
  | T (c : CT)

/-- the compiled form of an expression: an int, a test, a bool's expression, a call of a pair -/
inductive Comp (S : SE) (vars : List Str) : Expr → Kd → Prop where
  | lit {i k pos} : Comp S vars (.Constant (.int i) k pos) (.I (.lit i))
  | var {x pos c} : compVar S vars x = some c → Comp S vars (.Name x pos) (.I c)
  | bin {l r op pos a b} : Comp S vars l (.I a) → Comp S vars r (.I b) → Comp S vars (.BinOp l op r pos) (.I (.bin op a b))
  | ite {t l r pos c a b} : Comp S vars t (.B c) → Comp S vars l (.I a) → Comp S vars r (.I b) → Comp S vars (.IfExp t l r pos) (.I (.ite c a b))
  | call1 {f fp x pos g a} : S.fn false f = some g → Comp S vars x (.I a) → Comp S vars (.Call (.Name f fp) [x] [] pos) (.I (.call1 g a))
  | call2 {f fp x y pos g a b} : S.fn false f = some g → Comp S vars x (.I a) → Comp S vars y (.I b) → Comp S vars (.Call (.Name f fp) [x, y] [] pos) (.I (.call2 g a b))
  | call3 {f fp x y z pos g a b c} : S.fn false f = some g → Comp S vars x (.I a) → Comp S vars y (.I b) → Comp S vars z (.I c) → Comp S vars (.Call (.Name f fp) [x, y, z] [] pos) (.I (.call3 g a b c))
  | trN {x pos c} : Comp S vars (.Name x pos) (.I c) → Comp S vars (.Name x pos) (.B (.tr c))
  | trB {l op r pos c} : Comp S vars (.BinOp l op r pos) (.I c) → Comp S vars (.BinOp l op r pos) (.B (.tr c))
  | nel {a b c a' b' c' q q' pos ca cb cc ca' cb' cc'} : Comp S vars a (.I ca) → Comp S vars b (.I cb) → Comp S vars c (.I cc) → Comp S vars a' (.I ca') → Comp S vars b' (.I cb') → Comp S vars c' (.I cc') →
      Comp S vars (.Compare (.List [a, b, c] q) [.NotEq] [.List [a', b', c'] q'] pos) (.B (.nel3 ca cb cc ca' cb' cc'))
  | cmp {l r op pos a b} : behindInMarks op r = false → Comp S vars l (.I a) → Comp S vars r (.I b) → cmpOk op = true → Comp S vars (.Compare l [op] [r] pos) (.B (.cmp op a b))
  | cmpE {l r op pos a b} : behindInMarks op r = false → Comp S vars l (.I a) → Comp S vars r (.I b) → cmpOk op = true → Comp S vars (.Compare l [op] [r] pos) (.E (.cmp op a b))
  | neB {l r pos a b} : behindInMarks .NotEq r = false → Comp S vars l (.E a) → Comp S vars r (.E b) → Comp S vars (.Compare l [.NotEq] [r] pos) (.B (.neB a b))
  | and {l r pos a b} : Comp S vars l (.B a) → Comp S vars r (.B b) → Comp S vars (.BoolOp .And [l, r] pos) (.B (.and a b))
  | or {l r pos a b} : Comp S vars l (.B a) → Comp S vars r (.B b) → Comp S vars (.BoolOp .Or [l, r] pos) (.B (.or a b))
  | tup2 {f fp x y pos g a b} : S.fn true f = some g → Comp S vars x (.I a) → Comp S vars y (.I b) → Comp S vars (.Call (.Name f fp) [x, y] [] pos) (.T (.call2 g a b))
  | tup3 {f fp x y z pos g a b c} : S.fn true f = some g → Comp S vars x (.I a) → Comp S vars y (.I b) → Comp S vars z (.I c) → Comp S vars (.Call (.Name f fp) [x, y, z] [] pos) (.T (.call3 g a b c))
  | tupIte {t l r pos c a b} : Comp S vars t (.B c) → Comp S vars l (.T a) → Comp S vars r (.T b) → Comp S vars (.IfExp t l r pos) (.T (.ite c a b))

theorem Comp.star {S : SE} {vars : List Str} {e : Expr} {k : Kd} (h : Comp S vars e k) (rest : List Expr) (env : Env) : starEach (e :: rest) env = (false, eval e env) :: starEach rest env := by
  cases h <;> rfl
theorem Comp.noswap {S : SE} {vars : List Str} {e : Expr} {k : Kd} (h : Comp S vars e k) (t : Option Expr) (line : Nat) (env : Env) : swapsWith e t line env = pure false := by
  cases h <;> rfl
theorem Comp.nostar {S : SE} {vars : List Str} {e : Expr} {k : Kd} (h : Comp S vars e k) (v : Expr) (q : Pos) : e ≠ .Starred v q := by
  rintro rfl; cases h
theorem Comp.nostores {S : SE} {vars : List Str} {e : Expr} {c : CT} (h : Comp S vars e (.T c)) (elts : List Expr) (k : Nat) (tp : Pos) (env : Env) : swappedStores [.Tuple elts k tp] e env = pure none := by
  cases h <;> rfl

section
variable (prog : Program) (w : World) (K : Frag) (p : Program) (loose : List Str) (mean : ExcName → Option Value) (mg mb : Str → Option Value)

/-- a def's contract: a call with these ints gives this back and changes nothing that stood -/
def CallOK (d : Nat) (f : Addr) (args : List Int) (r : AV) : Prop :=
  ∀ (A₀ A : Around) (base h₀ : Heap) (outer : List Env) (env : Env) (L : Addr) (m : Str → Option Value) (news : Led) (s : Shared) (Q E : Value → Shared → Prop) (vs : List Value),
    Below A₀ base outer h₀ → Fr h₀ L s.heap m → K.In h₀ → News h₀ L s.heap news → Top p loose mean mg mb h₀ → A.frames = some (env :: outer) → env.frame = some L → env.scope.kind = .function →
    A.handled = none → A.depth + d < recursionLimit → A.units + 64 + 3 * d < cLine → IntsAre vs args →
    (∀ v h' tk' news', Rep news' v r → Fr h₀ L h' m → News h₀ L h' news' → (∀ q ∈ news, q ∈ news') → Q v { s with heap := h', toks := tk' }) →
    wpAny (model prog w) A (call (.ref f) vs) Q E s

theorem CallOK.up {d d' : Nat} {f : Addr} {args : List Int} {r : AV} (h : CallOK prog w K p loose mean mg mb d f args r) (hd : d ≤ d') : CallOK prog w K p loose mean mg mb d' f args r :=
  fun A₀ A base h₀ outer env L m news s Q E vs b1 b2 b3 b4 b5 b6 b7 b8 b9 b10 b11 b12 k =>
    h A₀ A base h₀ outer env L m news s Q E vs b1 b2 b3 b4 b5 b6 b7 b8 b9 (by omega) (by omega) b12 k

/-- a frame of a def at work -/
structure FC (d : Nat) (S : SE) (A₀ A : Around) (base h₀ : Heap) (outer : List Env) (cn : Str) (L a : Addr) (ccd : Value) : Prop where
  B : Below A₀ base outer h₀
  X : K.In h₀
  T : Top p loose mean mg mb h₀
  hA : A.frames = some (envX cn S.sc L a ccd [] :: outer)
  hk : S.sc.kind = .function
  hh : A.handled = none
  hd : A.depth + d < recursionLimit
  hu : A.units + 64 + 3 * d < cLine
  consts : ∀ x i, S.consts.lookup x = some i → ∃ t, nsIn K mainGlobals x = some (some (.int i t))
  fns : ∀ x g, S.fns.lookup x = some g → nsIn K mainGlobals x = some (some (.ref (S.G g).addr)) ∧ keepIn K (.ref (S.G g).addr) = true
  ok : ∀ g args, (S.G g).ok args → CallOK prog w K p loose mean mg mb d (S.G g).addr args ((S.G g).res args)

def EvalOK (A : Around) (env : Env) (h₀ : Heap) (L : Addr) (m : Str → Option Value) (e : Expr) (a : AV) : Prop :=
  ∀ (s : Shared) (news : Led) (Q E : Value → Shared → Prop), Fr h₀ L s.heap m → News h₀ L s.heap news →
    (∀ v h' tk' news', Rep news' v a → Fr h₀ L h' m → News h₀ L h' news' → (∀ q ∈ news, q ∈ news') → Q v { s with heap := h', toks := tk' }) →
    wpAny (model prog w) A (eval e env) Q E s
def TestOK (A : Around) (env : Env) (h₀ : Heap) (L : Addr) (m : Str → Option Value) (e : Expr) (b : Bool) : Prop :=
  ∀ (s : Shared) (news : Led) (Q : Bool → Shared → Prop) (E : Value → Shared → Prop), Fr h₀ L s.heap m → News h₀ L s.heap news →
    (∀ h' tk' news', Fr h₀ L h' m → News h₀ L h' news' → (∀ q ∈ news, q ∈ news') → Q b { s with heap := h', toks := tk' }) →
    wpAny (model prog w) A (isTrue e env (eval e env)) Q E s
end

def Locs (vars : List Str) (σ : List Int) (m : Str → Option Value) : Prop :=
  σ.length = vars.length ∧ ∀ x k, idx vars x = some k → ∃ t, m x = some (.int (gt σ k) t)
end Mine

namespace Mine
theorem SE.fn_spec {S : SE} {t : Bool} {f : Str} {g : Nat} (h : S.fn t f = some g) :
    (f == ("__debug__" : Str)) = false ∧ S.sc.names.lookup f = some .globalImplicit ∧ S.fns.lookup f = some g ∧ (S.G g).isT = t := by
  unfold SE.fn at h
  split at h
  · cases h
  · rename_i hd
    split at h
    · rename_i hl
      split at h
      · rename_i g' hg
        split at h
        · rename_i ht
          cases h
          exact ⟨by simpa using hd, hl, hg, ht⟩
        · cases h
      · cases h
    · cases h

theorem binOp_ok {prog : Program} {w : World} {A : Around} {E : Value → Shared → Prop} {s : Shared} {op : Operator} {x y : Int} {t u : Tok} {Q : Value → Shared → Prop}
    (ho : binOk op x y) (h : Q (.int (binI op x y) s.toks) { s with toks := s.toks + 1 }) : wpAny (model prog w) A (binaryOp op (.int x t) (.int y u)) Q E s := by
  cases op <;> first | exact ho.elim | skip
  · exact add_int h
  · exact sub_int h
  · exact mul_int h (IntMulOk.of_left (intBits_le_64 (by have : x.natAbs < 2 ^ 63 := ho; omega) (by have : x.natAbs < 2 ^ 63 := ho; omega)))
  · exact mod_int' ho h
  · exact lshift_int_small ho.1 ho.2.1 ho.2.2 h
  · exact rshift_int ho h
  · exact or_int h
  · exact xor_int h
  · exact and_int h
  · exact floordiv_int ho.1 h (Or.inl (PyProof.noPylong_small ho.2))

theorem cmpOp_ok {prog : Program} {w : World} {A : Around} {E : Value → Shared → Prop} {s : Shared} {op : CmpOp} {x y : Int} {t u : Tok} {Q : Value → Shared → Prop}
    (ho : cmpOk op = true) (h : Q (.bool (cmpI op x y)) s) : wpAny (model prog w) A (compareOp op (.int x t) (.int y u)) Q E s := by
  cases op <;> first | (cases ho; done) | skip
  · exact eq_int h
  · exact ne_int h
  · exact lt_int h
  · exact le_int h
  · exact gt_int h
  · exact ge_int h

section
variable {prog : Program} {w : World} {K : Frag} {p : Program} {loose : List Str} {mean : ExcName → Option Value} {mg mb : Str → Option Value}
variable {d : Nat} {S : SE} {A₀ A : Around} {base h₀ : Heap} {outer : List Env} {cn : Str} {L a : Addr} {ccd : Value} {m : Str → Option Value} {vars : List Str} {σ : List Int}

theorem ev_lit {i : Int} {k pos} : EvalOK prog w A (envX cn S.sc L a ccd []) h₀ L m (.Constant (.int i) k pos) (.int i) := by
  intro s news Q E F N k
  exact wpAny_Constant_int (k _ s.heap (s.toks + 1) news ⟨_, rfl⟩ F N fun _ h => h)

theorem ev_var (fc : FC prog w K p loose mean mg mb d S A₀ A base h₀ outer cn L a ccd) (hl : Locs vars σ m) {x : Str} {pos} {c : CI} (h : compVar S vars x = some c) :
    EvalOK prog w A (envX cn S.sc L a ccd []) h₀ L m (.Name x pos) (.int (ci S.G σ c)) := by
  intro s news Q E F N k
  unfold compVar at h
  split at h
  · cases h
  · rename_i hd
    have hd' : (x == ("__debug__" : Str)) = false := by simpa using hd
    split at h
    · rename_i hk
      obtain ⟨j, hj, rfl⟩ := Option.map_eq_some_iff.mp h
      obtain ⟨t, ht⟩ := hl.2 x j hj
      exact nameX_L F ht (k _ s.heap s.toks news ⟨_, by rw [ci]⟩ F N fun _ h => h) fc.hk hk hd'
    · split at h
      · rename_i hk
        obtain ⟨i, hi, rfl⟩ := Option.map_eq_some_iff.mp h
        obtain ⟨t, ht⟩ := fc.consts x i hi
        exact nameX_K F fc.X (topRead_of fc.T) ht (k _ s.heap s.toks news ⟨_, by rw [ci]⟩ F N fun _ h => h) fc.hk hk hd'
      · cases h

theorem ev_bin {op : Operator} {l r : Expr} {pos} {x y : Int} (hl : EvalOK prog w A (envX cn S.sc L a ccd []) h₀ L m l (.int x)) (hr : EvalOK prog w A (envX cn S.sc L a ccd []) h₀ L m r (.int y)) (ho : binOk op x y) :
    EvalOK prog w A (envX cn S.sc L a ccd []) h₀ L m (.BinOp l op r pos) (.int (binI op x y)) := by
  intro s news Q E F N k
  refine wpAny_BinOp (hl s news _ _ F N ?_)
  rintro v h' tk' news' ⟨t, rfl⟩ F' N' sub
  refine hr _ news' _ _ F' N' ?_
  rintro v h'' tk'' news'' ⟨u, rfl⟩ F'' N'' sub'
  exact binOp_ok ho (k _ _ _ news'' ⟨_, rfl⟩ F'' N'' fun q hq => sub' q (sub q hq))

theorem ev_ite {t l r : Expr} {pos} {b : Bool} {x y : AV} (ht : TestOK prog w A (envX cn S.sc L a ccd []) h₀ L m t b)
    (hl : b = true → EvalOK prog w A (envX cn S.sc L a ccd []) h₀ L m l x) (hr : b = false → EvalOK prog w A (envX cn S.sc L a ccd []) h₀ L m r y) :
    EvalOK prog w A (envX cn S.sc L a ccd []) h₀ L m (.IfExp t l r pos) (if b then x else y) := by
  intro s news Q E F N k
  refine IfExp_ (ht s news _ _ F N ?_)
  intro h' tk' news' F' N' sub
  cases b with
  | true => exact hl rfl _ news' _ _ F' N' fun v h'' tk'' news'' rp F'' N'' sub' => k v h'' tk'' news'' rp F'' N'' fun q hq => sub' q (sub q hq)
  | false => exact hr rfl _ news' _ _ F' N' fun v h'' tk'' news'' rp F'' N'' sub' => k v h'' tk'' news'' rp F'' N'' fun q hq => sub' q (sub q hq)

/-- the arguments of a call, left to right -/
def ArgsOK (prog : Program) (w : World) (A : Around) (env : Env) (h₀ : Heap) (L : Addr) (m : Str → Option Value) (es : List Expr) (is : List Int) : Prop :=
  ∀ (s : Shared) (news : Led) (pos : Pos) (Q : List Value → Shared → Prop) (E : Value → Shared → Prop), Fr h₀ L s.heap m → News h₀ L s.heap news →
    (∀ vs h' tk' news', IntsAre vs is → Fr h₀ L h' m → News h₀ L h' news' → (∀ q ∈ news, q ∈ news') → Q vs { s with heap := h', toks := tk' }) →
    wpAny (model prog w) A (spliced (backTo pos (starEach es env))) Q E s

theorem args_nil_ok : ArgsOK prog w A (envX cn S.sc L a ccd []) h₀ L m [] [] := by
  intro s news pos Q E F N k
  exact args_nil (k [] s.heap s.toks news .nil F N fun _ h => h)
theorem args_cons_ok {e : Expr} {es : List Expr} {i : Int} {is : List Int} (he : EvalOK prog w A (envX cn S.sc L a ccd []) h₀ L m e (.int i)) (hes : ArgsOK prog w A (envX cn S.sc L a ccd []) h₀ L m es is)
    (hst : ∀ (rest : List Expr) (env : Env), starEach (e :: rest) env = (false, eval e env) :: starEach rest env) : ArgsOK prog w A (envX cn S.sc L a ccd []) h₀ L m (e :: es) (i :: is) := by
  intro s news pos Q E F N k
  refine args_cons (he s news _ _ F N ?_) (hst _ _)
  rintro v h' tk' news' ⟨t, rfl⟩ F' N' sub
  refine hes _ news' pos _ _ F' N' ?_
  intro vs h'' tk'' news'' hi F'' N'' sub'
  exact k _ h'' tk'' news'' (.cons i t hi) F'' N'' fun q hq => sub' q (sub q hq)

theorem plain_any {pos : Pos} {env : Env} : ∀ (es : List Expr), (∀ e ∈ es, ∀ (rest : List Expr) (env : Env), starEach (e :: rest) env = (false, eval e env) :: starEach rest env) → (backTo pos (starEach es env)).any (·.1) = false
  | [], _ => rfl
  | e :: r, h => by
    rw [h e (.head _)]
    show (false || (backTo pos (starEach r env)).any (·.1)) = false
    rw [plain_any r fun e he => h e (.tail _ he)]; rfl

theorem ev_call (fc : FC prog w K p loose mean mg mb d S A₀ A base h₀ outer cn L a ccd) {t : Bool} {f : Str} {g : Nat} {pos fp : Pos} {e : Expr} {es : List Expr} {args : List Int}
    (hf : S.fn t f = some g) (hargs : ArgsOK prog w A (envX cn S.sc L a ccd []) h₀ L m (e :: es) args)
    (hst : ∀ e' ∈ e :: es, ∀ (rest : List Expr) (env : Env), starEach (e' :: rest) env = (false, eval e' env) :: starEach rest env)
    (hok : (S.G g).ok args) : EvalOK prog w A (envX cn S.sc L a ccd []) h₀ L m (.Call (.Name f fp) (e :: es) [] pos) ((S.G g).res args) := by
  intro s news Q E F N k
  obtain ⟨hd, hk, hg, _⟩ := SE.fn_spec hf
  obtain ⟨hn, hkeep⟩ := fc.fns f g hg
  refine Call_ (nameX_K F fc.X (topRead_of fc.T) hn ?_ fc.hk hk hd)
  refine callWith_K fc.X hkeep ?_ (hst e (.head _) _ _) (plain_any es fun e' he => hst e' (.tail _ he))
  refine hargs s news pos _ _ F N ?_
  intro vs h' tk' news' hi F' N' sub
  refine ⟨fc.X.keeps F'.keep, ?_⟩
  exact fc.ok g args hok A₀ A base h₀ outer _ L m news' _ Q E vs fc.B F' fc.X N' fc.T fc.hA rfl fc.hk fc.hh fc.hd fc.hu hi
    fun v h'' tk'' news'' rp F'' N'' sub' => k v h'' tk'' news'' rp F'' N'' fun q hq => sub' q (sub q hq)

theorem ts_of_ev_int {e : Expr} {x : Int} (he : EvalOK prog w A (envX cn S.sc L a ccd []) h₀ L m e (.int x))
    (hp : ∀ (env : Env) (whole : Sem Value), isTrue e env whole = (do let v ← whole; standAt e.pos; holding [v] (truthy v))) : TestOK prog w A (envX cn S.sc L a ccd []) h₀ L m e (x != 0) := by
  intro s news Q E F N k
  refine isTrue_plain (he s news _ _ F N ?_) (hp _ _)
  rintro v h' tk' news' ⟨t, rfl⟩ F' N' sub
  exact truthy_int (k h' tk' news' F' N' sub)

theorem ev_cmp {op : CmpOp} {l r : Expr} {pos} {x y : Int} (hl : EvalOK prog w A (envX cn S.sc L a ccd []) h₀ L m l (.int x)) (hr : EvalOK prog w A (envX cn S.sc L a ccd []) h₀ L m r (.int y)) (ho : cmpOk op = true)
    (hm : behindInMarks op r = false) : EvalOK prog w A (envX cn S.sc L a ccd []) h₀ L m (.Compare l [op] [r] pos) (.bool (cmpI op x y)) := by
  intro s news Q E F N k
  refine wpAny_Compare1 (hl s news _ _ F N ?_) hm
  rintro v h' tk' news' ⟨t, rfl⟩ F' N' sub
  refine hr _ news' _ _ F' N' ?_
  rintro v h'' tk'' news'' ⟨u, rfl⟩ F'' N'' sub'
  exact cmpOp_ok ho (k _ _ _ news'' rfl F'' N'' fun q hq => sub' q (sub q hq))

theorem ts_cmp {op : CmpOp} {l r : Expr} {pos} {x y : Int} (hl : EvalOK prog w A (envX cn S.sc L a ccd []) h₀ L m l (.int x)) (hr : EvalOK prog w A (envX cn S.sc L a ccd []) h₀ L m r (.int y)) (ho : cmpOk op = true)
    (hm : behindInMarks op r = false) : TestOK prog w A (envX cn S.sc L a ccd []) h₀ L m (.Compare l [op] [r] pos) (cmpI op x y) := by
  intro s news Q E F N k
  refine wpAny_isTrue_Compare1 (hl s news _ _ F N ?_) hm
  rintro v h' tk' news' ⟨t, rfl⟩ F' N' sub
  refine hr _ news' _ _ F' N' ?_
  rintro v h'' tk'' news'' ⟨u, rfl⟩ F'' N'' sub'
  exact cmpOp_ok ho (wpAny_truthy_bool (k _ _ news'' F'' N'' fun q hq => sub' q (sub q hq)))

theorem ts_neB {l r : Expr} {pos} {x y : Bool} (hl : EvalOK prog w A (envX cn S.sc L a ccd []) h₀ L m l (.bool x)) (hr : EvalOK prog w A (envX cn S.sc L a ccd []) h₀ L m r (.bool y))
    (hm : behindInMarks .NotEq r = false) : TestOK prog w A (envX cn S.sc L a ccd []) h₀ L m (.Compare l [.NotEq] [r] pos) (x != y) := by
  intro s news Q E F N k
  refine wpAny_isTrue_Compare1 (hl s news _ _ F N ?_) hm
  rintro v h' tk' news' rfl F' N' sub
  refine hr _ news' _ _ F' N' ?_
  rintro v h'' tk'' news'' rfl F'' N'' sub'
  exact ne_bool (wpAny_truthy_bool (k _ _ news'' F'' N'' fun q hq => sub' q (sub q hq)))

theorem ts_and {l r : Expr} {pos} {x y : Bool} (hl : TestOK prog w A (envX cn S.sc L a ccd []) h₀ L m l x) (hr : x = true → TestOK prog w A (envX cn S.sc L a ccd []) h₀ L m r y) :
    TestOK prog w A (envX cn S.sc L a ccd []) h₀ L m (.BoolOp .And [l, r] pos) (x && y) := by
  intro s news Q E F N k
  refine isTrue_and (hl s news _ _ F N ?_)
  intro h' tk' news' F' N' sub
  cases x with
  | false => exact k h' tk' news' F' N' sub
  | true =>
    refine isTrue_and (hr rfl _ news' _ _ F' N' ?_)
    intro h'' tk'' news'' F'' N'' sub'
    cases y with
    | false => exact k h'' tk'' news'' F'' N'' fun q hq => sub' q (sub q hq)
    | true => exact isTrue_and_nil (k h'' tk'' news'' F'' N'' fun q hq => sub' q (sub q hq))
theorem ts_or {l r : Expr} {pos} {x y : Bool} (hl : TestOK prog w A (envX cn S.sc L a ccd []) h₀ L m l x) (hr : x = false → TestOK prog w A (envX cn S.sc L a ccd []) h₀ L m r y) :
    TestOK prog w A (envX cn S.sc L a ccd []) h₀ L m (.BoolOp .Or [l, r] pos) (x || y) := by
  intro s news Q E F N k
  refine isTrue_or (hl s news _ _ F N ?_)
  intro h' tk' news' F' N' sub
  cases x with
  | true => exact k h' tk' news' F' N' sub
  | false =>
    refine isTrue_or (hr rfl _ news' _ _ F' N' ?_)
    intro h'' tk'' news'' F'' N'' sub'
    cases y with
    | true => exact k h'' tk'' news'' F'' N'' fun q hq => sub' q (sub q hq)
    | false => exact isTrue_or_nil (k h'' tk'' news'' F'' N'' fun q hq => sub' q (sub q hq))
end
end Mine

namespace Mine
section
variable {prog : Program} {w : World} {K : Frag} {p : Program} {loose : List Str} {mean : ExcName → Option Value} {mg mb : Str → Option Value}
variable {d : Nat} {S : SE} {A₀ A : Around} {base h₀ : Heap} {outer : List Env} {cn : Str} {L a a₁ : Addr} {ccd : Value} {m : Str → Option Value} {vars : List Str} {σ : List Int}

theorem ts_nel (fc : FC prog w K p loose mean mg mb d S A₀ A base h₀ outer cn L a ccd) {es es' : List Expr} {is is' : List Int} {q q' pos : Pos} (hl : ArgsOK prog w A (envX cn S.sc L a ccd []) h₀ L m es is) (hr : ArgsOK prog w A (envX cn S.sc L a ccd []) h₀ L m es' is')
    (h1 : is.length ≤ 5) (h2 : is'.length ≤ 5) : TestOK prog w A (envX cn S.sc L a ccd []) h₀ L m (.Compare (.List es q) [.NotEq] [.List es' q'] pos) (!decide (is = is')) := by
  intro s news Q E F N k
  refine wpAny_isTrue_Compare1 (List_ (hl s news q _ _ F N ?_)) (by rfl)
  intro vs h' tk' news' hi F' N' sub
  refine newList_N F' N' ?_ (by rw [hi.length, sizeLine_eq]; omega)
  intro h1' F1 N1
  refine List_ (hr _ _ q' _ _ F1 N1 ?_)
  intro vs2 h'' tk'' news'' hi2 F'' N'' sub'
  refine newList_N F'' N'' ?_ (by rw [hi2.length, sizeLine_eq]; omega)
  intro h2' F2 N2
  refine ne_intsK (vs := vs) (us := vs2) (ns := is) (ms := is') ?_ hi ?_ hi2 (by have := fc.hu; omega) ?_
  · exact N2.isList (List.mem_cons_of_mem _ (sub' _ (.head _)))
  · exact N2.isList (.head _)
  · exact wpAny_truthy_bool (k _ _ _ F2 N2 fun q hq => List.mem_cons_of_mem _ (sub' _ (List.mem_cons_of_mem _ (sub q hq))))

theorem Fn.res_int {F : Fn} (h : F.isT = false) (l : List Int) : F.res l = .int (F.vi l) := by unfold Fn.res; rw [h]; rfl
theorem Fn.res_tup {F : Fn} (h : F.isT = true) (l : List Int) : F.res l = .tup (F.vt l) := by unfold Fn.res; rw [h]; rfl

/-- what the compiled form of an expression promises -/
def KdOK (prog : Program) (w : World) (A : Around) (env : Env) (h₀ : Heap) (L : Addr) (m : Str → Option Value) (G : Nat → Fn) (σ : List Int) (e : Expr) : Kd → Prop
  | .I c => oki G σ c → EvalOK prog w A env h₀ L m e (.int (ci G σ c))
  | .B c => okb G σ c → TestOK prog w A env h₀ L m e (cb G σ c)
  | .E c => okb G σ c → EvalOK prog w A env h₀ L m e (.bool (cb G σ c))
  | .T c => okt G σ c → EvalOK prog w A env h₀ L m e (.tup (ct G σ c))

theorem args1 {x : Expr} {a : Int} (h : EvalOK prog w A (envX cn S.sc L a₁ ccd []) h₀ L m x (.int a)) (hx : ∀ (rest : List Expr) (env : Env), starEach (x :: rest) env = (false, eval x env) :: starEach rest env) :
    ArgsOK prog w A (envX cn S.sc L a₁ ccd []) h₀ L m [x] [a] := args_cons_ok h args_nil_ok hx
theorem args2 {x y : Expr} {a b : Int} (h : EvalOK prog w A (envX cn S.sc L a₁ ccd []) h₀ L m x (.int a)) (h' : EvalOK prog w A (envX cn S.sc L a₁ ccd []) h₀ L m y (.int b))
    (hx : ∀ (rest : List Expr) (env : Env), starEach (x :: rest) env = (false, eval x env) :: starEach rest env) (hy : ∀ (rest : List Expr) (env : Env), starEach (y :: rest) env = (false, eval y env) :: starEach rest env) :
    ArgsOK prog w A (envX cn S.sc L a₁ ccd []) h₀ L m [x, y] [a, b] := args_cons_ok h (args1 h' hy) hx
theorem args3 {x y z : Expr} {a b c : Int} (h : EvalOK prog w A (envX cn S.sc L a₁ ccd []) h₀ L m x (.int a)) (h' : EvalOK prog w A (envX cn S.sc L a₁ ccd []) h₀ L m y (.int b)) (h'' : EvalOK prog w A (envX cn S.sc L a₁ ccd []) h₀ L m z (.int c))
    (hx : ∀ (rest : List Expr) (env : Env), starEach (x :: rest) env = (false, eval x env) :: starEach rest env) (hy : ∀ (rest : List Expr) (env : Env), starEach (y :: rest) env = (false, eval y env) :: starEach rest env)
    (hz : ∀ (rest : List Expr) (env : Env), starEach (z :: rest) env = (false, eval z env) :: starEach rest env) :
    ArgsOK prog w A (envX cn S.sc L a₁ ccd []) h₀ L m [x, y, z] [a, b, c] := args_cons_ok h (args2 h' h'' hy hz) hx
theorem all1 {P : Expr → Prop} {x : Expr} (h : P x) : ∀ e ∈ [x], P e := fun e he => by rcases List.mem_singleton.mp he with rfl; exact h
theorem all2 {P : Expr → Prop} {x y : Expr} (h : P x) (h' : P y) : ∀ e ∈ [x, y], P e := fun e he => by
  rcases List.mem_cons.mp he with rfl | he
  · exact h
  · exact all1 h' e he
theorem all3 {P : Expr → Prop} {x y z : Expr} (h : P x) (h' : P y) (h'' : P z) : ∀ e ∈ [x, y, z], P e := fun e he => by
  rcases List.mem_cons.mp he with rfl | he
  · exact h
  · exact all2 h' h'' e he
theorem ite_av (b : Bool) (x y : Int) : (if b then AV.int x else AV.int y) = AV.int (if b then x else y) := by cases b <;> rfl
theorem ite_at (b : Bool) (x y : List Int) : (if b then AV.tup x else AV.tup y) = AV.tup (if b then x else y) := by cases b <;> rfl

theorem comp_ok (fc : FC prog w K p loose mean mg mb d S A₀ A base h₀ outer cn L a₁ ccd) (hl : Locs vars σ m) {e : Expr} {k : Kd} (h : Comp S vars e k) : KdOK prog w A (envX cn S.sc L a₁ ccd []) h₀ L m S.G σ e k := by
  induction h with
  | lit => exact fun _ => ev_lit
  | var h => exact fun _ => ev_var fc hl h
  | bin _ _ i1 i2 => exact fun ho => ev_bin (i1 ho.1) (i2 ho.2.1) ho.2.2
  | ite _ _ _ i1 i2 i3 => exact fun ho => ite_av _ _ _ ▸ ev_ite (i1 ho.1) (fun e => i2 (ho.2.1 e)) (fun e => i3 (ho.2.2 e))
  | @call1 f fp x pos g a hf hx i1 =>
    intro ho
    have := ev_call (fp := fp) (pos := pos) fc hf (args1 (i1 ho.1) hx.star) (all1 hx.star) ho.2
    rw [Fn.res_int (SE.fn_spec hf).2.2.2] at this
    exact this
  | @call2 f fp x y pos g a b hf hx hy i1 i2 =>
    intro ho
    have := ev_call (fp := fp) (pos := pos) fc hf (args2 (i1 ho.1) (i2 ho.2.1) hx.star hy.star) (all2 hx.star hy.star) ho.2.2
    rw [Fn.res_int (SE.fn_spec hf).2.2.2] at this
    exact this
  | @call3 f fp x y z pos g a b c hf hx hy hz i1 i2 i3 =>
    intro ho
    have := ev_call (fp := fp) (pos := pos) fc hf (args3 (i1 ho.1) (i2 ho.2.1) (i3 ho.2.2.1) hx.star hy.star hz.star) (all3 hx.star hy.star hz.star) ho.2.2.2
    rw [Fn.res_int (SE.fn_spec hf).2.2.2] at this
    exact this
  | trN _ i1 => exact fun ho => ts_of_ev_int (i1 ho) fun _ _ => rfl
  | trB _ i1 => exact fun ho => ts_of_ev_int (i1 ho) fun _ _ => rfl
  | nel h1 h2 h3 h4 h5 h6 i1 i2 i3 i4 i5 i6 =>
    exact fun ho => ts_nel fc (args3 (i1 ho.1.1) (i2 ho.1.2.1) (i3 ho.1.2.2) h1.star h2.star h3.star) (args3 (i4 ho.2.1) (i5 ho.2.2.1) (i6 ho.2.2.2) h4.star h5.star h6.star) (Nat.le_of_ble_eq_true rfl) (Nat.le_of_ble_eq_true rfl)
  | cmp hm _ _ hc i1 i2 => exact fun ho => ts_cmp (i1 ho.1) (i2 ho.2) hc hm
  | cmpE hm _ _ hc i1 i2 => exact fun ho => ev_cmp (i1 ho.1) (i2 ho.2) hc hm
  | neB hm _ _ i1 i2 => exact fun ho => ts_neB (i1 ho.1) (i2 ho.2) hm
  | and _ _ i1 i2 => exact fun ho => ts_and (i1 ho.1) fun e => i2 (ho.2 e)
  | or _ _ i1 i2 => exact fun ho => ts_or (i1 ho.1) fun e => i2 (ho.2 e)
  | @tup2 f fp x y pos g a b hf hx hy i1 i2 =>
    intro ho
    have := ev_call (fp := fp) (pos := pos) fc hf (args2 (i1 ho.1) (i2 ho.2.1) hx.star hy.star) (all2 hx.star hy.star) ho.2.2
    rw [Fn.res_tup (SE.fn_spec hf).2.2.2] at this
    exact this
  | @tup3 f fp x y z pos g a b c hf hx hy hz i1 i2 i3 =>
    intro ho
    have := ev_call (fp := fp) (pos := pos) fc hf (args3 (i1 ho.1) (i2 ho.2.1) (i3 ho.2.2.1) hx.star hy.star hz.star) (all3 hx.star hy.star hz.star) ho.2.2.2
    rw [Fn.res_tup (SE.fn_spec hf).2.2.2] at this
    exact this
  | tupIte _ _ _ i1 i2 i3 => exact fun ho => ite_at _ _ _ ▸ ev_ite (i1 ho.1) (fun e => i2 (ho.2.1 e)) (fun e => i3 (ho.2.2 e))
end
end Mine

namespace Mine
inductive CA where
  | nil
  | set (k : Nat) (e : CI) (r : CA)
  | setT (k1 k2 : Nat) (e : CT) (r : CA)
  | par2 (k1 k2 : Nat) (e1 e2 : CI) (r : CA)
  | par3 (k1 k2 k3 : Nat) (e1 e2 e3 : CI) (r : CA)
  | par5 (k1 k2 k3 k4 k5 : Nat) (e1 e2 e3 e4 e5 : CI) (r : CA)
  | ite (t : CB) (a b r : CA)
  | guard (t : CB) (r : CA)

def put : List Int → Nat → Int → List Int
  | [], _, v => [v]
  | _ :: r, 0, v => v :: r
  | x :: r, k + 1, v => x :: put r k v
theorem put_set : ∀ (σ : List Int) (k : Nat) (v : Int), k < σ.length → put σ k v = σ.set k v
  | _ :: _, 0, _, _ => rfl
  | x :: r, k + 1, v, h => by rw [put, put_set r k v (by simpa using h)]; rfl
theorem put_app : ∀ (σ : List Int) (v : Int), put σ σ.length v = σ ++ [v]
  | [], _ => rfl
  | x :: r, v => by rw [List.length_cons, put, put_app r v]; rfl
/-- what holds behind a block, and that the block comes through -/
def wpc (G : Nat → Fn) : CA → (List Int → Prop) → List Int → Prop
  | .nil, P, σ => P σ
  | .set k e r, P, σ => oki G σ e ∧ wpc G r P (put σ k (ci G σ e))
  | .setT k1 k2 e r, P, σ => okt G σ e ∧ (ct G σ e).length = 2 ∧ wpc G r P (put (put σ k1 (gt (ct G σ e) 0)) k2 (gt (ct G σ e) 1))
  | .par2 k1 k2 e1 e2 r, P, σ => oki G σ e1 ∧ oki G σ e2 ∧ wpc G r P (put (put σ k1 (ci G σ e1)) k2 (ci G σ e2))
  | .par3 k1 k2 k3 e1 e2 e3 r, P, σ => oki G σ e1 ∧ oki G σ e2 ∧ oki G σ e3 ∧ wpc G r P (put (put (put σ k1 (ci G σ e1)) k2 (ci G σ e2)) k3 (ci G σ e3))
  | .par5 k1 k2 k3 k4 k5 e1 e2 e3 e4 e5 r, P, σ => oki G σ e1 ∧ oki G σ e2 ∧ oki G σ e3 ∧ oki G σ e4 ∧ oki G σ e5 ∧
      wpc G r P (put (put (put (put (put σ k1 (ci G σ e1)) k2 (ci G σ e2)) k3 (ci G σ e3)) k4 (ci G σ e4)) k5 (ci G σ e5))
  | .ite t a b r, P, σ => okb G σ t ∧ (cb G σ t = true → wpc G a (wpc G r P) σ) ∧ (cb G σ t = false → wpc G b (wpc G r P) σ)
  | .guard t r, P, σ => okb G σ t ∧ cb G σ t = false ∧ wpc G r P σ

/-- where a stored name stands, and the names behind the store -/
def tgt (S : SE) (vars : List Str) (x : Str) : Option (Nat × List Str) :=
  if S.sc.names.lookup x = some .local then
    (match idx vars x with
    | some k => some (k, vars)
    | none => some (vars.length, vars ++ [x]))
  else none

def swapCk (es : List Expr) (ps : List Pos) (xs : List Str) : Bool :=
  !(es.all (foldedForSure 8)) && !(es.all (constantsAlone 8)) && ps.all (fun q => q.line == (ps.head?.map (·.line)).getD 0) && decide (xs.Nodup) && xs.eraseDups.length == xs.length

/-- where a stored name stands: at k -/
def tgtCk (S : SE) (vars : List Str) (k : Nat) (x : Str) : Bool :=
  decide (S.sc.names.lookup x = some .local) && (match idx vars x with
  | some j => j == k
  | none => k == vars.length)
def vput (vars : List Str) (k : Nat) (x : Str) : List Str := if k < vars.length then vars else vars ++ [x]

/-- the compiled form of a block -/
inductive CompA (S : SE) : List Str → List Stmt → CA → List Str → Prop where
  | nil {vars vars'} : vars = vars' → CompA S vars [] .nil vars'
  | set {vars x px v pos rest k e r vars'} : Comp S vars v (.I e) → tgtCk S vars k x = true → CompA S (vput vars k x) rest r vars' →
      CompA S vars (.Assign [.Name x px] v pos :: rest) (.set k e r) vars'
  | aug {vars x px v pos rest k e r vars'} : Comp S vars v (.I e) → idx vars x = some k → S.sc.names.lookup x = some .local → CompA S vars rest r vars' →
      CompA S vars (.AugAssign (.Name x px) .BitXor v pos :: rest) (.set k (.bin .BitXor (.var k) e) r) vars'
  | par2 {vars x1 p1 x2 p2 i tp e1 e2 i' tp' pos rest k1 k2 c1 c2 r vars'} : swapCk [e1, e2] [p1, p2] [x1, x2] = true → Comp S vars e1 (.I c1) → Comp S vars e2 (.I c2) →
      tgtCk S vars k1 x1 = true → tgtCk S (vput vars k1 x1) k2 x2 = true → CompA S (vput (vput vars k1 x1) k2 x2) rest r vars' →
      CompA S vars (.Assign [.Tuple [.Name x1 p1, .Name x2 p2] i tp] (.Tuple [e1, e2] i' tp') pos :: rest) (.par2 k1 k2 c1 c2 r) vars'
  | par3 {vars x1 p1 x2 p2 x3 p3 i tp e1 e2 e3 i' tp' pos rest k1 k2 k3 c1 c2 c3 r vars'} : swapCk [e1, e2, e3] [p1, p2, p3] [x1, x2, x3] = true → Comp S vars e1 (.I c1) → Comp S vars e2 (.I c2) → Comp S vars e3 (.I c3) →
      tgtCk S vars k1 x1 = true → tgtCk S (vput vars k1 x1) k2 x2 = true → tgtCk S (vput (vput vars k1 x1) k2 x2) k3 x3 = true → CompA S (vput (vput (vput vars k1 x1) k2 x2) k3 x3) rest r vars' →
      CompA S vars (.Assign [.Tuple [.Name x1 p1, .Name x2 p2, .Name x3 p3] i tp] (.Tuple [e1, e2, e3] i' tp') pos :: rest) (.par3 k1 k2 k3 c1 c2 c3 r) vars'
  | par5 {vars x1 p1 x2 p2 x3 p3 x4 p4 x5 p5 i tp e1 e2 e3 e4 e5 i' tp' pos rest k1 k2 k3 k4 k5 c1 c2 c3 c4 c5 r vars'} : Comp S vars e1 (.I c1) → Comp S vars e2 (.I c2) → Comp S vars e3 (.I c3) → Comp S vars e4 (.I c4) → Comp S vars e5 (.I c5) →
      tgtCk S vars k1 x1 = true → tgtCk S (vput vars k1 x1) k2 x2 = true → tgtCk S (vput (vput vars k1 x1) k2 x2) k3 x3 = true → tgtCk S (vput (vput (vput vars k1 x1) k2 x2) k3 x3) k4 x4 = true →
      tgtCk S (vput (vput (vput (vput vars k1 x1) k2 x2) k3 x3) k4 x4) k5 x5 = true → CompA S (vput (vput (vput (vput (vput vars k1 x1) k2 x2) k3 x3) k4 x4) k5 x5) rest r vars' →
      CompA S vars (.Assign [.Tuple [.Name x1 p1, .Name x2 p2, .Name x3 p3, .Name x4 p4, .Name x5 p5] i tp] (.Tuple [e1, e2, e3, e4, e5] i' tp') pos :: rest) (.par5 k1 k2 k3 k4 k5 c1 c2 c3 c4 c5 r) vars'
  | setT {vars x1 p1 x2 p2 i tp v pos rest k1 k2 c r vars'} : Comp S vars v (.T c) →
      tgtCk S vars k1 x1 = true → tgtCk S (vput vars k1 x1) k2 x2 = true → CompA S (vput (vput vars k1 x1) k2 x2) rest r vars' →
      CompA S vars (.Assign [.Tuple [.Name x1 p1, .Name x2 p2] i tp] v pos :: rest) (.setT k1 k2 c r) vars'
  | guard {vars t v q more pos rest c r vars'} : Comp S vars t (.B c) → CompA S vars rest r vars' → CompA S vars (.If t (.Return v q :: more) [] pos :: rest) (.guard c r) vars'
  | ite {vars t b o pos rest c ca cb r vars1 vars'} : Comp S vars t (.B c) → CompA S vars b ca vars1 → CompA S vars o cb vars1 → CompA S vars1 rest r vars' → CompA S vars (.If t b o pos :: rest) (.ite c ca cb r) vars'

theorem idx_lt : ∀ {vars : List Str} {x : Str} {k : Nat}, idx vars x = some k → k < vars.length
  | [], _, _, h => by cases h
  | y :: r, x, k, h => by
    unfold idx at h
    split at h
    · cases h; simp
    · obtain ⟨j, hj, rfl⟩ := Option.map_eq_some_iff.mp h
      have := idx_lt hj
      simp; omega
theorem idx_inj : ∀ {vars : List Str} {x y : Str} {k : Nat}, idx vars x = some k → idx vars y = some k → x = y
  | [], _, _, _, h, _ => by cases h
  | z :: r, x, y, k, h, h' => by
    unfold idx at h h'
    split at h
    · rename_i e
      cases h
      split at h'
      · rename_i e'; rw [e, e']
      · obtain ⟨j, _, hj⟩ := Option.map_eq_some_iff.mp h'; omega
    · obtain ⟨j, hj, rfl⟩ := Option.map_eq_some_iff.mp h
      split at h'
      · cases h'
      · obtain ⟨j', hj', e⟩ := Option.map_eq_some_iff.mp h'
        have : j' = j := by omega
        subst this
        exact idx_inj hj hj'
theorem idx_app : ∀ {vars : List Str} {x y : Str} {k : Nat}, idx (vars ++ [x]) y = some k → idx vars y = some k ∨ (y = x ∧ k = vars.length)
  | [], x, y, k, h => by
    simp only [List.nil_append, idx, Option.map_none] at h
    split at h
    · rename_i e; cases h; exact .inr ⟨e, rfl⟩
    · cases h
  | z :: r, x, y, k, h => by
    rw [List.cons_append] at h
    unfold idx at h
    split at h
    · rename_i e
      cases h
      left; unfold idx; rw [if_pos e]
    · rename_i e
      obtain ⟨j, hj, rfl⟩ := Option.map_eq_some_iff.mp h
      rcases idx_app hj with h1 | ⟨h1, h2⟩
      · left; unfold idx; rw [if_neg e, h1]; rfl
      · right; exact ⟨h1, by simp [h2]⟩

theorem locs_put {S : SE} {vars vars' : List Str} {σ : List Int} {m : Str → Option Value} {x : Str} {k : Nat} {i : Int} {t : Tok} (hl : Locs vars σ m) (ht : tgt S vars x = some (k, vars')) :
    Locs vars' (put σ k i) (fun y => if y = x then some (.int i t) else m y) := by
  unfold tgt at ht
  split at ht
  · split at ht
    · rename_i j hj
      cases ht
      have hk : k < σ.length := by rw [hl.1]; exact idx_lt hj
      rw [put_set _ _ _ hk]
      refine ⟨by rw [List.length_set]; exact hl.1, fun y q hy => ?_⟩
      by_cases e : y = x
      · subst e
        have : q = k := by rw [hj] at hy; exact (Option.some.inj hy).symm
        subst this
        exact ⟨t, by simp [gt_of, List.getD_eq_getElem?_getD, List.getElem?_set_self hk]⟩
      · obtain ⟨u, hu⟩ := hl.2 y q hy
        have hne : k ≠ q := fun h => e (idx_inj hy (h ▸ hj))
        exact ⟨u, by show (if y = x then _ else m y) = _; rw [if_neg e, hu]; simp [gt_of, List.getD_eq_getElem?_getD, List.getElem?_set_ne hne]⟩
    · rename_i hj
      cases ht
      rw [← hl.1, put_app]
      refine ⟨by simp [hl.1], fun y q hy => ?_⟩
      by_cases e : y = x
      · subst e
        rcases idx_app hy with h1 | ⟨_, h2⟩
        · rw [hj] at h1; cases h1
        · subst h2
          exact ⟨t, by show (if y = y then _ else m y) = _; rw [if_pos rfl, ← hl.1]; simp [gt_of, List.getD_eq_getElem?_getD]⟩
      · rcases idx_app hy with h1 | ⟨h1, _⟩
        · obtain ⟨u, hu⟩ := hl.2 y q h1
          have hq : q < σ.length := by rw [hl.1]; exact idx_lt h1
          exact ⟨u, by show (if y = x then _ else m y) = _; rw [if_neg e, hu]; simp [gt_of, List.getD_eq_getElem?_getD, List.getElem?_append_left hq]⟩
        · exact absurd h1 e
  · cases ht
theorem tgt_local {S : SE} {vars vars' : List Str} {x : Str} {k : Nat} (ht : tgt S vars x = some (k, vars')) : S.sc.names.lookup x = some .local := by
  unfold tgt at ht
  split at ht
  · assumption
  · cases ht

theorem tgt_of {S : SE} {vars : List Str} {x : Str} {k : Nat} (h : tgtCk S vars k x = true) : tgt S vars x = some (k, vput vars k x) := by
  unfold tgtCk at h
  rw [Bool.and_eq_true] at h
  unfold tgt vput
  rw [if_pos (of_decide_eq_true h.1)]
  have h2 := h.2
  cases hi : idx vars x with
  | some j =>
    rw [hi] at h2
    have e : j = k := eq_of_beq h2
    subst e
    show some (j, vars) = _
    rw [if_pos (idx_lt hi)]
  | none =>
    rw [hi] at h2
    have e : k = vars.length := eq_of_beq h2
    subst e
    show some (vars.length, vars ++ [x]) = _
    rw [if_neg (Nat.lt_irrefl _)]
end Mine

namespace Mine
theorem swap2 {S : SE} {cn : Str} {L a : Addr} {ccd : Value} {x1 x2 : Str} {p1 p2 tp tp' : Pos} {k k' : Nat} {e1 e2 : Expr} (hk : S.sc.kind = .function)
    (s1 : ∀ v q, e1 ≠ .Starred v q) (s2 : ∀ v q, e2 ≠ .Starred v q) (hx1 : S.sc.names.lookup x1 = some .local) (hx2 : S.sc.names.lookup x2 = some .local) (hc : swapCk [e1, e2] [p1, p2] [x1, x2] = true) :
    swappedStores [.Tuple [.Name x1 p1, .Name x2 p2] k tp] (.Tuple [e1, e2] k' tp') (envX cn S.sc L a ccd []) = pure (some [x1, x2]) ∧ x1 ≠ x2 := by
  unfold swapCk at hc
  simp only [Bool.and_eq_true, Bool.not_eq_true'] at hc
  obtain ⟨⟨⟨⟨hf, hca⟩, hp⟩, hnd⟩, he⟩ := hc
  have hb : (envX cn S.sc L a ccd []).blockKind = .function := by
    show (if S.sc.kind.isAnnotationScope then ScopeKind.function else S.sc.kind) = _
    rw [hk]; rfl
  have k1 : (envX cn S.sc L a ccd []).kindOf x1 = some .local := hx1
  have k2 : (envX cn S.sc L a ccd []).kindOf x2 = some .local := hx2
  have hl : (p2.line == p1.line) = true := by simpa using hp
  have he' : [x1, x2].eraseDups.length = 2 := by simpa using he
  refine ⟨?_, by simpa using hnd⟩
  unfold swappedStores
  simp [hb, hl, k1, k2, Expr.pos, List.filterMap]
  rw [if_pos he', if_neg (by simpa using hf), if_neg (by simpa using hca)]

theorem swap3 {S : SE} {cn : Str} {L a : Addr} {ccd : Value} {x1 x2 x3 : Str} {p1 p2 p3 tp tp' : Pos} {k k' : Nat} {e1 e2 e3 : Expr} (hk : S.sc.kind = .function)
    (s1 : ∀ v q, e1 ≠ .Starred v q) (s2 : ∀ v q, e2 ≠ .Starred v q) (s3 : ∀ v q, e3 ≠ .Starred v q) (hx1 : S.sc.names.lookup x1 = some .local) (hx2 : S.sc.names.lookup x2 = some .local) (hx3 : S.sc.names.lookup x3 = some .local)
    (hc : swapCk [e1, e2, e3] [p1, p2, p3] [x1, x2, x3] = true) :
    swappedStores [.Tuple [.Name x1 p1, .Name x2 p2, .Name x3 p3] k tp] (.Tuple [e1, e2, e3] k' tp') (envX cn S.sc L a ccd []) = pure (some [x1, x2, x3]) ∧ x1 ≠ x2 ∧ x1 ≠ x3 ∧ x2 ≠ x3 := by
  unfold swapCk at hc
  simp only [Bool.and_eq_true, Bool.not_eq_true'] at hc
  obtain ⟨⟨⟨⟨hf, hca⟩, hp⟩, hnd⟩, he⟩ := hc
  have hb : (envX cn S.sc L a ccd []).blockKind = .function := by
    show (if S.sc.kind.isAnnotationScope then ScopeKind.function else S.sc.kind) = _
    rw [hk]; rfl
  have k1 : (envX cn S.sc L a ccd []).kindOf x1 = some .local := hx1
  have k2 : (envX cn S.sc L a ccd []).kindOf x2 = some .local := hx2
  have k3 : (envX cn S.sc L a ccd []).kindOf x3 = some .local := hx3
  have hp' : p2.line = p1.line ∧ p3.line = p1.line := by simpa using hp
  have hl : (p2.line == p1.line) = true := by simpa using hp'.1
  have hl' : (p3.line == p1.line) = true := by simpa using hp'.2
  have he' : [x1, x2, x3].eraseDups.length = 3 := by simpa using he
  refine ⟨?_, by simpa [and_assoc] using hnd⟩
  unfold swappedStores
  simp [hb, hl, hl', k1, k2, k3, Expr.pos, List.filterMap]
  rw [if_pos he', if_neg (by simpa using hf), if_neg (by simpa using hca)]
theorem swap5 {env : Env} {ts vs : List Expr} {k k' : Nat} {tp tp' : Pos} (h : ts.length = 5) :
    swappedStores [.Tuple ts k tp] (.Tuple vs k' tp') env = pure none := by
  unfold swappedStores
  simp [h]

section
variable {prog : Program} {w : World} {K : Frag} {p : Program} {loose : List Str} {mean : ExcName → Option Value} {mg mb : Str → Option Value}
variable {d : Nat} {S : SE} {A₀ A : Around} {base h₀ : Heap} {outer : List Env} {cn : Str} {L a : Addr} {ccd : Value} {m : Str → Option Value} {vars : List Str} {σ : List Int}

/-- a tuple display: its ints, in a new tuple -/
theorem tup_disp {es : List Expr} {is : List Int} {k : Nat} {pos : Pos} {s : Shared} {news : Led} {Q E : Value → Shared → Prop} (hargs : ArgsOK prog w A (envX cn S.sc L a ccd []) h₀ L m es is) (hlen : is.length ≤ 5)
    (F : Fr h₀ L s.heap m) (N : News h₀ L s.heap news)
    (kk : ∀ D vs h' tk' news', IntsAre vs is → (D, tupObj vs 0) ∈ news' → Fr h₀ L h' m → News h₀ L h' news' → (∀ q ∈ news, q ∈ news') → Q (.ref D) { s with heap := h', toks := tk' }) :
    wpAny (model prog w) A (eval (.Tuple es k pos) (envX cn S.sc L a ccd [])) Q E s := by
  refine Tuple_ (hargs s news pos _ _ F N ?_)
  intro vs h' tk' news' hi F' N' sub
  refine newTuple_N F' N' ?_ (by rw [hi.length, sizeLine_eq]; omega)
  intro h1 F1 N1
  exact kk _ vs h1 _ _ hi (.head _) F1 N1 fun q hq => List.mem_cons_of_mem _ (sub q hq)

theorem store_ok (hk : S.sc.kind = .function) {x : Str} {v : Value} (hx : S.sc.names.lookup x = some .local) {s : Shared} {news : Led} {Q : Unit → Shared → Prop} {E : Value → Shared → Prop} (F : Fr h₀ L s.heap m) (N : News h₀ L s.heap news)
    (kk : ∀ h', Fr h₀ L h' (fun y => if y = x then some v else m y) → News h₀ L h' news → Q () { s with heap := h', toks := s.toks + 1 }) :
    wpAny (model prog w) A (storeName (envX cn S.sc L a ccd []) x v) Q E s := storeX_L F N kk hk hx

theorem in_order {A : Around} {t : Value → Sem Unit} {ts : List (Value → Sem Unit)} {x : Value} {xs : List Value} {s : Shared} {Q : Unit → Shared → Prop} {E : Value → Shared → Prop}
    (h : wpAny (model prog w) A (t x) (fun _ s' => wpAny (model prog w) A (assignInOrder ts xs) Q E s') E s) : wpAny (model prog w) A (assignInOrder (t :: ts) (x :: xs)) Q E s := by
  show wpAny (model prog w) A (do holding xs (t x); assignInOrder ts xs) Q E s
  exact wpAny_bind (wpAny_holding h)
theorem in_order_nil {A : Around} {s : Shared} {Q : Unit → Shared → Prop} {E : Value → Shared → Prop} (h : Q () s) : wpAny (model prog w) A (assignInOrder [] []) Q E s := wpAny_pure (a := ()) h
end
end Mine

namespace Mine
section
variable {prog : Program} {w : World} {K : Frag} {p : Program} {loose : List Str} {mean : ExcName → Option Value} {mg mb : Str → Option Value}
variable {d : Nat} {S : SE} {A₀ A : Around} {base h₀ : Heap} {outer : List Env} {cn : Str} {L a : Addr} {ccd : Value} {m : Str → Option Value} {vars : List Str} {σ : List Int}

theorem assign_name {x : Str} {q : Pos} {v : Value} (hk : S.sc.kind = .function) (hx : S.sc.names.lookup x = some .local) {s : Shared} {news : Led} {Q : Unit → Shared → Prop} {E : Value → Shared → Prop} (F : Fr h₀ L s.heap m) (N : News h₀ L s.heap news)
    (kk : ∀ h', Fr h₀ L h' (fun y => if y = x then some v else m y) → News h₀ L h' news → Q () { s with heap := h', toks := s.toks + 1 }) :
    wpAny (model prog w) A (assign (.Name x q) (envX cn S.sc L a ccd []) v) Q E s := assign_Name (store_ok hk hx F N kk)

theorem sole_ (t v : Expr) (line : Nat) (env : Env) : swapsWithSole [t] v line env = swapsWith v (some t) line env := rfl
theorem ints2 {vs : List Value} {l : List Int} (h : IntsAre vs l) (hl : l.length = 2) : ∃ t u, vs = [.int (gt l 0) t, .int (gt l 1) u] := by
  cases h with
  | nil => cases hl
  | cons n t h =>
    cases h with
    | nil => cases hl
    | cons n' t' h =>
      cases h with
      | nil => exact ⟨t, t', rfl⟩
      | cons _ _ h => simp at hl

theorem as_setT (fc : FC prog w K p loose mean mg mb d S A₀ A base h₀ outer cn L a ccd) {v : Expr} {l : List Int} {x1 x2 : Str} {p1 p2 tp pos : Pos} {k : Nat} {s : Shared} {news : Led} {Q : Flow → Shared → Prop} {E : Value → Shared → Prop}
    (hv : EvalOK prog w A (envX cn S.sc L a ccd []) h₀ L m v (.tup l)) (hl : l.length = 2) (hsw : ∀ t line, swapsWith v t line (envX cn S.sc L a ccd []) = pure false)
    (hst : swappedStores [.Tuple [.Name x1 p1, .Name x2 p2] k tp] v (envX cn S.sc L a ccd []) = pure none)
    (h1 : S.sc.names.lookup x1 = some .local) (h2 : S.sc.names.lookup x2 = some .local) (F : Fr h₀ L s.heap m) (N : News h₀ L s.heap news)
    (kk : ∀ t u h' tk' news', Fr h₀ L h' (fun y => if y = x2 then some (.int (gt l 1) u) else (fun y => if y = x1 then some (.int (gt l 0) t) else m y) y) → News h₀ L h' news' → (∀ q ∈ news, q ∈ news') → Q .next { s with heap := h', toks := tk' }) :
    wpAny (model prog w) A (exec (.Assign [.Tuple [.Name x1 p1, .Name x2 p2] k tp] v pos) (envX cn S.sc L a ccd [])) Q E s := by
  refine Assign_Tuple (hv s news _ _ F N ?_) ((sole_ _ _ _ _).trans (hsw _ _)) hst
  rintro v h' tk' news' ⟨D, vs, c, rfl, hm, hi⟩ F' N' sub
  obtain ⟨t, u, rfl⟩ := ints2 hi hl
  refine unpackN_ F' N' (N'.isTup hm) fc.hh (by rfl) (by rfl) ?_
  intro h1' F1 N1
  refine in_order (assign_name fc.hk h1 F1 N1 ?_)
  intro h2' F2 N2
  refine in_order (assign_name fc.hk h2 F2 N2 ?_)
  intro h3' F3 N3
  exact in_order_nil (kk t u h3' _ news' F3 N3 sub)

theorem as_par2 (fc : FC prog w K p loose mean mg mb d S A₀ A base h₀ outer cn L a ccd) {es : List Expr} {i1 i2 : Int} {x1 x2 : Str} {p1 p2 tp tp' pos : Pos} {k k' : Nat} {s : Shared} {news : Led} {Q : Flow → Shared → Prop} {E : Value → Shared → Prop}
    (hv : ArgsOK prog w A (envX cn S.sc L a ccd []) h₀ L m es [i1, i2])
    (hst : swappedStores [.Tuple [.Name x1 p1, .Name x2 p2] k tp] (.Tuple es k' tp') (envX cn S.sc L a ccd []) = pure (some [x1, x2])) (hne : x1 ≠ x2)
    (h1 : S.sc.names.lookup x1 = some .local) (h2 : S.sc.names.lookup x2 = some .local) (F : Fr h₀ L s.heap m) (N : News h₀ L s.heap news)
    (kk : ∀ t u h' tk' news', Fr h₀ L h' (fun y => if y = x2 then some (.int i2 u) else (fun y => if y = x1 then some (.int i1 t) else m y) y) → News h₀ L h' news' → (∀ q ∈ news, q ∈ news') → Q .next { s with heap := h', toks := tk' }) :
    wpAny (model prog w) A (exec (.Assign [.Tuple [.Name x1 p1, .Name x2 p2] k tp] (.Tuple es k' tp') pos) (envX cn S.sc L a ccd [])) Q E s := by
  refine Assign_Tuple_swapped (names := [x1, x2]) (tup_disp hv (by simp) F N ?_) (by rfl) hst
  intro D vs h' tk' news' hi hm F' N' sub
  obtain ⟨t, u, rfl⟩ := ints2 hi rfl
  refine unpackItemsN_ F' N' (N'.isTup hm) fc.hh (by rfl) ?_
  intro h1' F1 N1
  refine in_order (bindName_ (store_ok fc.hk h2 F1 N1 ?_))
  intro h2' F2 N2
  refine in_order (bindName_ (store_ok fc.hk h1 F2 N2 ?_))
  intro h3' F3 N3
  refine in_order_nil (kk t u h3' _ news' ?_ N3 sub)
  have e : (fun y => if y = x1 then some (Value.int i1 t) else if y = x2 then some (Value.int i2 u) else m y) = fun y => if y = x2 then some (Value.int i2 u) else if y = x1 then some (Value.int i1 t) else m y := by
    funext y
    by_cases h : y = x1
    · subst h; rw [if_pos rfl, if_neg hne, if_pos rfl]
    · by_cases h' : y = x2
      · rw [if_neg h, if_pos h', if_pos h']
      · rw [if_neg h, if_neg h', if_neg h', if_neg h]
  exact e ▸ F3

theorem ints3 {vs : List Value} {i1 i2 i3 : Int} (h : IntsAre vs [i1, i2, i3]) : ∃ t u v, vs = [.int i1 t, .int i2 u, .int i3 v] := by
  rcases h with _ | ⟨_, t, h⟩
  rcases h with _ | ⟨_, u, h⟩
  rcases h with _ | ⟨_, v, h⟩
  cases h
  exact ⟨t, u, v, rfl⟩
theorem ints5 {vs : List Value} {i1 i2 i3 i4 i5 : Int} (h : IntsAre vs [i1, i2, i3, i4, i5]) : ∃ t1 t2 t3 t4 t5, vs = [.int i1 t1, .int i2 t2, .int i3 t3, .int i4 t4, .int i5 t5] := by
  rcases h with _ | ⟨_, t1, h⟩
  rcases h with _ | ⟨_, t2, h⟩
  obtain ⟨t3, t4, t5, rfl⟩ := ints3 h
  exact ⟨t1, t2, t3, t4, t5, rfl⟩

theorem as_par3 (fc : FC prog w K p loose mean mg mb d S A₀ A base h₀ outer cn L a ccd) {es : List Expr} {i1 i2 i3 : Int} {x1 x2 x3 : Str} {p1 p2 p3 tp tp' pos : Pos} {k k' : Nat} {s : Shared} {news : Led} {Q : Flow → Shared → Prop} {E : Value → Shared → Prop}
    (hv : ArgsOK prog w A (envX cn S.sc L a ccd []) h₀ L m es [i1, i2, i3])
    (hst : swappedStores [.Tuple [.Name x1 p1, .Name x2 p2, .Name x3 p3] k tp] (.Tuple es k' tp') (envX cn S.sc L a ccd []) = pure (some [x1, x2, x3])) (hn12 : x1 ≠ x2) (hn13 : x1 ≠ x3) (hn23 : x2 ≠ x3)
    (h1 : S.sc.names.lookup x1 = some .local) (h2 : S.sc.names.lookup x2 = some .local) (h3 : S.sc.names.lookup x3 = some .local) (F : Fr h₀ L s.heap m) (N : News h₀ L s.heap news)
    (kk : ∀ t u v h' tk' news', Fr h₀ L h' (fun y => if y = x3 then some (.int i3 v) else (fun y => if y = x2 then some (.int i2 u) else (fun y => if y = x1 then some (.int i1 t) else m y) y) y) → News h₀ L h' news' → (∀ q ∈ news, q ∈ news') → Q .next { s with heap := h', toks := tk' }) :
    wpAny (model prog w) A (exec (.Assign [.Tuple [.Name x1 p1, .Name x2 p2, .Name x3 p3] k tp] (.Tuple es k' tp') pos) (envX cn S.sc L a ccd [])) Q E s := by
  refine Assign_Tuple_swapped (names := [x1, x2, x3]) (tup_disp hv (by simp) F N ?_) (by rfl) hst
  intro D vs h' tk' news' hi hm F' N' sub
  obtain ⟨t, u, v, rfl⟩ := ints3 hi
  refine unpackItemsN_ F' N' (N'.isTup hm) fc.hh (by rfl) ?_
  intro h1' F1 N1
  refine in_order (bindName_ (store_ok fc.hk h3 F1 N1 ?_))
  intro h2' F2 N2
  refine in_order (bindName_ (store_ok fc.hk h2 F2 N2 ?_))
  intro h3' F3 N3
  refine in_order (bindName_ (store_ok fc.hk h1 F3 N3 ?_))
  intro h4' F4 N4
  refine in_order_nil (kk t u v h4' _ news' ?_ N4 sub)
  have e : (fun y => if y = x1 then some (Value.int i1 t) else if y = x2 then some (Value.int i2 u) else if y = x3 then some (Value.int i3 v) else m y) = fun y => if y = x3 then some (Value.int i3 v) else if y = x2 then some (Value.int i2 u) else if y = x1 then some (Value.int i1 t) else m y := by
    funext y
    by_cases h : y = x1
    · subst h; rw [if_pos rfl, if_neg hn13, if_neg hn12, if_pos rfl]
    · by_cases h' : y = x2
      · subst h'; rw [if_neg h, if_pos rfl, if_neg hn23, if_pos rfl]
      · by_cases h'' : y = x3
        · rw [if_neg h, if_neg h', if_pos h'', if_pos h'']
        · rw [if_neg h, if_neg h', if_neg h'', if_neg h'', if_neg h', if_neg h]
  exact e ▸ F4

theorem as_par5 (fc : FC prog w K p loose mean mg mb d S A₀ A base h₀ outer cn L a ccd) {es : List Expr} {i1 i2 i3 i4 i5 : Int} {x1 x2 x3 x4 x5 : Str} {p1 p2 p3 p4 p5 tp tp' pos : Pos} {k k' : Nat} {s : Shared} {news : Led} {Q : Flow → Shared → Prop} {E : Value → Shared → Prop}
    (hv : ArgsOK prog w A (envX cn S.sc L a ccd []) h₀ L m es [i1, i2, i3, i4, i5])
    (h1 : S.sc.names.lookup x1 = some .local) (h2 : S.sc.names.lookup x2 = some .local) (h3 : S.sc.names.lookup x3 = some .local) (h4 : S.sc.names.lookup x4 = some .local) (h5 : S.sc.names.lookup x5 = some .local) (F : Fr h₀ L s.heap m) (N : News h₀ L s.heap news)
    (kk : ∀ t1 t2 t3 t4 t5 h' tk' news', Fr h₀ L h' (fun y => if y = x5 then some (.int i5 t5) else (fun y => if y = x4 then some (.int i4 t4) else (fun y => if y = x3 then some (.int i3 t3) else (fun y => if y = x2 then some (.int i2 t2) else (fun y => if y = x1 then some (.int i1 t1) else m y) y) y) y) y) →
      News h₀ L h' news' → (∀ q ∈ news, q ∈ news') → Q .next { s with heap := h', toks := tk' }) :
    wpAny (model prog w) A (exec (.Assign [.Tuple [.Name x1 p1, .Name x2 p2, .Name x3 p3, .Name x4 p4, .Name x5 p5] k tp] (.Tuple es k' tp') pos) (envX cn S.sc L a ccd [])) Q E s := by
  refine Assign_Tuple (tup_disp hv (by simp) F N ?_) (by rfl) (swap5 rfl)
  intro D vs h' tk' news' hi hm F' N' sub
  obtain ⟨t1, t2, t3, t4, t5, rfl⟩ := ints5 hi
  refine unpackN_ F' N' (N'.isTup hm) fc.hh (by rfl) (by rfl) ?_
  intro h1' F1 N1
  refine in_order (assign_name fc.hk h1 F1 N1 ?_)
  intro h2' F2 N2
  refine in_order (assign_name fc.hk h2 F2 N2 ?_)
  intro h3' F3 N3
  refine in_order (assign_name fc.hk h3 F3 N3 ?_)
  intro h4' F4 N4
  refine in_order (assign_name fc.hk h4 F4 N4 ?_)
  intro h5' F5 N5
  refine in_order (assign_name fc.hk h5 F5 N5 ?_)
  intro h6' F6 N6
  exact in_order_nil (kk t1 t2 t3 t4 t5 h6' _ news' F6 N6 sub)
end
end Mine

namespace Mine
section
variable {prog : Program} {w : World} {K : Frag} {p : Program} {loose : List Str} {mean : ExcName → Option Value} {mg mb : Str → Option Value}
variable {d : Nat} {S : SE} {A₀ A : Around} {base h₀ : Heap} {outer : List Env} {cn : Str} {L a : Addr} {ccd : Value}

/-- what is wanted behind a statement, as a block has it -/
abbrev Then (prog : Program) (w : World) (A : Around) (rest : List Stmt) (env : Env) (Q : Flow → Shared → Prop) (E : Value → Shared → Prop) : Flow → Shared → Prop :=
  fun f s' => match f with | .next => wpAny (model prog w) A (execs rest env) Q E s' | f => Q f s'

theorem compA_ok (fc : FC prog w K p loose mean mg mb d S A₀ A base h₀ outer cn L a ccd) {vars : List Str} {stmts : List Stmt} {ca : CA} {vars' : List Str} (h : CompA S vars stmts ca vars') :
    ∀ (P : List Int → Prop) (σ : List Int) (m : Str → Option Value) (s : Shared) (news : Led) (rest : List Stmt) (Q : Flow → Shared → Prop) (E : Value → Shared → Prop), Locs vars σ m → wpc S.G ca P σ → Fr h₀ L s.heap m → News h₀ L s.heap news →
      (∀ σ' m' h' tk' news', P σ' → Locs vars' σ' m' → Fr h₀ L h' m' → News h₀ L h' news' → (∀ q ∈ news, q ∈ news') → wpAny (model prog w) A (execs rest (envX cn S.sc L a ccd [])) Q E { s with heap := h', toks := tk' }) →
      wpAny (model prog w) A (execs (stmts ++ rest) (envX cn S.sc L a ccd [])) Q E s := by
  induction h with
  | nil e => subst e; intro P σ m s news rest Q E hl ho F N kk; exact kk σ m s.heap s.toks news ho hl F N fun _ h => h
  | set he ht _ ih =>
    intro P σ m s news rest Q E hl ho F N kk
    rw [wpc] at ho
    rw [List.cons_append]
    refine wpAny_execs_cons (wpAny_Assign_Name (comp_ok fc hl he ho.1 s news _ _ F N ?_) (he.noswap _ _ _))
    rintro v h' tk' news' ⟨t, rfl⟩ F' N' sub
    refine store_ok fc.hk (tgt_local (tgt_of ht)) F' N' ?_
    intro h1 F1 N1
    exact ih _ _ _ _ news' rest Q E (locs_put (t := t) hl (tgt_of ht)) ho.2 F1 N1 fun σ2 m2 h2 tk2 news2 hP2 hl2 F2 N2 sub2 => kk σ2 m2 h2 tk2 news2 hP2 hl2 F2 N2 fun q hq => sub2 q (sub q hq)
  | @aug vars x px v pos rs k e r vars' he hk hx _ ih =>
    intro P σ m s news rest Q E hl ho F N kk
    rw [wpc, oki] at ho
    have ho1 := ho.1.2.1
    have ho2 := ho.2
    rw [ci, ci] at ho2
    obtain ⟨t0, ht0⟩ := hl.2 _ _ hk
    have htg : tgt S vars x = some (k, vars) := by unfold tgt; rw [if_pos hx, hk]
    rw [List.cons_append]
    refine wpAny_execs_cons (wpAny_AugAssign_Name (wpAny_loadName_local fc.hk hx F.ns ht0 (comp_ok fc hl he ho1 s news _ _ F N ?_)))
    rintro v h' tk' news' ⟨t, rfl⟩ F' N' sub
    refine ixor_int ?_
    refine store_ok fc.hk hx F' N' ?_
    intro h1 F1 N1
    exact ih _ _ _ _ news' rest Q E (locs_put hl htg) ho2 F1 N1 fun σ2 m2 h2 tk2 news2 hP2 hl2 F2 N2 sub2 => kk σ2 m2 h2 tk2 news2 hP2 hl2 F2 N2 fun q hq => sub2 q (sub q hq)
  | par2 hsw h1 h2 t1 t2 _ ih =>
    intro P σ m s news rest Q E hl ho F N kk
    rw [wpc] at ho
    rw [List.cons_append]
    replace t1 := tgt_of t1; replace t2 := tgt_of t2
    obtain ⟨hst, hne⟩ := swap2 (cn := cn) (L := L) (a := a) (ccd := ccd) (tp := _) (tp' := _) (k := _) (k' := _) fc.hk h1.nostar h2.nostar (tgt_local t1) (tgt_local t2) hsw
    refine wpAny_execs_cons (as_par2 fc (args2 (comp_ok fc hl h1 ho.1) (comp_ok fc hl h2 ho.2.1) h1.star h2.star) hst hne (tgt_local t1) (tgt_local t2) F N ?_)
    intro t u h' tk' news' F' N' sub
    exact ih _ _ _ _ news' rest Q E (locs_put (locs_put hl t1) t2) ho.2.2 F' N' fun σ2 m2 h2 tk2 news2 hP2 hl2 F2 N2 sub2 => kk σ2 m2 h2 tk2 news2 hP2 hl2 F2 N2 fun q hq => sub2 q (sub q hq)
  | par3 hsw h1 h2 h3 t1 t2 t3 _ ih =>
    intro P σ m s news rest Q E hl ho F N kk
    rw [wpc] at ho
    rw [List.cons_append]
    replace t1 := tgt_of t1; replace t2 := tgt_of t2; replace t3 := tgt_of t3
    obtain ⟨hst, hn12, hn13, hn23⟩ := swap3 (cn := cn) (L := L) (a := a) (ccd := ccd) (tp := _) (tp' := _) (k := _) (k' := _) fc.hk h1.nostar h2.nostar h3.nostar (tgt_local t1) (tgt_local t2) (tgt_local t3) hsw
    refine wpAny_execs_cons (as_par3 fc (args3 (comp_ok fc hl h1 ho.1) (comp_ok fc hl h2 ho.2.1) (comp_ok fc hl h3 ho.2.2.1) h1.star h2.star h3.star) hst hn12 hn13 hn23 (tgt_local t1) (tgt_local t2) (tgt_local t3) F N ?_)
    intro t u v h' tk' news' F' N' sub
    exact ih _ _ _ _ news' rest Q E (locs_put (locs_put (locs_put hl t1) t2) t3) ho.2.2.2 F' N' fun σ2 m2 h2 tk2 news2 hP2 hl2 F2 N2 sub2 => kk σ2 m2 h2 tk2 news2 hP2 hl2 F2 N2 fun q hq => sub2 q (sub q hq)
  | par5 h1 h2 h3 h4 h5 t1 t2 t3 t4 t5 _ ih =>
    intro P σ m s news rest Q E hl ho F N kk
    rw [wpc] at ho
    rw [List.cons_append]
    replace t1 := tgt_of t1; replace t2 := tgt_of t2; replace t3 := tgt_of t3; replace t4 := tgt_of t4; replace t5 := tgt_of t5
    refine wpAny_execs_cons (as_par5 fc (args_cons_ok (comp_ok fc hl h1 ho.1) (args_cons_ok (comp_ok fc hl h2 ho.2.1) (args3 (comp_ok fc hl h3 ho.2.2.1) (comp_ok fc hl h4 ho.2.2.2.1) (comp_ok fc hl h5 ho.2.2.2.2.1) h3.star h4.star h5.star) h2.star) h1.star)
      (tgt_local t1) (tgt_local t2) (tgt_local t3) (tgt_local t4) (tgt_local t5) F N ?_)
    intro u1 u2 u3 u4 u5 h' tk' news' F' N' sub
    exact ih _ _ _ _ news' rest Q E (locs_put (locs_put (locs_put (locs_put (locs_put hl t1) t2) t3) t4) t5) ho.2.2.2.2.2 F' N' fun σ2 m2 h2 tk2 news2 hP2 hl2 F2 N2 sub2 => kk σ2 m2 h2 tk2 news2 hP2 hl2 F2 N2 fun q hq => sub2 q (sub q hq)
  | setT hc t1 t2 _ ih =>
    intro P σ m s news rest Q E hl ho F N kk
    rw [wpc] at ho
    rw [List.cons_append]
    replace t1 := tgt_of t1; replace t2 := tgt_of t2
    refine wpAny_execs_cons (as_setT fc (comp_ok fc hl hc ho.1) ho.2.1 (fun t line => hc.noswap t line _) (hc.nostores _ _ _ _) (tgt_local t1) (tgt_local t2) F N ?_)
    intro t u h' tk' news' F' N' sub
    exact ih _ _ _ _ news' rest Q E (locs_put (locs_put hl t1) t2) ho.2.2 F' N' fun σ2 m2 h2 tk2 news2 hP2 hl2 F2 N2 sub2 => kk σ2 m2 h2 tk2 news2 hP2 hl2 F2 N2 fun q hq => sub2 q (sub q hq)
  | guard hc _ ih =>
    intro P σ m s news rest Q E hl ho F N kk
    rw [wpc] at ho
    rw [List.cons_append]
    refine wpAny_execs_cons (wpAny_If (comp_ok fc hl hc ho.1 s news _ _ F N ?_))
    intro h' tk' news' F' N' sub
    rw [if_neg (by rw [ho.2.1]; exact Bool.false_ne_true)]
    refine wpAny_execs_nil ?_
    exact ih _ _ _ _ news' rest Q E hl ho.2.2 F' N' fun σ2 m2 h2 tk2 news2 hP2 hl2 F2 N2 sub2 => kk σ2 m2 h2 tk2 news2 hP2 hl2 F2 N2 fun q hq => sub2 q (sub q hq)
  | @ite vars t b o pos rs c ca cb' r vars1 vars' hc _ _ _ iha ihb ihr =>
    intro P σ m s news rest Q E hl ho F N kk
    rw [wpc] at ho
    rw [List.cons_append]
    refine wpAny_execs_cons (wpAny_If (comp_ok fc hl hc ho.1 s news _ _ F N ?_))
    intro h' tk' news' F' N' sub
    have go : ∀ σ1 m1 h1 tk1 news1, wpc S.G r P σ1 → Locs vars1 σ1 m1 → Fr h₀ L h1 m1 → News h₀ L h1 news1 → (∀ q ∈ news', q ∈ news1) →
        wpAny (model prog w) A (execs [] (envX cn S.sc L a ccd [])) (Then prog w A (rs ++ rest) (envX cn S.sc L a ccd []) Q E) E { s with heap := h1, toks := tk1 } := by
      intro σ1 m1 h1 tk1 news1 hP1 hl1 F1 N1 sub1
      refine wpAny_execs_nil ?_
      exact ihr _ _ _ _ news1 rest Q E hl1 hP1 F1 N1 fun σ2 m2 h2 tk2 news2 hP2 hl2 F2 N2 sub2 => kk σ2 m2 h2 tk2 news2 hP2 hl2 F2 N2 fun q hq => sub2 q (sub1 q (sub q hq))
    cases hcb : cb S.G σ c with
    | true =>
      have := iha (wpc S.G r P) σ m { s with heap := h', toks := tk' } news' [] (Then prog w A (rs ++ rest) (envX cn S.sc L a ccd []) Q E) E hl (ho.2.1 hcb) F' N' go
      rw [List.append_nil] at this
      exact this
    | false =>
      have := ihb (wpc S.G r P) σ m { s with heap := h', toks := tk' } news' [] (Then prog w A (rs ++ rest) (envX cn S.sc L a ccd []) Q E) E hl (ho.2.2 hcb) F' N' go
      rw [List.append_nil] at this
      exact this
end
end Mine

namespace Mine
theorem idx_pre : ∀ {vars : List Str} {more : List Str} {y : Str} {k : Nat}, idx vars y = some k → idx (vars ++ more) y = some k
  | [], _, _, _, h => by cases h
  | z :: r, more, y, k, h => by
    rw [List.cons_append]
    unfold idx at h ⊢
    split at h
    · rename_i e; rw [if_pos e]; exact h
    · rename_i e
      rw [if_neg e]
      obtain ⟨j, hj, rfl⟩ := Option.map_eq_some_iff.mp h
      rw [idx_pre hj]; rfl

theorem locs_take {vars more : List Str} {σ : List Int} {m : Str → Option Value} (h : Locs (vars ++ more) σ m) : Locs vars (σ.take vars.length) m := by
  refine ⟨by rw [List.length_take, h.1, List.length_append]; omega, fun y k hy => ?_⟩
  obtain ⟨t, ht⟩ := h.2 y k (idx_pre hy)
  refine ⟨t, ?_⟩
  rw [ht]
  simp [gt_of, List.getD_eq_getElem?_getD, idx_lt hy]

section
variable {prog : Program} {w : World} {K : Frag} {p : Program} {loose : List Str} {mean : ExcName → Option Value} {mg mb : Str → Option Value}
variable {d : Nat} {S : SE} {A₀ A : Around} {base h₀ : Heap} {outer : List Env} {cn : Str} {L a : Addr} {ccd : Value}

theorem range19 (fc : FC prog w K p loose mean mg mb d S A₀ A base h₀ outer cn L a ccd) {rp p1 p9 cpos : Pos} {k1 k9 : Nat} {b : Int} {m : Str → Option Value} {s : Shared} {news : Led} {Q E : Value → Shared → Prop}
    (hrl : S.sc.names.lookup ("range" : Str) = some .globalImplicit) (hrn : nsIn K mainGlobals ("range" : Str) = some none) (F : Fr h₀ L s.heap m) (N : News h₀ L s.heap news)
    (kk : ∀ r h' tk' t u v, IsRange h' r 1 b 1 t u v → Fr h₀ L h' m → News h₀ L h' news → Q (.ref r) { s with heap := h', toks := tk' }) :
    wpAny (model prog w) A (eval (.Call (.Name ("range" : Str) rp) [.Constant (.int 1) k1 p1, .Constant (.int b) k9 p9] [] cpos) (envX cn S.sc L a ccd [])) Q E s := by
  refine Call_ (nameX_B F fc.X (topRead_of fc.T) hrn boot_range (by decide) ?_ fc.hk hrl (by decide))
  refine Pv.callWith_type1 ?_
  refine args_cons (wpAny_Constant_int ?_)
  refine args_cons (wpAny_Constant_int ?_)
  refine args_nil ?_
  refine range2_rows F N ?_
  intro h' tk t₁ u₁ v₁ hr F' N' _
  exact kk _ h' tk t₁ u₁ v₁ hr F' N'

theorem for_ok (fc : FC prog w K p loose mean mg mb d S A₀ A base h₀ outer cn L a ccd) {x : Str} {px rp p1 p9 cpos pos : Pos} {k1 k9 : Nat} {body rest : List Stmt} {vars more : List Str} {ca : CA}
    (hx : S.sc.names.lookup x = some .local) (hxv : idx vars x = none) (hrl : S.sc.names.lookup ("range" : Str) = some .globalImplicit) (hrn : nsIn K mainGlobals ("range" : Str) = some none)
    (hc : CompA S (vars ++ [x]) body ca (vars ++ x :: more)) (Inv : Nat → List Int → Prop)
    (turn : ∀ (i : Nat) (σ : List Int), i < 8 → σ.length = vars.length → Inv i σ → wpc S.G ca (fun σ' => Inv (i + 1) (σ'.take vars.length)) (σ ++ [1 + (i : Int)]))
    {σ : List Int} {m : Str → Option Value} {s : Shared} {news : Led} {Q : Flow → Shared → Prop} {E : Value → Shared → Prop} (hl : Locs vars σ m) (hi : Inv 0 σ) (F : Fr h₀ L s.heap m) (N : News h₀ L s.heap news)
    (kk : ∀ σ' m' h' tk', Locs vars σ' m' → Inv 8 σ' → Fr h₀ L h' m' → News h₀ L h' news → wpAny (model prog w) A (execs rest (envX cn S.sc L a ccd [])) Q E { s with heap := h', toks := tk' }) :
    wpAny (model prog w) A (execs (.For (.Name x px) (.Call (.Name ("range" : Str) rp) [.Constant (.int 1) k1 p1, .Constant (.int 9) k9 p9] [] cpos) body [] pos :: rest) (envX cn S.sc L a ccd [])) Q E s := by
  refine wpAny_execs_cons (wpAny_mono (E := fun _ _ => False) (Q := Then prog w A rest (envX cn S.sc L a ccd []) Q E) ?_ (fun _ _ h => h) fun _ _ h => h.elim)
  refine For_invVF (h₀ := h₀) (m := m) F hx (by show (S.sc.kind == .class || (S.sc.kind == .module && _)) = false; rw [fc.hk]; rfl) ?_ (fun _ => rfl) PassesOwn.never
  refine range19 fc hrl hrn F N ?_
  intro r h1 tk1 t₀ u₀ v₀ hr F1 N1
  have hn : Builtin.Range.rangeSize 1 9 1 = ((8 : Nat) : Int) := by decide
  refine wpAny_pyIter_range hr (by decide) ?_
  have W : Walks prog w A h1.objs.size [h1.objs.size] [h1.objs.size] 8 (fun i v => i < 8 ∧ ∃ t, v = .int (1 + i * 1) t)
      (fun i h => IsRangeIter h h1.objs.size (1 + (i : Nat) * 1) (((8 : Nat) : Int) - (i : Nat)) 1) := (Walks.range fc.hh _ 1 1 8).bound
  refine loop_invN (fun i m nx => nx = news ∧ ∃ σ, Locs vars σ m ∧ Inv i σ) W ?_ ?_ ?_ ?_ (by show IsRangeIter _ _ _ _ _; rw [hn]; simpa using Heap.get?_push_size _ rfl) (F1.push _) (fun q hq => ⟨Heap.get?_push_of_some _ (N1 q hq).1, (N1 q hq).2⟩) ⟨rfl, σ, hl, hi⟩ ?_ ?_
  · intro hm
    exact absurd F1.ns.lt ((List.mem_singleton.mp hm) ▸ Nat.lt_irrefl _)
  · intro b hb
    rw [List.mem_singleton.mp hb]
    exact next_is_new F1
  · intro q hq hI
    exact absurd (Heap.lt_size (N1 q hq).1) ((List.mem_singleton.mp hI) ▸ Nat.lt_irrefl _)
  · intro q hq hI
    exact absurd (Heap.lt_size (N1 q hq).1) ((List.mem_singleton.mp hI) ▸ Nat.lt_irrefl _)
  · rintro i v m₁ news₁ h2 tk2 own hi8 ⟨_, t, rfl⟩ _ hoff ⟨rfl, σ₁, hl1, hi1⟩ F2 N2
    have e1 : (1 : Int) + (i : Int) * 1 = 1 + (i : Int) := by omega
    rw [e1] at F2
    have hok := turn i σ₁ hi8 hl1.1 hi1
    have htg : tgt S vars x = some (vars.length, vars ++ [x]) := by unfold tgt; rw [if_pos hx, hxv]
    have hl2 := locs_put (i := 1 + (i : Int)) (t := t) hl1 htg
    have hput : put σ₁ vars.length (1 + (i : Int)) = σ₁ ++ [1 + (i : Int)] := by rw [← hl1.1, put_app]
    rw [hput] at hl2
    have := compA_ok fc hc _ (σ₁ ++ [1 + (i : Int)]) _ { s with heap := h2, toks := tk2 } (news₁ ++ own) []
      (InvPostN h₀ L (fun m nx => nx = news₁ ∧ ∃ σ, Locs vars σ m ∧ Inv (i + 1) σ) own (news₁.map (·.1)) { s with heap := h2, toks := tk2 } (Then prog w A rest (envX cn S.sc L a ccd []) Q E)) (fun _ _ => False) hl2 hok F2 N2 (by
        intro σ3 m3 h3 tk3 news3 hinv hl3 F3 N3 sub3
        refine wpAny_execs_nil ?_
        exact ⟨h3, tk3, m3, news3, news₁, rfl, F3, N3, fun q hq => sub3 q (List.mem_append_left _ hq), fun q hq => sub3 q (List.mem_append_right _ hq), rfl, rfl, _, locs_take hl3, hinv⟩)
    rw [List.append_nil] at this
    exact this
  · rintro m₁ nx h2 tk2 ⟨rfl, σ₁, hl1, hi1⟩ F2 N2
    exact kk σ₁ m₁ h2 tk2 hl1 hi1 F2 N2
end
end Mine

namespace Mine
theorem idx_get : ∀ {vars : List Str} {x : Str} {k : Nat}, idx vars x = some k → vars[k]? = some x
  | [], _, _, h => by cases h
  | y :: r, x, k, h => by
    unfold idx at h
    split at h
    · rename_i e; cases h; rw [e]; rfl
    · obtain ⟨j, hj, rfl⟩ := Option.map_eq_some_iff.mp h
      have := idx_get hj
      simpa using this

theorem ints_get : ∀ {vs : List Value} {is : List Int}, IntsAre vs is → ∀ k, k < is.length → ∃ t, vs[k]? = some (.int (gt is k) t)
  | _, _, .nil, _, h => absurd h (Nat.not_lt_zero _)
  | _, _, .cons n t _, 0, _ => ⟨t, rfl⟩
  | _, _, .cons n t h, k + 1, hk => by
    obtain ⟨u, hu⟩ := ints_get h k (by simpa using hk)
    exact ⟨u, by rw [gt]; simpa using hu⟩

theorem lookup_mem : ∀ {l : List (Str × Value)} {x : Str} {v : Value}, (l.map (·.1)).Nodup → (x, v) ∈ l → l.lookup x = some v
  | (y, u) :: r, x, v, hn, hm => by
    rw [List.map_cons, List.nodup_cons] at hn
    rcases List.mem_cons.mp hm with e | hm
    · cases e; rw [List.lookup_cons, beq_self_eq_true]
    · have hne : (x == y) = false := beq_eq_false_iff_ne.mpr fun e => hn.1 (e ▸ List.mem_map_of_mem (f := (·.1)) hm)
      rw [List.lookup_cons, hne]
      exact lookup_mem hn.2 hm

theorem locs_args {xs : List Str} {vs : List Value} {is : List Int} (hi : IntsAre vs is) (hlen : is.length = xs.length) (hnd : xs.Nodup) : Locs xs is (fun y => (xs.zip vs).reverse.lookup y) := by
  refine ⟨hlen, fun x k hk => ?_⟩
  have hkl := idx_lt hk
  obtain ⟨t, ht⟩ := ints_get hi k (by omega)
  refine ⟨t, lookup_mem ?_ ?_⟩
  · rw [List.map_reverse]
    refine (List.reverse_perm _).nodup_iff.mpr ?_
    have : (xs.zip vs).map (·.1) = xs := by
      rw [← List.unzip_fst, List.unzip_zip (by rw [hi.length]; exact hlen.symm)]
    rw [this]; exact hnd
  · rw [List.mem_reverse]
    have h1 := idx_get hk
    have : (xs.zip vs)[k]? = some (x, .int (gt is k) t) := by
      rw [List.getElem?_zip_eq_some]
      exact ⟨h1, ht⟩
    exact List.mem_of_getElem? this

section
variable {prog : Program} {w : World} {K : Frag} {p : Program} {loose : List Str} {mean : ExcName → Option Value} {mg mb : Str → Option Value}

/-- a body, entered with its ints, hands this back -/
def BodyOK (prog : Program) (w : World) (K : Frag) (p : Program) (loose : List Str) (mean : ExcName → Option Value) (mg mb : Str → Option Value) (d : Nat) (S : SE) (body : List Stmt) (xs : List Str) (args : List Int) (r : AV) : Prop :=
  ∀ {A₀ A : Around} {base h₀ : Heap} {outer : List Env} {cn : Str} {L a : Addr} {ccd : Value} (_ : FC prog w K p loose mean mg mb d S A₀ A base h₀ outer cn L a ccd)
    (m : Str → Option Value) (s : Shared) (news : Led) (Q : Flow → Shared → Prop) (E : Value → Shared → Prop), Locs xs args m → Fr h₀ L s.heap m → News h₀ L s.heap news →
    (∀ v m' h' tk' news', Rep news' v r → Fr h₀ L h' m' → News h₀ L h' news' → (∀ q ∈ news, q ∈ news') → Q (.ret v) { s with heap := h', toks := tk' }) →
    wpAny (model prog w) A (execs body (envX cn S.sc L a ccd [])) Q E s

/-- the static facts of a def's frame -/
structure SOK (prog : Program) (w : World) (K : Frag) (p : Program) (loose : List Str) (mean : ExcName → Option Value) (mg mb : Str → Option Value) (d : Nat) (S : SE) : Prop where
  hk : S.sc.kind = .function
  consts : ∀ x i, S.consts.lookup x = some i → ∃ t, nsIn K mainGlobals x = some (some (.int i t))
  fns : ∀ x g, S.fns.lookup x = some g → nsIn K mainGlobals x = some (some (.ref (S.G g).addr)) ∧ keepIn K (.ref (S.G g).addr) = true
  ok : ∀ g args, (S.G g).ok args → CallOK prog w K p loose mean mg mb d (S.G g).addr args ((S.G g).res args)

theorem fn_ok {d : Nat} {S : SE} {f : Addr} {name qual : Str} {params : Arguments} {body : List Stmt} {dV kV doc pm cdv ct oc : Value} {an od : Option Addr} {osl : Array (Option Value)} {xs : List Str} {args : List Int} {r : AV}
    (hlook : K.lookup f = some ⟨oc, od, .func (fnOf name qual params body S.sc dV kV doc pm an cdv ct), osl⟩) (hcd : codeIn K cdv qual = true)
    (hbind : ∀ (s : Shared) (vs : List Value), IntsAre vs args → BindsTo s (fnOf name qual params body S.sc dV kV doc pm an cdv ct) ⟨vs, []⟩ (xs.zip vs))
    (hloc : ∀ x ∈ xs, S.sc.names.lookup x = some .local) (hnd : xs.Nodup) (hlen : args.length = xs.length)
    (hco : S.sc.isCoroutine = false) (hgen : S.sc.isGenerator = false) (hcell : ∀ x ∈ S.sc.names, x.2 ≠ .cell)
    (so : SOK prog w K p loose mean mg mb d S) (hb : BodyOK prog w K p loose mean mg mb d S body xs args r) :
    CallOK prog w K p loose mean mg mb (d + 1) f args r := by
  intro A₀ A base h₀ outer env L m news s Q E vs B F X N T hA hf hk hh hd hu hi kk
  refine wpAny_call (code_def B F X N T hA hf hk hlook hcd (by omega) (hbind s vs hi) ?_ ?_ hco hgen so.hk hcell)
  · intro y hy
    exact hloc _ (List.of_mem_zip hy).1
  · intro g L' h₁ FG F' N' B' X' T'
    have fc : FC prog w K p loose mean mg mb d S A (A.deeper (envX qual S.sc L' f cdv [])) base g (env :: outer) qual L' f cdv :=
      { B := B', X := X', T := T', hA := Around.frames_deeper B'.stack, hk := so.hk, hh := hh,
        hd := by show A.depth + 1 + d < recursionLimit; omega,
        hu := by show A.units + 3 + 64 + 3 * d < cLine; omega,
        consts := so.consts, fns := so.fns, ok := so.ok }
    refine hb fc _ { s with heap := h₁, toks := s.toks + (xs.zip vs).length } news _ _ (locs_args hi hlen hnd) F' N' ?_
    intro v m' h' tk' news' rp F2 N2 sub
    exact leaveK_ F2 N2 fun F3 N3 => kk v h' tk' news' rp F3 N3 sub

/-- a block, then the return of one int -/
theorem body_ret {d : Nat} {S : SE} {body : List Stmt} {xs : List Str} {args : List Int} (k n : Nat) {e : Expr} {q : Pos} {ca : CA} {vars : List Str} {c : CI} {i : Int}
    (hd : body.drop k = [.Return (some e) q]) (hc : CompA S xs (body.take k) ca vars) (he : Comp S vars e (.I c))
    (ho : wpc S.G ca (fun σ => oki S.G σ c ∧ ci S.G σ c = i) args) : BodyOK prog w K p loose mean mg mb d S body xs args (.int i) := by
  intro A₀ A base h₀ outer cn L a ccd fc m s news Q E hl F N kk
  rw [← List.take_append_drop k body, hd]
  refine compA_ok fc hc _ args m s news _ Q E hl ho F N ?_
  rintro σ' m' h' tk' news' ⟨ho', hr⟩ hl' F' N' sub
  subst hr
  refine wpAny_execs_cons (wpAny_Return_some (comp_ok fc hl' he ho' _ news' _ _ F' N' ?_))
  intro v h2 tk2 news2 rp F2 N2 sub2
  exact kk v m' h2 tk2 news2 rp F2 N2 fun q hq => sub2 q (sub q hq)

/-- a block, then the return of two ints -/
theorem body_ret2 {d : Nat} {S : SE} {body : List Stmt} {xs : List Str} {args : List Int} (k n : Nat) {e1 e2 : Expr} {tk0 : Nat} {tp q : Pos} {ca : CA} {vars : List Str} {c1 c2 : CI} {i1 i2 : Int}
    (hd : body.drop k = [.Return (some (.Tuple [e1, e2] tk0 tp)) q]) (hc : CompA S xs (body.take k) ca vars) (he1 : Comp S vars e1 (.I c1)) (he2 : Comp S vars e2 (.I c2))
    (ho : wpc S.G ca (fun σ => oki S.G σ c1 ∧ oki S.G σ c2 ∧ ci S.G σ c1 = i1 ∧ ci S.G σ c2 = i2) args) : BodyOK prog w K p loose mean mg mb d S body xs args (.tup [i1, i2]) := by
  intro A₀ A base h₀ outer cn L a ccd fc m s news Q E hl F N kk
  rw [← List.take_append_drop k body, hd]
  refine compA_ok fc hc _ args m s news _ Q E hl ho F N ?_
  rintro σ' m' h' tk' news' ⟨ho1, ho2, hr1, hr2⟩ hl' F' N' sub
  subst hr1 hr2
  refine wpAny_execs_cons (wpAny_Return_some (tup_disp (args2 (comp_ok fc hl' he1 ho1) (comp_ok fc hl' he2 ho2) he1.star he2.star) (by simp) F' N' ?_))
  intro D vs h2 tk2 news2 hi hm F2 N2 sub2
  exact kk _ m' h2 tk2 news2 ⟨D, vs, 0, rfl, hm, hi⟩ F2 N2 fun q hq => sub2 q (sub q hq)

/-- a block, a loop over 1 .. 8, then the return of one int -/
theorem body_for_ret {d : Nat} {S : SE} {body lb : List Stmt} {xs vars more : List Str} {args : List Int} (k n : Nat) {x : Str} {px rp p1 p9 cpos pos q : Pos} {k1 k9 : Nat} {e : Expr} {ca cl : CA} {c : CI} {i : Int}
    (hd : body.drop k = [.For (.Name x px) (.Call (.Name ("range" : Str) rp) [.Constant (.int 1) k1 p1, .Constant (.int 9) k9 p9] [] cpos) lb [] pos, .Return (some e) q])
    (hc : CompA S xs (body.take k) ca vars) (hx : S.sc.names.lookup x = some .local) (hxv : idx vars x = none) (hrl : S.sc.names.lookup ("range" : Str) = some .globalImplicit) (hrn : nsIn K mainGlobals ("range" : Str) = some none)
    (hcl : CompA S (vars ++ [x]) lb cl (vars ++ x :: more)) (he : Comp S vars e (.I c)) (Inv : Nat → List Int → Prop)
    (ho : wpc S.G ca (Inv 0) args)
    (turn : ∀ (i : Nat) (σ : List Int), i < 8 → σ.length = vars.length → Inv i σ → wpc S.G cl (fun σ' => Inv (i + 1) (σ'.take vars.length)) (σ ++ [1 + (i : Int)]))
    (fin : ∀ σ : List Int, σ.length = vars.length → Inv 8 σ → oki S.G σ c ∧ ci S.G σ c = i) : BodyOK prog w K p loose mean mg mb d S body xs args (.int i) := by
  intro A₀ A base h₀ outer cn L a ccd fc m s news Q E hl F N kk
  rw [← List.take_append_drop k body, hd]
  refine compA_ok fc hc _ args m s news _ Q E hl ho F N ?_
  intro σ1 m1 h1 tk1 news1 h0 hl1 F1 N1 sub1
  refine for_ok fc hx hxv hrl hrn hcl Inv turn hl1 h0 F1 N1 ?_
  intro σ m2 h2 tk2 hl2 hi2 F2 N2
  obtain ⟨ho', hr⟩ := fin σ hl2.1 hi2
  refine wpAny_execs_cons (wpAny_Return_some (comp_ok fc hl2 he ho' _ news1 _ _ F2 N2 ?_))
  intro v h3 tk3 news3 rp F3 N3 sub3
  rw [hr] at rp
  exact kk v m2 h3 tk3 news3 rp F3 N3 fun q hq => sub3 q (sub1 q hq)

/-- a block, a loop over 1 .. 8, then the return of two ints -/
theorem body_for_ret2 {d : Nat} {S : SE} {body lb : List Stmt} {xs vars more : List Str} {args : List Int} (k n : Nat) {x : Str} {px rp p1 p9 cpos pos tp q : Pos} {k1 k9 tk0 : Nat} {e1 e2 : Expr} {ca cl : CA} {c1 c2 : CI} {i1 i2 : Int}
    (hd : body.drop k = [.For (.Name x px) (.Call (.Name ("range" : Str) rp) [.Constant (.int 1) k1 p1, .Constant (.int 9) k9 p9] [] cpos) lb [] pos, .Return (some (.Tuple [e1, e2] tk0 tp)) q])
    (hc : CompA S xs (body.take k) ca vars) (hx : S.sc.names.lookup x = some .local) (hxv : idx vars x = none) (hrl : S.sc.names.lookup ("range" : Str) = some .globalImplicit) (hrn : nsIn K mainGlobals ("range" : Str) = some none)
    (hcl : CompA S (vars ++ [x]) lb cl (vars ++ x :: more)) (he1 : Comp S vars e1 (.I c1)) (he2 : Comp S vars e2 (.I c2)) (Inv : Nat → List Int → Prop)
    (ho : wpc S.G ca (Inv 0) args)
    (turn : ∀ (i : Nat) (σ : List Int), i < 8 → σ.length = vars.length → Inv i σ → wpc S.G cl (fun σ' => Inv (i + 1) (σ'.take vars.length)) (σ ++ [1 + (i : Int)]))
    (fin : ∀ σ : List Int, σ.length = vars.length → Inv 8 σ → oki S.G σ c1 ∧ oki S.G σ c2 ∧ ci S.G σ c1 = i1 ∧ ci S.G σ c2 = i2) : BodyOK prog w K p loose mean mg mb d S body xs args (.tup [i1, i2]) := by
  intro A₀ A base h₀ outer cn L a ccd fc m s news Q E hl F N kk
  rw [← List.take_append_drop k body, hd]
  refine compA_ok fc hc _ args m s news _ Q E hl ho F N ?_
  intro σ1 m1 h1 tk1 news1 h0 hl1 F1 N1 sub1
  refine for_ok fc hx hxv hrl hrn hcl Inv turn hl1 h0 F1 N1 ?_
  intro σ m2 h2 tk2 hl2 hi2 F2 N2
  obtain ⟨ho1, ho2, hr1, hr2⟩ := fin σ hl2.1 hi2
  subst hr1 hr2
  refine wpAny_execs_cons (wpAny_Return_some (tup_disp (args2 (comp_ok fc hl2 he1 ho1) (comp_ok fc hl2 he2 ho2) he1.star he2.star) (by simp) F2 N2 ?_))
  intro D vs h3 tk3 news3 hi hm F3 N3 sub3
  exact kk _ m2 h3 tk3 news3 ⟨D, vs, 0, rfl, hm, hi⟩ F3 N3 fun q hq => sub3 q (sub1 q hq)

/-- a block, a loop over 1 .. 8, then True -/
theorem body_for_true {d : Nat} {S : SE} {body lb : List Stmt} {xs vars more : List Str} {args : List Int} (k n : Nat) {x : Str} {px rp p1 p9 cpos pos tp q : Pos} {k1 k9 tk0 : Nat} {ca cl : CA}
    (hd : body.drop k = [.For (.Name x px) (.Call (.Name ("range" : Str) rp) [.Constant (.int 1) k1 p1, .Constant (.int 9) k9 p9] [] cpos) lb [] pos, .Return (some (.Constant (.bool true) tk0 tp)) q])
    (hc : CompA S xs (body.take k) ca vars) (hx : S.sc.names.lookup x = some .local) (hxv : idx vars x = none) (hrl : S.sc.names.lookup ("range" : Str) = some .globalImplicit) (hrn : nsIn K mainGlobals ("range" : Str) = some none)
    (hcl : CompA S (vars ++ [x]) lb cl (vars ++ x :: more)) (Inv : Nat → List Int → Prop)
    (ho : wpc S.G ca (Inv 0) args)
    (turn : ∀ (i : Nat) (σ : List Int), i < 8 → σ.length = vars.length → Inv i σ → wpc S.G cl (fun σ' => Inv (i + 1) (σ'.take vars.length)) (σ ++ [1 + (i : Int)])) :
    BodyOK prog w K p loose mean mg mb d S body xs args (.bool true) := by
  intro A₀ A base h₀ outer cn L a ccd fc m s news Q E hl F N kk
  rw [← List.take_append_drop k body, hd]
  refine compA_ok fc hc _ args m s news _ Q E hl ho F N ?_
  intro σ1 m1 h1 tk1 news1 h0 hl1 F1 N1 sub1
  refine for_ok fc hx hxv hrl hrn hcl Inv turn hl1 h0 F1 N1 ?_
  intro σ m2 h2 tk2 hl2 hi2 F2 N2
  refine wpAny_execs_cons (wpAny_Return_some (Constant_bool ?_))
  exact kk _ m2 h2 tk2 news1 rfl F2 N2 sub1
end
end Mine

namespace Mine
/-! the defs' values, as their texts reckon them -/
def parI (v : Int) : Int :=
  let v1 := Builtin.bitXor v (v.fdiv (2 ^ Int.toNat 4))
  let v2 := Builtin.bitXor v1 (v1.fdiv (2 ^ Int.toNat 2))
  let v3 := Builtin.bitXor v2 (v2.fdiv (2 ^ Int.toNat 1))
  if (Builtin.bitAnd v3 1 != 0) = true then 0 else 4
def szI (v : Int) : Int := Builtin.bitOr (Builtin.bitAnd v (Builtin.bitOr 128 40)) (if (v == 0) = true then 64 else 0)
def hiI (x y r : Int) : Int := Builtin.bitOr (Builtin.bitAnd (r.fdiv (2 ^ Int.toNat 8)) 40) (Builtin.bitAnd ((Builtin.bitXor (Builtin.bitXor x y) r).fdiv (2 ^ Int.toNat 8)) 16)
def sgI (o : Int) : Int := if decide (127 < o) = true then o - 256 else o
def addR (a b c : Int) : Int := Builtin.bitAnd (a + b + c) 255
def addF (a b c : Int) : Int :=
  Builtin.bitOr (Builtin.bitOr (Builtin.bitOr (szI (addR a b c)) (Builtin.bitAnd (Builtin.bitXor (Builtin.bitXor a b) (addR a b c)) 16))
    (if (Builtin.bitAnd (Builtin.bitAnd (Builtin.bitXor a (addR a b c)) (Builtin.bitXor b (addR a b c))) 128 != 0) = true then 4 else 0)) ((a + b + c).fdiv (2 ^ Int.toNat 8))
def subR (a b c : Int) : Int := Builtin.bitAnd (a - b - c) 255
def subF (a b c : Int) : Int :=
  Builtin.bitOr (Builtin.bitOr (Builtin.bitOr (Builtin.bitOr (szI (subR a b c)) (Builtin.bitAnd (Builtin.bitXor (Builtin.bitXor a b) (subR a b c)) 16))
    (if (Builtin.bitAnd (Builtin.bitAnd (Builtin.bitXor a b) (Builtin.bitXor a (subR a b c))) 128 != 0) = true then 4 else 0)) 2) (if decide (a - b - c < 0) = true then 1 else 0)
def a16R (x y : Int) : Int := Builtin.bitAnd (x + y) 65535
def a16F (x y f : Int) : Int := Builtin.bitOr (Builtin.bitOr (Builtin.bitAnd f 196) (hiI x y (a16R x y))) ((x + y).fdiv (2 ^ Int.toNat 16))
def tuR (k v f : Int) : Int := if k = 2 then Builtin.bitOr (Builtin.bitAnd (v * 2 ^ Int.toNat 1) 255) (Builtin.bitAnd f 1) else Builtin.bitOr (v.fdiv (2 ^ Int.toNat 1)) (Builtin.bitAnd f 1 * 2 ^ Int.toNat 7)
def tuO (k v : Int) : Int := if k = 2 then v.fdiv (2 ^ Int.toNat 7) else Builtin.bitAnd v 1
def roF (k v f : Int) : Int := Builtin.bitOr (Builtin.bitOr (szI (tuR k v f)) (parI (tuR k v f))) (tuO k v)
def daW (a f : Int) : Int := if ((Builtin.bitAnd f 16 != 0) || decide (9 < Builtin.bitAnd a 15)) = true then 6 else 0
def daC (a f : Int) : Bool := (Builtin.bitAnd f 1 != 0) || decide (153 < a)
def daR (a f : Int) : Int :=
  let way := if daC a f = true then daW a f + 96 else daW a f
  if (Builtin.bitAnd f 2 != 0) = true then Builtin.bitAnd (a - way) 255 else Builtin.bitAnd (a + way) 255
def daH (a f : Int) : Int :=
  if (Builtin.bitAnd f 2 != 0) = true then (if ((Builtin.bitAnd f 16 != 0) && decide (Builtin.bitAnd a 15 < 6)) = true then 16 else 0) else (if decide (9 < Builtin.bitAnd a 15) = true then 16 else 0)
def daF (a f : Int) : Int :=
  Builtin.bitOr (Builtin.bitOr (Builtin.bitOr (Builtin.bitOr (szI (daR a f)) (parI (daR a f))) (daH a f)) (Builtin.bitAnd f 2)) (if daC a f = true then 1 else Builtin.bitAnd f 1)

def kindOk (l : List Int) : Prop := (gt l 0 = 2 ∨ gt l 0 = 3) ∧ (0 ≤ gt l 1 ∧ gt l 1 < 256) ∧ 0 ≤ gt l 2 ∧ gt l 2 < 256

def CN : List (Str × Int) := [("S", 128), ("Z", 64), ("H", 16), ("PV", 4), ("N", 2), ("C", 1), ("YX", 40), ("KEPT", 196), ("RL", 2), ("RR", 3)]
def FN : List (Str × Nat) := [("parity", 0), ("szyx", 1), ("add8", 2), ("sub8", 3), ("high_flags", 4), ("add16", 5), ("daa", 6), ("turned", 7), ("rotate", 8), ("_law_signed", 9)]

/-- the defs that a frame of this level may call -/
def GF (lv : Nat) (g : Nat) : Fn := match g with
  | 0 => { addr := 21, isT := false, vi := fun l => parI (gt l 0), vt := fun _ => [], ok := fun l => 1 ≤ lv ∧ l.length = 1 }
  | 1 => { addr := 28, isT := false, vi := fun l => szI (gt l 0), vt := fun _ => [], ok := fun l => 1 ≤ lv ∧ l.length = 1 }
  | 2 => { addr := 35, isT := true, vi := fun _ => 0, vt := fun l => [addR (gt l 0) (gt l 1) (gt l 2), addF (gt l 0) (gt l 1) (gt l 2)], ok := fun l => 2 ≤ lv ∧ l.length = 3 }
  | 3 => { addr := 42, isT := true, vi := fun _ => 0, vt := fun l => [subR (gt l 0) (gt l 1) (gt l 2), subF (gt l 0) (gt l 1) (gt l 2)], ok := fun l => 2 ≤ lv ∧ l.length = 3 }
  | 4 => { addr := 49, isT := false, vi := fun l => hiI (gt l 0) (gt l 1) (gt l 2), vt := fun _ => [], ok := fun l => 1 ≤ lv ∧ l.length = 3 }
  | 5 => { addr := 56, isT := true, vi := fun _ => 0, vt := fun l => [a16R (gt l 0) (gt l 1), a16F (gt l 0) (gt l 1) (gt l 2)], ok := fun l => 2 ≤ lv ∧ l.length = 3 }
  | 6 => { addr := 63, isT := true, vi := fun _ => 0, vt := fun l => [daR (gt l 0) (gt l 1), daF (gt l 0) (gt l 1)], ok := fun l => 2 ≤ lv ∧ l.length = 2 }
  | 7 => { addr := 70, isT := true, vi := fun _ => 0, vt := fun l => [tuR (gt l 0) (gt l 1) (gt l 2), tuO (gt l 0) (gt l 1)], ok := fun l => 1 ≤ lv ∧ l.length = 3 ∧ kindOk l }
  | 8 => { addr := 77, isT := true, vi := fun _ => 0, vt := fun l => [tuR (gt l 0) (gt l 1) (gt l 2), roF (gt l 0) (gt l 1) (gt l 2)], ok := fun l => 2 ≤ lv ∧ l.length = 3 ∧ kindOk l }
  | 9 => { addr := 98, isT := false, vi := fun l => sgI (gt l 0), vt := fun _ => [], ok := fun l => 1 ≤ lv ∧ l.length = 1 }
  | _ => { addr := 0, isT := false, vi := fun _ => 0, vt := fun _ => [], ok := fun _ => False }

def ckC (K : Frag) (l : List (Str × Int)) : Bool := l.all fun q => match nsIn K mainGlobals q.1 with
  | some (some (.int j _)) => decide (j = q.2)
  | _ => false
def ckF (K : Frag) (G : Nat → Fn) (l : List (Str × Nat)) : Bool := l.all fun q => match nsIn K mainGlobals q.1 with
  | some (some (.ref a)) => decide (a = (G q.2).addr) && keepIn K (.ref a)
  | _ => false
theorem of_lookup {β : Type} : ∀ {l : List (Str × β)} {x : Str} {i : β}, l.lookup x = some i → (x, i) ∈ l
  | (y, j) :: r, x, i, h => by
    rw [List.lookup_cons] at h
    split at h
    · rename_i e; cases h; rw [beq_iff_eq.mp e]; exact .head _
    · exact .tail _ (of_lookup h)
theorem ckC_ok {K : Frag} {l : List (Str × Int)} (h : ckC K l = true) (x : Str) (i : Int) (hx : l.lookup x = some i) : ∃ t, nsIn K mainGlobals x = some (some (.int i t)) := by
  have := List.all_eq_true.mp h _ (of_lookup hx)
  split at this
  · rename_i j t e
    exact ⟨t, by rw [e, of_decide_eq_true this]⟩
  · cases this
theorem ckF_ok {K : Frag} {G : Nat → Fn} {l : List (Str × Nat)} (h : ckF K G l = true) (x : Str) (g : Nat) (hx : l.lookup x = some g) : nsIn K mainGlobals x = some (some (.ref (G g).addr)) ∧ keepIn K (.ref (G g).addr) = true := by
  have := List.all_eq_true.mp h _ (of_lookup hx)
  split at this
  · rename_i a e
    rw [Bool.and_eq_true] at this
    have ha : a = (G g).addr := of_decide_eq_true this.1
    exact ⟨by rw [e, ha], ha ▸ this.2⟩
  · cases this

section
variable (P : Params) {prog : Program} {w : World} {p : Program} {loose : List Str} {mean : ExcName → Option Value} {mg mb : Str → Option Value}

theorem consts_ok : ckC (hd.heap_39 P) CN = true := by kernel_rfl!
theorem fns_ok (lv : Nat) : ckF (hd.heap_39 P) (GF lv) FN = true := by kernel_rfl!

theorem so0 {d : Nat} {sc : Scope} (hk : sc.kind = .function) : SOK prog w (hd.heap_39 P) p loose mean mg mb d ⟨sc, CN, FN, GF 0⟩ :=
  { hk := hk, consts := ckC_ok (consts_ok P), fns := ckF_ok (fns_ok P 0), ok := fun g args h => by
      exfalso
      match g, h with
      | 0, h => exact absurd h.1 (by decide)
      | 1, h => exact absurd h.1 (by decide)
      | 2, h => exact absurd h.1 (by decide)
      | 3, h => exact absurd h.1 (by decide)
      | 4, h => exact absurd h.1 (by decide)
      | 5, h => exact absurd h.1 (by decide)
      | 6, h => exact absurd h.1 (by decide)
      | 7, h => exact absurd h.1 (by decide)
      | 8, h => exact absurd h.1 (by decide)
      | 9, h => exact absurd h.1 (by decide)
      | _ + 10, h => exact h }

theorem z1 : (0 : Int) ≤ 1 := by decide
theorem z2 : (0 : Int) ≤ 2 := by decide
theorem z4 : (0 : Int) ≤ 4 := by decide
theorem z8 : (0 : Int) ≤ 8 := by decide
theorem z16 : (0 : Int) ≤ 16 := by decide
theorem ints1 {vs : List Value} {i1 : Int} (h : IntsAre vs [i1]) : ∃ t, vs = [.int i1 t] := by
  rcases h with _ | ⟨_, t, h⟩
  cases h
  exact ⟨t, rfl⟩
theorem ints2' {vs : List Value} {i1 i2 : Int} (h : IntsAre vs [i1, i2]) : ∃ t u, vs = [.int i1 t, .int i2 u] := ints2 h rfl

theorem par_ok (v : Int) : CallOK prog w (hd.heap_39 P) p loose mean mg mb 1 21 [v] (.int (parI v)) := by
  refine fn_ok (d := 0) (S := ⟨_, CN, FN, GF 0⟩) (xs := ["v"]) (by exact rfl) (by kernel_rfl!) ?_ (by decide +kernel) (by decide +kernel) rfl rfl rfl (by decide) (so0 P rfl) ?_
  · intro s vs hi
    obtain ⟨t, rfl⟩ := ints1 hi
    exact BindsTo.of_eq rfl
  · refine body_ret 3 40 (vars := ["v"]) (ca := (.set 0 (.bin .BitXor (.var 0) (.bin .RShift (.var 0) (.lit 4))) (.set 0 (.bin .BitXor (.var 0) (.bin .RShift (.var 0) (.lit 2))) (.set 0 (.bin .BitXor (.var 0) (.bin .RShift (.var 0) (.lit 1))) .nil))))
      (c := (.ite (.tr (.bin .BitAnd (.var 0) (.lit 1))) (.lit 0) (.lit 4))) rfl (by repeat' (first | kernel_rfl! | constructor)) (by repeat' (first | kernel_rfl! | constructor)) ?_
    repeat' (first | exact trivial | exact rfl | exact z1 | exact z2 | exact z4 | intro _ | refine ⟨?_, ?_⟩)

theorem sz_ok (v : Int) : CallOK prog w (hd.heap_39 P) p loose mean mg mb 1 28 [v] (.int (szI v)) := by
  refine fn_ok (d := 0) (S := ⟨_, CN, FN, GF 0⟩) (xs := ["v"]) (by exact rfl) (by kernel_rfl!) ?_ (by decide +kernel) (by decide +kernel) rfl rfl rfl (by decide) (so0 P rfl) ?_
  · intro s vs hi
    obtain ⟨t, rfl⟩ := ints1 hi
    exact BindsTo.of_eq rfl
  · refine body_ret 0 40 (vars := ["v"]) (ca := .nil) (c := (.bin .BitOr (.bin .BitAnd (.var 0) (.bin .BitOr (.lit 128) (.lit 40))) (.ite (.cmp .Eq (.var 0) (.lit 0)) (.lit 64) (.lit 0)))) rfl (by repeat' (first | kernel_rfl! | constructor)) (by repeat' (first | kernel_rfl! | constructor)) ?_
    repeat' (first | exact trivial | exact rfl | exact z1 | exact z2 | exact z4 | exact z8 | exact z16 | intro _ | refine ⟨?_, ?_⟩)

theorem hi_ok (x y r : Int) : CallOK prog w (hd.heap_39 P) p loose mean mg mb 1 49 [x, y, r] (.int (hiI x y r)) := by
  refine fn_ok (d := 0) (S := ⟨_, CN, FN, GF 0⟩) (xs := ["x", "y", "r"]) (by exact rfl) (by kernel_rfl!) ?_ (by decide +kernel) (by decide +kernel) rfl rfl rfl (by decide) (so0 P rfl) ?_
  · intro s vs hi
    obtain ⟨t, u, v, rfl⟩ := ints3 hi
    exact BindsTo.of_eq rfl
  · refine body_ret 0 40 (vars := ["x", "y", "r"]) (ca := .nil) (c := (.bin .BitOr (.bin .BitAnd (.bin .RShift (.var 2) (.lit 8)) (.lit 40)) (.bin .BitAnd (.bin .RShift (.bin .BitXor (.bin .BitXor (.var 0) (.var 1)) (.var 2)) (.lit 8)) (.lit 16)))) rfl (by repeat' (first | kernel_rfl! | constructor)) (by repeat' (first | kernel_rfl! | constructor)) ?_
    repeat' (first | exact trivial | exact rfl | exact z1 | exact z2 | exact z4 | exact z8 | exact z16 | intro _ | refine ⟨?_, ?_⟩)

theorem sg_ok (octet : Int) : CallOK prog w (hd.heap_39 P) p loose mean mg mb 1 98 [octet] (.int (sgI octet)) := by
  refine fn_ok (d := 0) (S := ⟨_, CN, FN, GF 0⟩) (xs := ["octet"]) (by exact rfl) (by kernel_rfl!) ?_ (by decide +kernel) (by decide +kernel) rfl rfl rfl (by decide) (so0 P rfl) ?_
  · intro s vs hi
    obtain ⟨t, rfl⟩ := ints1 hi
    exact BindsTo.of_eq rfl
  · refine body_ret 0 40 (vars := ["octet"]) (ca := .nil) (c := (.ite (.cmp .Gt (.var 0) (.lit 127)) (.bin .Sub (.var 0) (.lit 256)) (.var 0))) rfl (by repeat' (first | kernel_rfl! | constructor)) (by repeat' (first | kernel_rfl! | constructor)) ?_
    repeat' (first | exact trivial | exact rfl | exact z1 | exact z2 | exact z4 | exact z8 | exact z16 | intro _ | refine ⟨?_, ?_⟩)
end
end Mine

namespace Mine
set_option maxHeartbeats 8000000
local macro_rules | `(tactic| walk_at "eval Dict") => `(tactic| (k_here; k_dflt (refine' kdn_eval (knd := PySem.intKind _ _) ?F ?N ?b ?a ?l ?e ?n ?_; (case F => k_asm); (case N => first | k_asm | exact News.nil); (case b => exact Top.nolimit (by k_asm)); (case a => rfl); (case l => rfl); (case e => exact List.cons_ne_nil _ _); (case n => exact Nat.le_of_ble_eq_true rfl)); intro d' h' o' F' N' l1 lo' hd'; (try k_lt l1)))
section
variable {w : World} {p : Program} {loose : List Str} {mean : ExcName → Option Value} {mg mb : Str → Option Value}
theorem tur2 (v f : Int) (hv0 : 0 ≤ v) (hv1 : v < 256) (hf0 : 0 ≤ f) (hf1 : f < 256) : CallOK PySem.Challenge.rw_xm0998_01.row.prog w (hd.heap_39 w.params) p loose mean mg mb 1 70 [2, v, f] (.tup [tuR 2 v f, tuO 2 v]) := by
  k_fill
  rintro A₀ ⟨hand, dp, fr, gd, un⟩ base h₀ outer env L m news s Q E vs B F X N T hA hf hk hh hd hu hi kk
  obtain ⟨t, u, x, rfl⟩ := ints3 hi
  cases hA
  cases hh
  rw [show tuR 2 v f = _ from if_pos rfl, show tuO 2 v = _ from if_pos rfl] at kk
  refine wpAny_call (code_def B F X N T rfl hf hk (by exact rfl) (by kernel_rfl!) (Nat.lt_of_le_of_lt (Nat.le_add_right _ _) hd) (BindsTo.of_eq rfl) (locs rfl) ?_ rfl rfl rfl (by decide))
  intro g L' h₁ FG F' N' B' X' T'
  clear FG F X T B
  have hb0 := (bitAnd_range f z1).1
  have hb1 := (bitAnd_range f z1).2
  (try k_fold)
  k_steps
  refine leaveK_ (by assumption) (by assumption) fun F3 N3 => kk _ _ _ _ ⟨_, [_, _], _, rfl, List.Mem.head _, .cons _ _ (.cons _ _ .nil)⟩ F3 N3 ?_
  exact fun q hq => .tail _ (.tail _ (.tail _ hq))
theorem tur3 (v f : Int) (hv0 : 0 ≤ v) (hv1 : v < 256) (hf0 : 0 ≤ f) (hf1 : f < 256) : CallOK PySem.Challenge.rw_xm0998_01.row.prog w (hd.heap_39 w.params) p loose mean mg mb 1 70 [3, v, f] (.tup [tuR 3 v f, tuO 3 v]) := by
  k_fill
  rintro A₀ ⟨hand, dp, fr, gd, un⟩ base h₀ outer env L m news s Q E vs B F X N T hA hf hk hh hd hu hi kk
  obtain ⟨t, u, x, rfl⟩ := ints3 hi
  cases hA
  cases hh
  rw [show tuR 3 v f = _ from if_neg (by decide), show tuO 3 v = _ from if_neg (by decide)] at kk
  refine wpAny_call (code_def B F X N T rfl hf hk (by exact rfl) (by kernel_rfl!) (Nat.lt_of_le_of_lt (Nat.le_add_right _ _) hd) (BindsTo.of_eq rfl) (locs rfl) ?_ rfl rfl rfl (by decide))
  intro g L' h₁ FG F' N' B' X' T'
  clear FG F X T B
  have hb0 := (bitAnd_range f z1).1
  have hb1 := (bitAnd_range f z1).2
  (try k_fold)
  k_steps
  refine leaveK_ (by assumption) (by assumption) fun F3 N3 => kk _ _ _ _ ⟨_, [_, _], _, rfl, List.Mem.head _, .cons _ _ (.cons _ _ .nil)⟩ F3 N3 ?_
  exact fun q hq => .tail _ (.tail _ (.tail _ hq))
end
end Mine

namespace Mine
section
variable {w : World} {p : Program} {loose : List Str} {mean : ExcName → Option Value} {mg mb : Str → Option Value}

theorem l11 : 1 ≤ 1 := Nat.le_refl 1
theorem so1 {sc : Scope} (hk : sc.kind = .function) : SOK PySem.Challenge.rw_xm0998_01.row.prog w (hd.heap_39 w.params) p loose mean mg mb 1 ⟨sc, CN, FN, GF 1⟩ :=
  { hk := hk, consts := ckC_ok (consts_ok w.params), fns := ckF_ok (fns_ok w.params 1), ok := fun g args h => by
      match g, args, h with
      | 0, [x], _ => exact par_ok w.params x
      | 1, [x], _ => exact sz_ok w.params x
      | 2, _, h => exact absurd h.1 (by decide)
      | 3, _, h => exact absurd h.1 (by decide)
      | 4, [x, y, z], _ => exact hi_ok w.params x y z
      | 5, _, h => exact absurd h.1 (by decide)
      | 6, _, h => exact absurd h.1 (by decide)
      | 7, [k, v, f], h =>
        obtain ⟨_, _, hk, hv, hf⟩ := h
        have hk' : k = 2 ∨ k = 3 := hk
        rcases hk' with rfl | rfl
        · exact tur2 v f hv.1 hv.2 hf.1 hf.2
        · exact tur3 v f hv.1 hv.2 hf.1 hf.2
      | 8, _, h => exact absurd h.1 (by decide)
      | 9, [x], _ => exact sg_ok w.params x
      | _ + 10, _, h => exact h.elim }

theorem add_ok (a b c : Int) : CallOK PySem.Challenge.rw_xm0998_01.row.prog w (hd.heap_39 w.params) p loose mean mg mb 2 35 [a, b, c] (.tup [addR a b c, addF a b c]) := by
  refine fn_ok (d := 1) (S := ⟨_, CN, FN, GF 1⟩) (xs := ["a", "b", "carry"]) (by exact rfl) (by kernel_rfl!) ?_ (by decide +kernel) (by decide +kernel) rfl rfl rfl (by decide) (so1 rfl) ?_
  · intro s vs hi
    obtain ⟨t, u, v, rfl⟩ := ints3 hi
    exact BindsTo.of_eq rfl
  · refine body_ret2 3 40 (vars := ["a", "b", "carry", "whole", "r", "over"]) (ca := (.set 3 (.bin .Add (.bin .Add (.var 0) (.var 1)) (.var 2)) (.set 4 (.bin .BitAnd (.var 3) (.lit 255)) (.set 5 (.bin .BitAnd (.bin .BitAnd (.bin .BitXor (.var 0) (.var 4)) (.bin .BitXor (.var 1) (.var 4))) (.lit 128)) .nil)))) (c1 := (.var 4)) (c2 := (.bin .BitOr (.bin .BitOr (.bin .BitOr (.call1 1 (.var 4)) (.bin .BitAnd (.bin .BitXor (.bin .BitXor (.var 0) (.var 1)) (.var 4)) (.lit 16))) (.ite (.tr (.var 5)) (.lit 4) (.lit 0))) (.bin .RShift (.var 3) (.lit 8)))) rfl (by repeat' (first | kernel_rfl! | constructor)) (by repeat' (first | kernel_rfl! | constructor)) (by repeat' (first | kernel_rfl! | constructor)) ?_
    repeat' (first | exact trivial | exact rfl | exact z1 | exact z2 | exact z4 | exact z8 | exact z16 | exact l11 | intro _ | refine ⟨?_, ?_⟩)

theorem sub_ok (a b c : Int) : CallOK PySem.Challenge.rw_xm0998_01.row.prog w (hd.heap_39 w.params) p loose mean mg mb 2 42 [a, b, c] (.tup [subR a b c, subF a b c]) := by
  refine fn_ok (d := 1) (S := ⟨_, CN, FN, GF 1⟩) (xs := ["a", "b", "carry"]) (by exact rfl) (by kernel_rfl!) ?_ (by decide +kernel) (by decide +kernel) rfl rfl rfl (by decide) (so1 rfl) ?_
  · intro s vs hi
    obtain ⟨t, u, v, rfl⟩ := ints3 hi
    exact BindsTo.of_eq rfl
  · refine body_ret2 3 40 (vars := ["a", "b", "carry", "whole", "r", "over"]) (ca := (.set 3 (.bin .Sub (.bin .Sub (.var 0) (.var 1)) (.var 2)) (.set 4 (.bin .BitAnd (.var 3) (.lit 255)) (.set 5 (.bin .BitAnd (.bin .BitAnd (.bin .BitXor (.var 0) (.var 1)) (.bin .BitXor (.var 0) (.var 4))) (.lit 128)) .nil)))) (c1 := (.var 4)) (c2 := (.bin .BitOr (.bin .BitOr (.bin .BitOr (.bin .BitOr (.call1 1 (.var 4)) (.bin .BitAnd (.bin .BitXor (.bin .BitXor (.var 0) (.var 1)) (.var 4)) (.lit 16))) (.ite (.tr (.var 5)) (.lit 4) (.lit 0))) (.lit 2)) (.ite (.cmp .Lt (.var 3) (.lit 0)) (.lit 1) (.lit 0)))) rfl (by repeat' (first | kernel_rfl! | constructor)) (by repeat' (first | kernel_rfl! | constructor)) (by repeat' (first | kernel_rfl! | constructor)) ?_
    repeat' (first | exact trivial | exact rfl | exact z1 | exact z2 | exact z4 | exact z8 | exact z16 | exact l11 | intro _ | refine ⟨?_, ?_⟩)

theorem a16_ok (x y f : Int) : CallOK PySem.Challenge.rw_xm0998_01.row.prog w (hd.heap_39 w.params) p loose mean mg mb 2 56 [x, y, f] (.tup [a16R x y, a16F x y f]) := by
  refine fn_ok (d := 1) (S := ⟨_, CN, FN, GF 1⟩) (xs := ["x", "y", "f"]) (by exact rfl) (by kernel_rfl!) ?_ (by decide +kernel) (by decide +kernel) rfl rfl rfl (by decide) (so1 rfl) ?_
  · intro s vs hi
    obtain ⟨t, u, v, rfl⟩ := ints3 hi
    exact BindsTo.of_eq rfl
  · refine body_ret2 2 40 (vars := ["x", "y", "f", "whole", "r"]) (ca := (.set 3 (.bin .Add (.var 0) (.var 1)) (.set 4 (.bin .BitAnd (.var 3) (.lit 65535)) .nil))) (c1 := (.var 4)) (c2 := (.bin .BitOr (.bin .BitOr (.bin .BitAnd (.var 2) (.lit 196)) (.call3 4 (.var 0) (.var 1) (.var 4))) (.bin .RShift (.var 3) (.lit 16)))) rfl (by repeat' (first | kernel_rfl! | constructor)) (by repeat' (first | kernel_rfl! | constructor)) (by repeat' (first | kernel_rfl! | constructor)) ?_
    repeat' (first | exact trivial | exact rfl | exact z1 | exact z2 | exact z4 | exact z8 | exact z16 | exact l11 | intro _ | refine ⟨?_, ?_⟩)

theorem rot_ok (k v f : Int) (hk : kindOk [k, v, f]) : CallOK PySem.Challenge.rw_xm0998_01.row.prog w (hd.heap_39 w.params) p loose mean mg mb 2 77 [k, v, f] (.tup [tuR k v f, roF k v f]) := by
  refine fn_ok (d := 1) (S := ⟨_, CN, FN, GF 1⟩) (xs := ["kind", "v", "f"]) (by exact rfl) (by kernel_rfl!) ?_ (by decide +kernel) (by decide +kernel) rfl rfl rfl (by decide) (so1 rfl) ?_
  · intro s vs hi
    obtain ⟨t, u, v, rfl⟩ := ints3 hi
    exact BindsTo.of_eq rfl
  · refine body_ret2 1 40 (vars := ["kind", "v", "f", "r", "out"]) (ca := (.setT 3 4 (.call3 7 (.var 0) (.var 1) (.var 2)) .nil)) (c1 := (.var 3)) (c2 := (.bin .BitOr (.bin .BitOr (.call1 1 (.var 3)) (.call1 0 (.var 3))) (.var 4))) rfl (by repeat' (first | kernel_rfl! | constructor)) (by repeat' (first | kernel_rfl! | constructor)) (by repeat' (first | kernel_rfl! | constructor)) ?_
    repeat' (first | exact trivial | exact rfl | exact z1 | exact z2 | exact z4 | exact z8 | exact z16 | exact l11 | exact hk | intro _ | refine ⟨?_, ?_⟩)
end
end Mine

namespace Mine
section
variable {w : World} {p : Program} {loose : List Str} {mean : ExcName → Option Value} {mg mb : Str → Option Value}

theorem len1 (x : Int) : [x].length = 1 := rfl
theorem daRv {a f : Int} {b1 b2 b3 : Bool} (h1 : ((Builtin.bitAnd f 16 != 0) || decide (9 < Builtin.bitAnd a 15)) = b1) (h2 : ((Builtin.bitAnd f 1 != 0) || decide (153 < a)) = b2) (h3 : (Builtin.bitAnd f 2 != 0) = b3) :
    daR a f = (if b3 = true then Builtin.bitAnd (a - (if b2 = true then (if b1 = true then 6 else 0) + 96 else (if b1 = true then 6 else 0))) 255 else Builtin.bitAnd (a + (if b2 = true then (if b1 = true then 6 else 0) + 96 else (if b1 = true then 6 else 0))) 255) := by
  subst h1 h2 h3; rfl
theorem daFv {a f : Int} {b1 b2 b3 : Bool} (h1 : ((Builtin.bitAnd f 16 != 0) || decide (9 < Builtin.bitAnd a 15)) = b1) (h2 : ((Builtin.bitAnd f 1 != 0) || decide (153 < a)) = b2) (h3 : (Builtin.bitAnd f 2 != 0) = b3) :
    daF a f = Builtin.bitOr (Builtin.bitOr (Builtin.bitOr (Builtin.bitOr
      (szI (if b3 = true then Builtin.bitAnd (a - (if b2 = true then (if b1 = true then 6 else 0) + 96 else (if b1 = true then 6 else 0))) 255 else Builtin.bitAnd (a + (if b2 = true then (if b1 = true then 6 else 0) + 96 else (if b1 = true then 6 else 0))) 255))
      (parI (if b3 = true then Builtin.bitAnd (a - (if b2 = true then (if b1 = true then 6 else 0) + 96 else (if b1 = true then 6 else 0))) 255 else Builtin.bitAnd (a + (if b2 = true then (if b1 = true then 6 else 0) + 96 else (if b1 = true then 6 else 0))) 255)))
      (if b3 = true then (if ((Builtin.bitAnd f 16 != 0) && decide (Builtin.bitAnd a 15 < 6)) = true then 16 else 0) else (if decide (9 < Builtin.bitAnd a 15) = true then 16 else 0))) (Builtin.bitAnd f 2)) (if b2 = true then 1 else Builtin.bitAnd f 1) := by
  subst h1 h2 h3; rfl

theorem daa_ok (a f : Int) : CallOK PySem.Challenge.rw_xm0998_01.row.prog w (hd.heap_39 w.params) p loose mean mg mb 2 63 [a, f] (.tup [daR a f, daF a f]) := by
  refine fn_ok (d := 1) (S := ⟨_, CN, FN, GF 1⟩) (xs := ["a", "f"]) (by exact rfl) (by kernel_rfl!) ?_ (by decide +kernel) (by decide +kernel) rfl rfl rfl (by decide) (so1 rfl) ?_
  · intro s vs hi
    obtain ⟨t, u, rfl⟩ := ints2' hi
    exact BindsTo.of_eq rfl
  · refine body_ret2 4 40 (vars := ["a", "f", "low", "way", "carry", "r", "half"]) (ca := (.par3 2 3 4 (.bin .BitAnd (.var 0) (.lit 15)) (.lit 0) (.bin .BitAnd (.var 1) (.lit 1)) (.ite (.or (.tr (.bin .BitAnd (.var 1) (.lit 16))) (.cmp .Gt (.var 2) (.lit 9))) (.set 3 (.lit 6) .nil) .nil (.ite (.or (.tr (.var 4)) (.cmp .Gt (.var 0) (.lit 153))) (.par2 3 4 (.bin .Add (.var 3) (.lit 96)) (.lit 1) .nil) .nil (.ite (.tr (.bin .BitAnd (.var 1) (.lit 2))) (.par2 5 6 (.bin .BitAnd (.bin .Sub (.var 0) (.var 3)) (.lit 255)) (.ite (.and (.tr (.bin .BitAnd (.var 1) (.lit 16))) (.cmp .Lt (.var 2) (.lit 6))) (.lit 16) (.lit 0)) .nil) (.par2 5 6 (.bin .BitAnd (.bin .Add (.var 0) (.var 3)) (.lit 255)) (.ite (.cmp .Gt (.var 2) (.lit 9)) (.lit 16) (.lit 0)) .nil) .nil))))) (c1 := (.var 5)) (c2 := (.bin .BitOr (.bin .BitOr (.bin .BitOr (.bin .BitOr (.call1 1 (.var 5)) (.call1 0 (.var 5))) (.var 6)) (.bin .BitAnd (.var 1) (.lit 2))) (.var 4))) rfl (by repeat' (first | kernel_rfl! | constructor)) (by repeat' (first | kernel_rfl! | constructor)) (by repeat' (first | kernel_rfl! | constructor)) ?_
    repeat' (first | exact trivial | exact z1 | exact z2 | exact z4 | exact z8 | exact z16 | exact l11 | exact len1 _ | (intro h) | refine And.intro ?_ ?_)
    all_goals (rename_i h1 h2; (have e1 := daRv (a := a) (f := f) h1 h2 h); (have e2 := daFv (a := a) (f := f) h1 h2 h); first | ((with_reducible refine Eq.trans ?_ e1.symm); kernel_rfl!) | ((with_reducible refine Eq.trans ?_ e2.symm); kernel_rfl!))
end
end Mine

namespace Mine
/-- the k-th bit -/
def tb (x : Int) (k : Nat) : Bool := decide (x / 2 ^ k % 2 = 1)

theorem tb_nat {x : Int} (h : 0 ≤ x) (k : Nat) : tb x k = x.toNat.testBit k := by
  rw [Nat.testBit_eq_decide_div_mod_eq]
  unfold tb
  obtain ⟨n, rfl⟩ := Int.eq_ofNat_of_zero_le h
  rw [Int.toNat_natCast]
  have : ((n : Int) / 2 ^ k % 2) = ((n / 2 ^ k % 2 : Nat) : Int) := by push_cast; rfl
  rw [this]
  congr 1
  rw [eq_iff_iff]
  omega
theorem nn_and {x y : Int} (_ : 0 ≤ x) (hy : 0 ≤ y) : 0 ≤ Builtin.bitAnd x y := (bitAnd_range x hy).1
theorem or_nat {x y : Int} (hx : 0 ≤ x) (hy : 0 ≤ y) : Builtin.bitOr x y = ((x.toNat ||| y.toNat : Nat) : Int) := by
  rw [bitOr_and, bitAnd_pp hx hy]
  have := nat_or_add_and x.toNat y.toNat
  omega
theorem nat_xor_add_and (m : Nat) : ∀ n : Nat, (m ^^^ n) + (m &&& n) = m ||| n := by
  induction m using Nat.strongRecOn with
  | ind m ih =>
    intro n
    by_cases h0 : m = 0
    · subst h0; simp
    · have ih' := ih (m / 2) (by omega) (n / 2)
      rw [← Nat.or_div_two, ← Nat.and_div_two, ← Nat.xor_div_two] at ih'
      have o1 := @Nat.or_mod_two_eq_one m n
      have a1 := @Nat.and_mod_two_eq_one m n
      have x1 := @Nat.xor_mod_two_eq_one m n
      omega
theorem xor_nat {x y : Int} (hx : 0 ≤ x) (hy : 0 ≤ y) : Builtin.bitXor x y = ((x.toNat ^^^ y.toNat : Nat) : Int) := by
  rw [bitXor_and, bitAnd_pp hx hy]
  have h1 := nat_or_add_and x.toNat y.toNat
  have h2 := nat_xor_add_and x.toNat y.toNat
  omega
theorem nn_or {x y : Int} (hx : 0 ≤ x) (hy : 0 ≤ y) : 0 ≤ Builtin.bitOr x y := by rw [or_nat hx hy]; omega
theorem nn_xor {x y : Int} (hx : 0 ≤ x) (hy : 0 ≤ y) : 0 ≤ Builtin.bitXor x y := by rw [xor_nat hx hy]; omega
theorem lt_or {x y : Int} (n : Nat) (hx : 0 ≤ x) (hy : 0 ≤ y) (hx' : x < 2 ^ n) (hy' : y < 2 ^ n) : Builtin.bitOr x y < 2 ^ n := by
  rw [or_nat hx hy]
  have : x.toNat ||| y.toNat < 2 ^ n := Nat.or_lt_two_pow (by have : ((2 ^ n : Nat) : Int) = 2 ^ n := by push_cast; rfl
                                                              omega) (by have : ((2 ^ n : Nat) : Int) = 2 ^ n := by push_cast; rfl
                                                                         omega)
  have e : ((2 ^ n : Nat) : Int) = 2 ^ n := by push_cast; rfl
  omega
theorem tb_and {x y : Int} (hx : 0 ≤ x) (hy : 0 ≤ y) (k : Nat) : tb (Builtin.bitAnd x y) k = (tb x k && tb y k) := by
  rw [tb_nat (nn_and hx hy), tb_nat hx, tb_nat hy, bitAnd_pp hx hy, Int.toNat_natCast, Nat.testBit_and]
theorem tb_or {x y : Int} (hx : 0 ≤ x) (hy : 0 ≤ y) (k : Nat) : tb (Builtin.bitOr x y) k = (tb x k || tb y k) := by
  rw [tb_nat (nn_or hx hy), tb_nat hx, tb_nat hy, or_nat hx hy, Int.toNat_natCast, Nat.testBit_or]
theorem tb_xor {x y : Int} (hx : 0 ≤ x) (hy : 0 ≤ y) (k : Nat) : tb (Builtin.bitXor x y) k = (tb x k ^^ tb y k) := by
  rw [tb_nat (nn_xor hx hy), tb_nat hx, tb_nat hy, xor_nat hx hy, Int.toNat_natCast, Nat.testBit_xor]
theorem tb_ite {c : Bool} {x y : Int} (k : Nat) : tb (if c = true then x else y) k = if c = true then tb x k else tb y k := by cases c <;> rfl

/-- a bit asked by its power -/
theorem and_pow_ne (x : Int) (k : Nat) : (Builtin.bitAnd x (2 ^ k) != 0) = tb x k := by
  rw [kbt_bit]
  unfold tb
  have h : x / 2 ^ k % 2 = 0 ∨ x / 2 ^ k % 2 = 1 := by omega
  have hp : (2 : Int) ^ k ≠ 0 := by
    have : (0 : Int) < 2 ^ k := Int.pow_pos (by decide)
    omega
  rcases h with h | h <;> rw [h] <;> simp [hp]
theorem mod_tb (x : Int) : x % 2 = if tb x 0 = true then 1 else 0 := by
  unfold tb
  have : x / 2 ^ 0 = x := by simp
  rw [this]
  split <;> simp_all <;> omega
end Mine

namespace Mine
theorem and128 (x : Int) : (Builtin.bitAnd x 128 != 0) = tb x 7 := and_pow_ne x 7
theorem and16 (x : Int) : (Builtin.bitAnd x 16 != 0) = tb x 4 := and_pow_ne x 4
theorem and4 (x : Int) : (Builtin.bitAnd x 4 != 0) = tb x 2 := and_pow_ne x 2
theorem and2 (x : Int) : (Builtin.bitAnd x 2 != 0) = tb x 1 := and_pow_ne x 1
theorem and1 (x : Int) : Builtin.bitAnd x 1 = x % 2 := bitAnd_m1 x
theorem fdiv8 (x : Int) : x.fdiv (2 ^ Int.toNat 8) = x / 256 := Int.fdiv_eq_ediv_of_nonneg x (by decide)
theorem fdiv16 (x : Int) : x.fdiv (2 ^ Int.toNat 16) = x / 65536 := Int.fdiv_eq_ediv_of_nonneg x (by decide)
theorem fdiv1 (x : Int) : x.fdiv (2 ^ Int.toNat 1) = x / 2 := Int.fdiv_eq_ediv_of_nonneg x (by decide)
theorem fdiv7 (x : Int) : x.fdiv (2 ^ Int.toNat 7) = x / 128 := Int.fdiv_eq_ediv_of_nonneg x (by decide)

theorem tb0 {x : Int} (h : x = 0 ∨ x = 1) {k : Nat} (hk : k ≠ 0) : tb x k = false := by
  obtain ⟨j, rfl⟩ := Nat.exists_eq_succ_of_ne_zero hk
  unfold tb
  have hp : (0 : Int) < 2 ^ j := Int.pow_pos (by decide)
  have hq : (2 : Int) ^ (j + 1) = 2 * 2 ^ j := by rw [Int.pow_succ]; omega
  have : x / 2 ^ (j + 1) = 0 := Int.ediv_eq_zero_of_lt (by omega) (by rw [hq]; omega)
  show decide (x / 2 ^ (j + 1) % 2 = 1) = false
  rw [this]; rfl

theorem sz_nn {v : Int} (hv : 0 ≤ v) : 0 ≤ szI v := by
  unfold szI
  exact nn_or (nn_and hv (by decide)) (by split <;> decide)
theorem sz_lt {v : Int} (hv : 0 ≤ v) : szI v < 256 := by
  unfold szI
  refine lt_or 8 (nn_and hv (by decide)) (by split <;> decide) ?_ (by split <;> decide)
  have := (bitAnd_range v (y := Builtin.bitOr 128 40) (by decide)).2
  have e : Builtin.bitOr 128 40 = 168 := by decide
  rw [e] at this ⊢
  omega
theorem sz_tb {v : Int} (hv : 0 ≤ v) (k : Nat) : tb (szI v) k = ((tb v k && tb 168 k) || (if (v == 0) = true then tb 64 k else tb 0 k)) := by
  unfold szI
  rw [tb_or (nn_and hv (by decide)) (by split <;> decide), tb_and hv (by decide), tb_ite]
  rfl
theorem par_or (v : Int) : parI v = 0 ∨ parI v = 4 := by
  unfold parI
  simp only
  split
  · exact .inl rfl
  · exact .inr rfl

theorem t0 (k : Nat) : tb 0 k = false := by unfold tb; simp

section
variable {a b c : Int}
theorem addR_v : addR a b c = (a + b + c) % 256 := bitAnd_m8 _
theorem subR_v : subR a b c = (a - b - c) % 256 := bitAnd_m8 _
theorem a16R_v : a16R a b = (a + b) % 65536 := bitAnd_m16 _

theorem addF_tb (ha : 0 ≤ a) (hb : 0 ≤ b) (hc : 0 ≤ c) (k : Nat) : tb (addF a b c) k =
    (((tb (szI (addR a b c)) k || (((tb a k ^^ tb b k) ^^ tb (addR a b c) k) && tb 16 k)) ||
      (if ((tb a 7 ^^ tb (addR a b c) 7) && (tb b 7 ^^ tb (addR a b c) 7)) = true then tb 4 k else tb 0 k)) || tb ((a + b + c) / 256) k) := by
  have hr : 0 ≤ addR a b c := by rw [addR_v]; omega
  have hs := sz_nn hr
  unfold addF
  rw [fdiv8, and128, tb_and (nn_xor ha hr) (nn_xor hb hr), tb_xor ha hr, tb_xor hb hr]
  have h1 : 0 ≤ Builtin.bitAnd (Builtin.bitXor (Builtin.bitXor a b) (addR a b c)) 16 := nn_and (nn_xor (nn_xor ha hb) hr) (by decide)
  have h2 := nn_or hs h1
  have h3 : (0 : Int) ≤ (if ((tb a 7 ^^ tb (addR a b c) 7) && (tb b 7 ^^ tb (addR a b c) 7)) = true then 4 else 0) := by split <;> decide
  rw [tb_or (nn_or h2 h3) (by omega), tb_or h2 h3, tb_or hs h1, tb_and (nn_xor (nn_xor ha hb) hr) (by decide), tb_xor (nn_xor ha hb) hr, tb_xor ha hb, tb_ite]
theorem addF_rng (ha : 0 ≤ a) (hb : 0 ≤ b) (hc : 0 ≤ c) (ha' : a < 256) (hb' : b < 256) (hc' : c ≤ 1) : 0 ≤ addF a b c ∧ addF a b c < 256 := by
  have hr : 0 ≤ addR a b c := by rw [addR_v]; omega
  have hs := sz_nn hr
  have hs' := sz_lt hr
  unfold addF
  rw [fdiv8]
  have h1 : 0 ≤ Builtin.bitAnd (Builtin.bitXor (Builtin.bitXor a b) (addR a b c)) 16 := nn_and (nn_xor (nn_xor ha hb) hr) (by decide)
  have h1' := (bitAnd_range (Builtin.bitXor (Builtin.bitXor a b) (addR a b c)) (y := 16) (by decide)).2
  have h2 := nn_or hs h1
  have h2' := lt_or 8 hs h1 (by omega) (by omega)
  have h3 : (0 : Int) ≤ (if (Builtin.bitAnd (Builtin.bitAnd (Builtin.bitXor a (addR a b c)) (Builtin.bitXor b (addR a b c))) 128 != 0) = true then 4 else 0) := by split <;> decide
  have h3' : (if (Builtin.bitAnd (Builtin.bitAnd (Builtin.bitXor a (addR a b c)) (Builtin.bitXor b (addR a b c))) 128 != 0) = true then (4 : Int) else 0) < 2 ^ 8 := by split <;> decide
  exact ⟨nn_or (nn_or h2 h3) (by omega), lt_or 8 (nn_or h2 h3) (by omega) (lt_or 8 h2 h3 h2' h3') (by omega)⟩

theorem subF_tb (ha : 0 ≤ a) (hb : 0 ≤ b) (k : Nat) : tb (subF a b c) k =
    ((((tb (szI (subR a b c)) k || (((tb a k ^^ tb b k) ^^ tb (subR a b c) k) && tb 16 k)) ||
      (if ((tb a 7 ^^ tb b 7) && (tb a 7 ^^ tb (subR a b c) 7)) = true then tb 4 k else tb 0 k)) || tb 2 k) || (if decide (a - b - c < 0) = true then tb 1 k else tb 0 k)) := by
  have hr : 0 ≤ subR a b c := by rw [subR_v]; omega
  have hs := sz_nn hr
  unfold subF
  rw [and128, tb_and (nn_xor ha hb) (nn_xor ha hr), tb_xor ha hb, tb_xor ha hr]
  have h1 : 0 ≤ Builtin.bitAnd (Builtin.bitXor (Builtin.bitXor a b) (subR a b c)) 16 := nn_and (nn_xor (nn_xor ha hb) hr) (by decide)
  have h2 := nn_or hs h1
  have h3 : (0 : Int) ≤ (if ((tb a 7 ^^ tb b 7) && (tb a 7 ^^ tb (subR a b c) 7)) = true then 4 else 0) := by split <;> decide
  have h4 := nn_or h2 h3
  rw [tb_or (nn_or h4 (by decide)) (by split <;> decide), tb_or h4 (by decide), tb_or h2 h3, tb_or hs h1, tb_and (nn_xor (nn_xor ha hb) hr) (by decide), tb_xor (nn_xor ha hb) hr, tb_xor ha hb, tb_ite, tb_ite]
theorem subF_rng (ha : 0 ≤ a) (hb : 0 ≤ b) : 0 ≤ subF a b c ∧ subF a b c < 256 := by
  have hr : 0 ≤ subR a b c := by rw [subR_v]; omega
  have hs := sz_nn hr
  have hs' := sz_lt hr
  unfold subF
  have h1 : 0 ≤ Builtin.bitAnd (Builtin.bitXor (Builtin.bitXor a b) (subR a b c)) 16 := nn_and (nn_xor (nn_xor ha hb) hr) (by decide)
  have h1' := (bitAnd_range (Builtin.bitXor (Builtin.bitXor a b) (subR a b c)) (y := 16) (by decide)).2
  have h2 := nn_or hs h1
  have h2' := lt_or 8 hs h1 (by omega) (by omega)
  have h3 : (0 : Int) ≤ (if (Builtin.bitAnd (Builtin.bitAnd (Builtin.bitXor a b) (Builtin.bitXor a (subR a b c))) 128 != 0) = true then 4 else 0) := by split <;> decide
  have h3' : (if (Builtin.bitAnd (Builtin.bitAnd (Builtin.bitXor a b) (Builtin.bitXor a (subR a b c))) 128 != 0) = true then (4 : Int) else 0) < 2 ^ 8 := by split <;> decide
  have h4 := nn_or h2 h3
  have h4' := lt_or 8 h2 h3 h2' h3'
  have h5 := nn_or h4 (y := 2) (by decide)
  have h5' := lt_or 8 h4 (y := 2) (by decide) h4' (by decide)
  exact ⟨nn_or h5 (by split <;> decide), lt_or 8 h5 (by split <;> decide) h5' (by split <;> decide)⟩
end
end Mine

namespace Mine
theorem tl_168_0 : tb 168 0 = false := by decide
theorem tl_168_1 : tb 168 1 = false := by decide
theorem tl_168_2 : tb 168 2 = false := by decide
theorem tl_168_4 : tb 168 4 = false := by decide
theorem tl_168_7 : tb 168 7 = true := by decide
theorem tl_64_0 : tb 64 0 = false := by decide
theorem tl_64_1 : tb 64 1 = false := by decide
theorem tl_64_2 : tb 64 2 = false := by decide
theorem tl_64_4 : tb 64 4 = false := by decide
theorem tl_64_7 : tb 64 7 = false := by decide
theorem tl_16_0 : tb 16 0 = false := by decide
theorem tl_16_1 : tb 16 1 = false := by decide
theorem tl_16_2 : tb 16 2 = false := by decide
theorem tl_16_4 : tb 16 4 = true := by decide
theorem tl_16_7 : tb 16 7 = false := by decide
theorem tl_4_0 : tb 4 0 = false := by decide
theorem tl_4_1 : tb 4 1 = false := by decide
theorem tl_4_2 : tb 4 2 = true := by decide
theorem tl_4_4 : tb 4 4 = false := by decide
theorem tl_4_7 : tb 4 7 = false := by decide
theorem tl_2_0 : tb 2 0 = false := by decide
theorem tl_2_1 : tb 2 1 = true := by decide
theorem tl_2_2 : tb 2 2 = false := by decide
theorem tl_2_4 : tb 2 4 = false := by decide
theorem tl_2_7 : tb 2 7 = false := by decide
theorem tl_1_0 : tb 1 0 = true := by decide
theorem tl_1_1 : tb 1 1 = false := by decide
theorem tl_1_2 : tb 1 2 = false := by decide
theorem tl_1_4 : tb 1 4 = false := by decide
theorem tl_1_7 : tb 1 7 = false := by decide

theorem tb7 {x : Int} (h0 : 0 ≤ x) (h1 : x < 256) : tb x 7 = decide (128 ≤ x) := by
  have : tb x 7 = decide (x / 128 % 2 = 1) := rfl
  rw [this]
  exact decide_eq_decide.mpr (by omega)
theorem tb4 (x : Int) : tb x 4 = decide (x / 16 % 2 = 1) := rfl
theorem tb00 (x : Int) : tb x 0 = decide (x % 2 = 1) := by
  have : tb x 0 = decide (x / 1 % 2 = 1) := rfl
  rw [this, Int.ediv_one]

section
variable {a b c : Int}
theorem add_c (ha : 0 ≤ a) (hb : 0 ≤ b) (hc : 0 ≤ c) (ha' : a < 256) (hb' : b < 256) (hc' : c ≤ 1) : addF a b c % 2 = (a + b + c) / 256 := by
  have hr : 0 ≤ addR a b c := by rw [addR_v]; omega
  rw [mod_tb, addF_tb ha hb hc, sz_tb hr]
  simp only [tl_168_0, tl_64_0, tl_16_0, tl_4_0, tl_2_0, tl_1_0, t0, Bool.and_false, Bool.or_false, Bool.false_or, ite_self]
  rw [tb00]
  split <;> rename_i h <;> simp only [decide_eq_true_eq] at h <;> omega
theorem add_s (ha : 0 ≤ a) (hb : 0 ≤ b) (hc : 0 ≤ c) (ha' : a < 256) (hb' : b < 256) (hc' : c ≤ 1) : tb (addF a b c) 7 = decide (128 ≤ (a + b + c) % 256) := by
  have hr : 0 ≤ addR a b c := by rw [addR_v]; omega
  rw [addF_tb ha hb hc, sz_tb hr, tb0 (x := (a + b + c) / 256) (by omega) (by decide)]
  simp only [tl_168_7, tl_64_7, tl_16_7, tl_4_7, tl_2_7, tl_1_7, t0, Bool.and_false, Bool.or_false, Bool.false_or, ite_self, Bool.and_true]
  rw [addR_v, tb7 (by omega) (by omega)]
theorem add_v (ha : 0 ≤ a) (hb : 0 ≤ b) (hc : 0 ≤ c) (ha' : a < 256) (hb' : b < 256) (hc' : c ≤ 1) : tb (addF a b c) 2 = decide ((a < 128 ∧ b < 128 ∧ 128 ≤ (a + b + c) % 256) ∨ (128 ≤ a ∧ 128 ≤ b ∧ (a + b + c) % 256 < 128)) := by
  have hr : 0 ≤ addR a b c := by rw [addR_v]; omega
  rw [addF_tb ha hb hc, sz_tb hr, tb0 (x := (a + b + c) / 256) (by omega) (by decide)]
  simp only [tl_168_2, tl_64_2, tl_16_2, tl_4_2, tl_2_2, tl_1_2, t0, Bool.and_false, Bool.or_false, Bool.false_or, ite_self, Bool.and_true]
  rw [addR_v, tb7 ha ha', tb7 hb hb', tb7 (x := (a + b + c) % 256) (by omega) (by omega)]
  by_cases h1 : 128 ≤ a <;> by_cases h2 : 128 ≤ b <;> by_cases h3 : 128 ≤ (a + b + c) % 256 <;> simp [h1, h2, h3] <;> omega
theorem add_h (ha : 0 ≤ a) (hb : 0 ≤ b) (hc : 0 ≤ c) (ha' : a < 256) (hb' : b < 256) (hc' : c ≤ 1) : tb (addF a b c) 4 = decide (16 ≤ a % 16 + b % 16 + c) := by
  have hr : 0 ≤ addR a b c := by rw [addR_v]; omega
  rw [addF_tb ha hb hc, sz_tb hr, tb0 (x := (a + b + c) / 256) (by omega) (by decide)]
  simp only [tl_168_4, tl_64_4, tl_16_4, tl_4_4, tl_2_4, tl_1_4, t0, Bool.and_false, Bool.or_false, Bool.false_or, ite_self, Bool.and_true]
  rw [addR_v, tb4, tb4, tb4]
  by_cases h1 : a / 16 % 2 = 1 <;> by_cases h2 : b / 16 % 2 = 1 <;> by_cases h3 : (a + b + c) % 256 / 16 % 2 = 1 <;> simp [h1, h2, h3] <;> omega
theorem add_n (ha : 0 ≤ a) (hb : 0 ≤ b) (hc : 0 ≤ c) (ha' : a < 256) (hb' : b < 256) (hc' : c ≤ 1) : tb (addF a b c) 1 = false := by
  have hr : 0 ≤ addR a b c := by rw [addR_v]; omega
  rw [addF_tb ha hb hc, sz_tb hr, tb0 (x := (a + b + c) / 256) (by omega) (by decide)]
  simp only [tl_168_1, tl_64_1, tl_16_1, tl_4_1, tl_2_1, tl_1_1, t0, Bool.and_false, Bool.or_false, Bool.false_or, ite_self, Bool.and_true]

theorem sub_c (ha : 0 ≤ a) (hb : 0 ≤ b) : subF a b c % 2 = if a - b - c < 0 then 1 else 0 := by
  have hr : 0 ≤ subR a b c := by rw [subR_v]; omega
  rw [mod_tb, subF_tb ha hb, sz_tb hr]
  simp only [tl_168_0, tl_64_0, tl_16_0, tl_4_0, tl_2_0, tl_1_0, t0, Bool.and_false, Bool.or_false, Bool.false_or, ite_self]
  by_cases h : a - b - c < 0 <;> simp [h]
theorem sub_s (ha : 0 ≤ a) (hb : 0 ≤ b) : tb (subF a b c) 7 = decide (128 ≤ (a - b - c) % 256) := by
  have hr : 0 ≤ subR a b c := by rw [subR_v]; omega
  rw [subF_tb ha hb, sz_tb hr]
  simp only [tl_168_7, tl_64_7, tl_16_7, tl_4_7, tl_2_7, tl_1_7, t0, Bool.and_false, Bool.or_false, Bool.false_or, ite_self, Bool.and_true]
  rw [subR_v, tb7 (by omega) (by omega)]
theorem sub_v (ha : 0 ≤ a) (hb : 0 ≤ b) (ha' : a < 256) (hb' : b < 256) : tb (subF a b c) 2 = decide ((a < 128 ∧ 128 ≤ b ∧ 128 ≤ (a - b - c) % 256) ∨ (128 ≤ a ∧ b < 128 ∧ (a - b - c) % 256 < 128)) := by
  have hr : 0 ≤ subR a b c := by rw [subR_v]; omega
  rw [subF_tb ha hb, sz_tb hr]
  simp only [tl_168_2, tl_64_2, tl_16_2, tl_4_2, tl_2_2, tl_1_2, t0, Bool.and_false, Bool.or_false, Bool.false_or, ite_self, Bool.and_true]
  rw [subR_v, tb7 ha ha', tb7 hb hb', tb7 (x := (a - b - c) % 256) (by omega) (by omega)]
  by_cases h1 : 128 ≤ a <;> by_cases h2 : 128 ≤ b <;> by_cases h3 : 128 ≤ (a - b - c) % 256 <;> simp [h1, h2, h3] <;> omega
end

/-! turning -/
theorem bit_or_low {x y : Int} (hx : x % 2 = 0) (hy : y = 0 ∨ y = 1) : Builtin.bitOr x y = x + y := by
  rw [bitOr_and]
  rcases hy with rfl | rfl
  · rw [bitAnd_zero]; omega
  · rw [and1]; omega
theorem bit_or_high {x y : Int} (hx0 : 0 ≤ x) (hx : x < 128) (hy : y = 0 ∨ y = 1) : Builtin.bitOr x (y * 128) = x + y * 128 := by
  rw [bitOr_and]
  rcases hy with rfl | rfl
  · rw [Int.zero_mul, bitAnd_zero]; omega
  · have := kbt_bit x 7
    have e : Builtin.bitAnd x 128 = x / 128 % 2 * 128 := this
    rw [Int.one_mul, e]; omega
theorem tu2 {v f : Int} : tuR 2 v f = v * 2 % 256 + f % 2 ∧ tuO 2 v = v / 128 := by
  unfold tuR tuO
  rw [if_pos rfl, if_pos rfl, fdiv7]
  have e : Builtin.bitAnd (v * 2 ^ Int.toNat 1) 255 = v * 2 % 256 := bitAnd_m8 _
  rw [e, and1, bit_or_low (by omega) (by omega)]
  exact ⟨rfl, rfl⟩
theorem tu3 {v f : Int} (h0 : 0 ≤ v) (h1 : v < 256) : tuR 3 v f = v / 2 + f % 2 * 128 ∧ tuO 3 v = v % 2 := by
  unfold tuR tuO
  rw [if_neg (by decide), if_neg (by decide), fdiv1, and1, and1]
  have e : Builtin.bitOr (v / 2) (f % 2 * 2 ^ Int.toNat 7) = Builtin.bitOr (v / 2) (f % 2 * 128) := rfl
  rw [e, bit_or_high (by omega) (by omega) (by omega)]
  exact ⟨rfl, rfl⟩
theorem ro_gen {k v f : Int} (hr : 0 ≤ tuR k v f) (ho : tuO k v = 0 ∨ tuO k v = 1) : (0 ≤ roF k v f ∧ roF k v f < 256) ∧ roF k v f % 2 = tuO k v := by
  have hs := sz_nn hr
  have hs' := sz_lt hr
  have hp : 0 ≤ parI (tuR k v f) ∧ parI (tuR k v f) < 2 ^ 8 := by rcases par_or (tuR k v f) with h | h <;> rw [h] <;> decide
  have h1 := nn_or hs hp.1
  have h1' := lt_or 8 hs hp.1 hs' hp.2
  refine ⟨⟨nn_or h1 (by omega), lt_or 8 h1 (by omega) h1' (by omega)⟩, ?_⟩
  have : roF k v f = Builtin.bitOr (Builtin.bitOr (szI (tuR k v f)) (parI (tuR k v f))) (tuO k v) := rfl
  rw [this, mod_tb, tb_or h1 (by omega), tb_or hs hp.1, sz_tb hr]
  have e : tb (parI (tuR k v f)) 0 = false := by rcases par_or (tuR k v f) with h | h <;> rw [h] <;> decide
  simp only [tl_168_0, tl_64_0, tl_16_0, tl_4_0, tl_2_0, tl_1_0, e, t0, Bool.and_false, Bool.or_false, Bool.false_or, ite_self]
  rw [tb00]
  rcases ho with h | h <;> rw [h] <;> decide
end Mine

namespace Mine
section
variable {w : World} {p : Program} {loose : List Str} {mean : ExcName → Option Value} {mg mb : Str → Option Value}
theorem l12 : 1 ≤ 2 := by decide
theorem l22 : 2 ≤ 2 := by decide
theorem so2 {sc : Scope} (hk : sc.kind = .function) : SOK PySem.Challenge.rw_xm0998_01.row.prog w (hd.heap_39 w.params) p loose mean mg mb 2 ⟨sc, CN, FN, GF 2⟩ :=
  { hk := hk, consts := ckC_ok (consts_ok w.params), fns := ckF_ok (fns_ok w.params 2), ok := fun g args h => by
      match g, args, h with
      | 0, [x], _ => exact (par_ok w.params x).up _ _ _ _ _ _ _ _ l12
      | 1, [x], _ => exact (sz_ok w.params x).up _ _ _ _ _ _ _ _ l12
      | 2, [x, y, z], _ => exact add_ok x y z
      | 3, [x, y, z], _ => exact sub_ok x y z
      | 4, [x, y, z], _ => exact (hi_ok w.params x y z).up _ _ _ _ _ _ _ _ l12
      | 5, [x, y, z], _ => exact a16_ok x y z
      | 6, [x, y], _ => exact daa_ok x y
      | 7, [k, v, f], h =>
        obtain ⟨_, _, hk, hv, hf⟩ := h
        have hk' : k = 2 ∨ k = 3 := hk
        rcases hk' with rfl | rfl
        · exact (tur2 v f hv.1 hv.2 hf.1 hf.2).up _ _ _ _ _ _ _ _ l12
        · exact (tur3 v f hv.1 hv.2 hf.1 hf.2).up _ _ _ _ _ _ _ _ l12
      | 8, [k, v, f], h => exact rot_ok k v f h.2.2
      | 9, [x], _ => exact (sg_ok w.params x).up _ _ _ _ _ _ _ _ l12
      | _ + 10, _, h => exact h.elim }
end

theorem ne_f {x y : Int} (h : x = y) : (x != y) = false := by simp [h]
theorem eq_t {x y : Int} (h : (x == y) = true) : x = y := by simpa using h
theorem eq_f {x y : Int} (h : (x == y) = false) : x ≠ y := by simpa using h
theorem tn1 (i : Nat) : (1 + (i : Int)).toNat = i + 1 := by omega
theorem tn8 (i : Nat) : (8 - (1 + (i : Int))).toNat = 7 - i := by omega
theorem tnm (i : Nat) : (1 + (i : Int) - 1).toNat = i := by omega
theorem fd_pow (x : Int) (k : Nat) : x.fdiv (2 ^ k) = x / 2 ^ k := Int.fdiv_eq_ediv_of_nonneg x (Int.le_of_lt (Int.pow_pos (by decide)))
theorem fm_pow (x : Int) (k : Nat) : x.fmod (2 ^ k) = x % 2 ^ k := Int.fmod_eq_emod_of_nonneg x (Int.le_of_lt (Int.pow_pos (by decide)))
theorem pow_ne (k : Nat) : (1 : Int) * 2 ^ k ≠ 0 := by
  have : (0 : Int) < 2 ^ k := Int.pow_pos (by decide)
  omega
/-- what two turns to the right give -/
theorem ror {A F : Int} (hA : 0 ≤ A) (hA' : A < 256) : tuR 3 A F = A / 2 + F % 2 * 128 ∧ (0 ≤ roF 3 A F ∧ roF 3 A F < 256) ∧ roF 3 A F % 2 = A % 2 := by
  have h := tu3 (f := F) hA hA'
  have := ro_gen (k := 3) (v := A) (f := F) (by rw [h.1]; omega) (by rw [h.2]; omega)
  rw [h.2] at this
  exact ⟨h.1, this⟩
theorem rol {A F : Int} (hA : 0 ≤ A) (hA' : A < 256) : tuR 2 A F = A * 2 % 256 + F % 2 ∧ (0 ≤ roF 2 A F ∧ roF 2 A F < 256) ∧ roF 2 A F % 2 = A / 128 := by
  have h := tu2 (v := A) (f := F)
  have := ro_gen (k := 2) (v := A) (f := F) (by rw [h.1]; omega) (by rw [h.2]; omega)
  rw [h.2] at this
  exact ⟨h.1, this⟩
theorem md0 (x : Int) : 0 ≤ x % 256 := Int.emod_nonneg _ (by decide)
theorem md1 (x : Int) : x % 256 < 256 := Int.emod_lt_of_pos _ (by decide)
theorem b01 (x : Int) : x % 2 = 0 ∨ x % 2 = 1 := by omega
theorem addR_0 (a b c : Int) : 0 ≤ addR a b c := by rw [addR_v]; exact md0 _
theorem addR_1 (a b c : Int) : addR a b c < 256 := by rw [addR_v]; exact md1 _
theorem subR_0 (a b c : Int) : 0 ≤ subR a b c := by rw [subR_v]; exact md0 _
theorem subR_1 (a b c : Int) : subR a b c < 256 := by rw [subR_v]; exact md1 _
theorem t_r {A F : Int} (hA : 0 ≤ A) (hA' : A < 256) : 0 ≤ tuR 3 A F ∧ tuR 3 A F < 256 := by rw [(ror hA hA').1]; omega
theorem t_l {A F : Int} (hA : 0 ≤ A) (hA' : A < 256) : 0 ≤ tuR 2 A F ∧ tuR 2 A F < 256 := by rw [(rol hA hA').1]; omega
theorem t_l0 {A : Int} (hA : 0 ≤ A) (hA' : A < 256) : tuR 2 A 0 = A * 2 % 256 := by rw [(rol hA hA').1]; exact Int.add_zero _
theorem s_1 {i : Nat} (hi : i < 8) : 0 ≤ 1 + (i : Int) ∧ 1 + (i : Int) ≤ 1000000 := by omega
theorem s_8 {i : Nat} (hi : i < 8) : 0 ≤ 8 - (1 + (i : Int)) ∧ 8 - (1 + (i : Int)) ≤ 1000000 := by omega
theorem s_m (i : Nat) : 0 ≤ 1 + (i : Int) - 1 := by omega
theorem one64 : (1 : Int).natAbs < 2 ^ 64 := by decide
theorem na64 {x : Int} (_ : 0 ≤ x) (_ : x < 256) : x.natAbs < 2 ^ 64 := by omega
theorem na63 {x : Int} (_ : -256 ≤ x) (_ : x < 256) : x.natAbs < 2 ^ 63 := by omega
theorem na63' {x : Int} (_ : 0 ≤ x) (_ : x < 256) : x.natAbs < 2 ^ 63 := by omega
theorem e87 (i : Nat) : 8 - (i + 1) = 7 - i := by omega
theorem d01 {x : Int} (_ : 0 ≤ x) (_ : x < 256) : x / 128 = 0 ∨ x / 128 = 1 := by omega
theorem hz {r b : Int} (_ : 0 ≤ r) (_ : r < b) (_ : b ≤ 255) : (r - 0) % 256 = r := by omega
theorem hy {r b : Int} (_ : 0 ≤ r) (_ : r < b) (_ : b ≤ 255) : (r - b) % 256 = r - b + 256 := by omega
theorem le0 {b : Int} (_ : 1 ≤ b) : 0 ≤ b := by omega
theorem lt256 {b : Int} (_ : b ≤ 255) : b < 256 := by omega
end Mine

namespace Mine
/-! the powers at a turn -/
theorem pw {i : Nat} (hi : i < 8) : ∃ p q : Int, 0 < p ∧ 0 < q ∧ p * q = 128 ∧ (2 : Int) ^ i = p ∧ (2 : Int) ^ (i + 1) = p * 2 ∧ (2 : Int) ^ (7 - i) = q ∧ (2 : Int) ^ (8 - i) = q * 2 := by
  refine ⟨2 ^ i, 2 ^ (7 - i), Int.pow_pos (by decide), Int.pow_pos (by decide), ?_, rfl, Int.pow_succ .., rfl, ?_⟩
  · rw [← Int.pow_add, show i + (7 - i) = 7 by omega]; rfl
  · rw [show 8 - i = 7 - i + 1 by omega]; exact Int.pow_succ ..
theorem low_parts (x : Int) {p : Int} (hp : 0 < p) : x % (p * 2) = x % p + p * (x / p % 2) ∧ x / (p * 2) = x / p / 2 := by
  have e : x / (p * 2) = x / p / 2 := by rw [Int.ediv_ediv, if_neg (by omega), Int.sub_zero]
  refine ⟨?_, e⟩
  rw [Int.emod_def, Int.emod_def x p, Int.emod_def (x / p) 2, e, Int.mul_sub, Int.mul_assoc]
  omega
theorem rnd {p q : Int} (x c : Int) (hq : 0 < q) (hpq : p * q = 128) : (x + c * 128) / q = x / q + c * p ∧ (x + c * 128) % q = x % q := by
  rw [← hpq, ← Int.mul_assoc]
  exact ⟨Int.add_mul_ediv_right _ _ (by omega), Int.add_mul_emod_self_right _ _ _⟩
theorem half_mod {q : Int} (B : Int) (hq : 0 < q) : B / 2 % q = B % (q * 2) / 2 ∧ B % 2 = B % (q * 2) % 2 ∧ B / 2 / q = B / (q * 2) := by
  have h := Int.emod_add_mul_ediv B (q * 2)
  have h0 := Int.emod_nonneg B (b := q * 2) (by omega)
  have h1 := Int.emod_lt_of_pos B (b := q * 2) (by omega)
  have e : q * 2 * (B / (q * 2)) = B / (q * 2) * q * 2 := by rw [Int.mul_comm (q * 2), Int.mul_assoc]
  rw [e] at h
  refine ⟨?_, ?_, ?_⟩
  · have : B / 2 = B % (q * 2) / 2 + B / (q * 2) * q := by omega
    rw [this, Int.add_mul_emod_self_right]
    exact Int.emod_eq_of_lt (by omega) (by omega)
  · omega
  · have : B / 2 = B % (q * 2) / 2 + B / (q * 2) * q := by omega
    rw [this, Int.add_mul_ediv_right _ _ (by omega), Int.ediv_eq_zero_of_lt (by omega) (by omega), Int.zero_add]
theorem low_round {p q B other : Int} (c : Int) (hp : 0 < p) (hq : 0 < q) (hpq : p * q = 128) (m : B % (q * 2) = other / p) :
    (B / 2 + c * 128) / q = B / (q * 2) + c * p ∧ (B / 2 + c * 128) % q = other / (p * 2) ∧ B % 2 = other / p % 2 ∧ other % (p * 2) = other % p + p * (B % 2) := by
  obtain ⟨r1, r2⟩ := rnd (B / 2) c hq hpq
  obtain ⟨h1, h2, h3⟩ := half_mod B hq
  obtain ⟨l1, l2⟩ := low_parts other hp
  rw [m] at h1 h2
  exact ⟨by rw [r1, h3], by rw [r2, h1, l2], h2, by rw [l1, h2]⟩
theorem left_round {p q x X : Int} (hp : 0 < p) (hq : 0 < q) (hpq : p * q = 128) (h0 : 0 ≤ x) (h1 : x < 256) (hX : X = x * p % 256) :
    x / (q * 2) * 2 + X / 128 = x / q ∧ x / (q * 2) ≤ 127 ∧ 0 ≤ x / (q * 2) ∧ X * 2 % 256 = x * (p * 2) % 256 := by
  have e : x * p / 128 = x / q := by rw [← hpq, Int.mul_comm p q]; exact Int.mul_ediv_mul_of_pos_left _ _ hp
  have l := (low_parts x hq).2
  have n0 : 0 ≤ x / q := Int.ediv_nonneg h0 (by omega)
  have n1 : x / q ≤ x := Int.ediv_le_self q h0
  rw [← Int.mul_assoc, l, hX]
  rw [← e] at n0 n1 ⊢
  generalize x * p = y at *
  clear e l hX
  omega
theorem quo_low {number Q p q : Int} (hp : 0 < p) (hq : 0 < q) (hpq : p * q = 128) (ho : 0 ≤ number) (ho' : number < 256) (h0 : 0 ≤ Q) (h1 : Q < p) :
    (0 ≤ number % (q * 2) * p + Q ∧ number % (q * 2) * p + Q < 256) ∧ (number % (q * 2) * p + Q) * 2 % 256 = number % q * (p * 2) + 2 * Q ∧ number / q = 2 * (number / (q * 2)) + (number % (q * 2) * p + Q) / 128 := by
  obtain ⟨e1, e2⟩ := low_parts number hq
  have u0 : 0 ≤ number % q * p := Int.mul_nonneg (Int.emod_nonneg _ (by omega)) (by omega)
  have u1 : number % q * p ≤ (q - 1) * p := Int.mul_le_mul_of_nonneg_right (by have := Int.emod_lt_of_pos number hq; omega) (by omega)
  rw [Int.sub_mul, Int.mul_comm q p, hpq, Int.one_mul] at u1
  have e3 : q * (number / q % 2) * p = 128 * (number / q % 2) := by rw [Int.mul_comm, ← Int.mul_assoc, hpq]
  rw [e1, e2, Int.add_mul, e3, ← Int.mul_assoc]
  generalize number % q * p = u at *
  clear e1 e2 e3 ho ho'
  omega
theorem quo_rng {number p q : Int} (hp : 0 < p) (hq : 0 < q) (hpq : p * q = 128) (ho : 0 ≤ number) (ho' : number < 256) :
    0 ≤ number / q ∧ number / q < p * 2 ∧ 0 ≤ number / (q * 2) ∧ number / (q * 2) < p ∧ 0 ≤ number % q ∧ number % q < 256 := by
  have n0 : 0 ≤ number / q := Int.ediv_nonneg ho (by omega)
  have n1 : number / q < p * 2 := Int.ediv_lt_of_lt_mul hq (by rw [Int.mul_right_comm, hpq]; exact ho')
  have m0 := Int.emod_nonneg number (b := q) (by omega)
  have m1 : number % q < q := Int.emod_lt_of_pos number hq
  have m2 : q ≤ p * q := by have := Int.mul_le_mul_of_nonneg_right (a := 1) (b := p) (c := q) (by omega) (by omega); omega
  rw [(low_parts number hq).2]
  omega
theorem quo_low2 {number Q : Int} {i : Nat} (hi : i < 8) (ho : 0 ≤ number) (ho' : number < 256) (h0 : 0 ≤ Q) (h1 : Q < 2 ^ i) :
    (0 ≤ number % 2 ^ (8 - i) * 2 ^ i + Q ∧ number % 2 ^ (8 - i) * 2 ^ i + Q < 256) ∧ (number % 2 ^ (8 - i) * 2 ^ i + Q) * 2 % 256 = number % 2 ^ (7 - i) * 2 ^ (i + 1) + 2 * Q ∧
      number / 2 ^ (7 - i) = 2 * (number / 2 ^ (8 - i)) + (number % 2 ^ (8 - i) * 2 ^ i + Q) / 128 := by
  obtain ⟨p, q, hp, hq, hpq, e1, e2, e3, e4⟩ := pw hi
  rw [e1] at h1
  rw [e1, e2, e3, e4]
  exact quo_low hp hq hpq ho ho' h0 h1
theorem quo_rng2 {number : Int} {i : Nat} (hi : i < 8) (ho : 0 ≤ number) (ho' : number < 256) :
    0 ≤ number / 2 ^ (7 - i) ∧ number / 2 ^ (7 - i) < 2 ^ (i + 1) ∧ 0 ≤ number / 2 ^ (8 - i) ∧ number / 2 ^ (8 - i) < 2 ^ i ∧ 0 ≤ number % 2 ^ (7 - i) ∧ number % 2 ^ (7 - i) < 256 := by
  obtain ⟨p, q, hp, hq, hpq, e1, e2, e3, e4⟩ := pw hi
  rw [e1, e2, e3, e4]
  exact quo_rng hp hq hpq ho ho'
theorem left2 {x X : Int} {i : Nat} (hi : i < 8) (h0 : 0 ≤ x) (h1 : x < 256) (hX : X = x * 2 ^ i % 256) :
    x / 2 ^ (8 - i) * 2 + X / 128 = x / 2 ^ (7 - i) ∧ x / 2 ^ (8 - i) ≤ 127 ∧ 0 ≤ x / 2 ^ (8 - i) ∧ X * 2 % 256 = x * 2 ^ (i + 1) % 256 := by
  obtain ⟨p, q, hp, hq, hpq, e1, e2, e3, e4⟩ := pw hi
  rw [e1] at hX
  rw [e2, e3, e4]
  exact left_round hp hq hpq h0 h1 hX
theorem prod_round {one other A B c A1 A2 B2 : Int} {i : Nat} (hi : i < 8) (s : A * 2 ^ i + B / 2 ^ (8 - i) = one * (other % 2 ^ i)) (m : B % 2 ^ (8 - i) = other / 2 ^ i)
    (hA1 : A1 + 256 * c = A + one * (B % 2)) (hA2 : A2 = A1 / 2 + c * 128) (hB2 : B2 = B / 2 + A1 % 2 * 128) :
    A2 * 2 ^ (i + 1) + B2 / 2 ^ (7 - i) = one * (other % 2 ^ (i + 1)) ∧ B2 % 2 ^ (7 - i) = other / 2 ^ (i + 1) := by
  obtain ⟨p, q, hp, hq, hpq, e1, e2, e3, e4⟩ := pw hi
  rw [e1, e4] at s m
  rw [e2, e3, hB2]
  obtain ⟨r1, r2, r3, r4⟩ := low_round (A1 % 2) hp hq hpq m
  refine ⟨?_, r2⟩
  have h : A2 * 2 = A + one * (B % 2) - A1 % 2 := by clear s m r1 r2 r3 r4 hB2; omega
  have e : A2 * (p * 2) = (A + one * (B % 2) - A1 % 2) * p := by rw [← h, Int.mul_assoc, Int.mul_comm p 2]
  have e' : one * (p * (B % 2)) = one * (B % 2) * p := by rw [Int.mul_comm p, Int.mul_assoc]
  rw [r1, r4, e, Int.mul_add, e', ← s, Int.sub_mul, Int.add_mul]
  clear s m r1 r2 r3 r4 hB2 hA1 hA2 h e e' e1 e2 e3 e4
  omega
theorem booth_round {g other sA B T D sA2 B2 l : Int} {i : Nat} (hi : i < 8) (s : sA * 2 ^ i + B / 2 ^ (8 - i) = g * (other % 2 ^ i - l * 2 ^ i)) (m : B % 2 ^ (8 - i) = other / 2 ^ i)
    (hD : D = sA + (l - B % 2) * g) (h2 : 2 * sA2 + T % 2 = D) (hB2 : B2 = B / 2 + T % 2 * 128) :
    sA2 * 2 ^ (i + 1) + B2 / 2 ^ (7 - i) = g * (other % 2 ^ (i + 1) - B % 2 * 2 ^ (i + 1)) ∧ B2 % 2 ^ (7 - i) = other / 2 ^ (i + 1) ∧ B % 2 = other / 2 ^ i % 2 := by
  obtain ⟨p, q, hp, hq, hpq, e1, e2, e3, e4⟩ := pw hi
  rw [e1, e4] at s
  rw [e1, e4] at m
  rw [e1, e2, e3, hB2]
  obtain ⟨r1, r2, r3, r4⟩ := low_round (T % 2) hp hq hpq m
  refine ⟨?_, r2, r3⟩
  have h : sA2 * 2 = sA + (l - B % 2) * g - T % 2 := by clear s m r1 r2 r3 r4 hB2; omega
  have e : sA2 * (p * 2) = (sA + (l - B % 2) * g - T % 2) * p := by rw [← h, Int.mul_assoc, Int.mul_comm p 2]
  have e5 : (l - B % 2) * g * p = g * (l * p) - g * (B % 2 * p) := by rw [Int.mul_comm _ g, Int.mul_assoc, Int.sub_mul, Int.mul_sub]
  have e6 : other % p + p * (B % 2) - B % 2 * (p * 2) = other % p - B % 2 * p := by rw [Int.mul_comm p (B % 2), ← Int.mul_assoc]; clear s m r1 r2 r3 r4 hB2 h e e5; omega
  rw [r1, r4, e6, e, Int.mul_sub, Int.sub_mul, Int.add_mul, e5]
  rw [Int.mul_sub] at s
  clear m r1 r2 r3 r4 hB2 hD h2 h e e5 e6 e1 e2 e3 e4
  omega
end Mine

namespace Mine
/-! the product without signs -/
def prodR : CA := (.setT 2 5 (.call3 8 (.lit 3) (.var 2) (.var 5)) (.setT 3 5 (.call3 8 (.lit 3) (.var 3) (.var 5)) (.guard (.cmp .NotEq (.bin .Add (.bin .LShift (.var 2) (.var 4)) (.bin .RShift (.var 3) (.bin .Sub (.lit 8) (.var 4)))) (.bin .Mult (.var 0) (.bin .Mod (.var 1) (.bin .LShift (.lit 1) (.var 4))))) (.guard (.cmp .NotEq (.bin .Mod (.var 3) (.bin .LShift (.lit 1) (.bin .Sub (.lit 8) (.var 4)))) (.bin .RShift (.var 1) (.var 4))) .nil))))
def prodL : CA := (.set 5 (.lit 0) (.ite (.cmp .Eq (.bin .BitAnd (.var 3) (.lit 1)) (.lit 1)) (.setT 2 5 (.call3 2 (.var 2) (.var 0) (.lit 0)) .nil) .nil prodR))

structure ProdI (one other : Int) (i : Nat) (A B : Int) : Prop where
  a0 : 0 ≤ A
  a1 : A < 256
  b0 : 0 ≤ B
  b1 : B < 256
  s : A * 2 ^ i + B / 2 ^ (8 - i) = one * (other % 2 ^ i)
  m : B % 2 ^ (8 - i) = other / 2 ^ i

theorem prod_rest {one other A B A1 F1 : Int} {i : Nat} (hi : i < 8) (h1 : 0 ≤ one) (h1' : one < 256) (ho : 0 ≤ other) (ho' : other < 256) (I : ProdI one other i A B)
    (a0 : 0 ≤ A1) (a1 : A1 < 256) (f0 : 0 ≤ F1) (f1 : F1 < 256) (hA : A1 + 256 * (F1 % 2) = A + one * (B % 2)) :
    wpc (GF 2) prodR (fun σ' => ∃ A B, σ'.take 4 = [one, other, A, B] ∧ ProdI one other (i + 1) A B) [one, other, A1, B, 1 + (i : Int), F1] := by
  obtain ⟨e1, r1, m1⟩ := ror (A := A1) (F := F1) a0 a1
  obtain ⟨e2, r2, m2⟩ := ror (A := B) (F := roF 3 A1 F1) I.b0 I.b1
  rw [m1] at e2
  have R := prod_round (one := one) (other := other) (A := A) (B := B) (c := F1 % 2) (A1 := A1) (A2 := tuR 3 A1 F1) (B2 := tuR 3 B (roF 3 A1 F1)) hi I.s I.m hA e1 e2
  have hA2 : 0 ≤ tuR 3 A1 F1 ∧ tuR 3 A1 F1 < 256 := t_r a0 a1
  have hB2 : 0 ≤ tuR 3 B (roF 3 A1 F1) ∧ tuR 3 B (roF 3 A1 F1) < 256 := t_r I.b0 I.b1
  have g1 : tuR 3 A1 F1 * 2 ^ (1 + (i : Int)).toNat + (tuR 3 B (roF 3 A1 F1)).fdiv (2 ^ (8 - (1 + (i : Int))).toNat) = one * other.fmod (1 * 2 ^ (1 + (i : Int)).toNat) := by
    rw [tn1, tn8, Int.one_mul, fd_pow, fm_pow]; exact R.1
  have g2 : (tuR 3 B (roF 3 A1 F1)).fmod (1 * 2 ^ (8 - (1 + (i : Int))).toNat) = other.fdiv (2 ^ (1 + (i : Int)).toNat) := by
    rw [tn1, tn8, Int.one_mul, fd_pow, fm_pow]; exact R.2
  have J : ProdI one other (i + 1) (tuR 3 A1 F1) (tuR 3 B (roF 3 A1 F1)) := by
    refine ⟨hA2.1, hA2.2, hB2.1, hB2.2, ?_, ?_⟩ <;> rw [e87]
    · exact R.1
    · exact R.2
  refine ⟨⟨trivial, trivial, trivial, l22, rfl, .inr rfl, ⟨a0, a1⟩, f0, f1⟩, rfl, ⟨trivial, trivial, trivial, l22, rfl, .inr rfl, ⟨I.b0, I.b1⟩, r1.1, r1.2⟩, rfl, ?_, ne_f g1, ?_, ne_f g2, ?_⟩
  · refine ⟨⟨⟨trivial, trivial, ?_⟩, ⟨trivial, ⟨trivial, trivial, trivial⟩, ?_⟩, trivial⟩, trivial, ⟨trivial, ⟨trivial, trivial, ?_⟩, ?_⟩, ?_⟩
    · exact (⟨(s_1 hi).1, (s_1 hi).2, na64 hA2.1 hA2.2⟩ : 0 ≤ 1 + (i : Int) ∧ 1 + (i : Int) ≤ 1000000 ∧ (tuR 3 A1 F1).natAbs < 2 ^ 64)
    · exact (s_8 hi).1
    · exact (⟨(s_1 hi).1, (s_1 hi).2, one64⟩ : 0 ≤ 1 + (i : Int) ∧ 1 + (i : Int) ≤ 1000000 ∧ (1 : Int).natAbs < 2 ^ 64)
    · exact pow_ne _
    · exact na63' h1 h1'
  · refine ⟨⟨trivial, ⟨trivial, ⟨trivial, trivial, trivial⟩, ?_⟩, ?_⟩, trivial, trivial, ?_⟩
    · exact (⟨(s_8 hi).1, (s_8 hi).2, one64⟩ : 0 ≤ 8 - (1 + (i : Int)) ∧ 8 - (1 + (i : Int)) ≤ 1000000 ∧ (1 : Int).natAbs < 2 ^ 64)
    · exact pow_ne _
    · exact (s_1 hi).1
  · exact ⟨_, _, rfl, J⟩

theorem prod_turn {one other A B : Int} {i : Nat} (hi : i < 8) (h1 : 0 ≤ one) (h1' : one < 256) (ho : 0 ≤ other) (ho' : other < 256) (I : ProdI one other i A B) :
    wpc (GF 2) prodL (fun σ' => ∃ A B, σ'.take 4 = [one, other, A, B] ∧ ProdI one other (i + 1) A B) [one, other, A, B, 1 + (i : Int)] := by
  have a0 := I.a0; have a1 := I.a1; have b0 := I.b0; have b1 := I.b1
  refine ⟨trivial, ⟨⟨trivial, trivial, trivial⟩, trivial⟩, fun h => ?_, fun h => ?_⟩
  · have h : Builtin.bitAnd B 1 = 1 := eq_t h
    rw [and1] at h
    have hc := add_c (a := A) (b := one) (c := 0) a0 h1 (by decide) a1 h1' (by decide)
    have hr := addF_rng (a := A) (b := one) (c := 0) a0 h1 (by decide) a1 h1' (by decide)
    refine ⟨⟨trivial, trivial, trivial, l22, rfl⟩, rfl, ?_⟩
    exact prod_rest (A1 := addR A one 0) (F1 := addF A one 0) hi h1 h1' ho ho' I (addR_0 _ _ _) (addR_1 _ _ _) hr.1 hr.2 (by rw [addR_v, hc, h, Int.mul_one]; omega)
  · have h : Builtin.bitAnd B 1 ≠ 1 := eq_f h
    rw [and1] at h
    have h0 : B % 2 = 0 := by omega
    exact prod_rest (A1 := A) (F1 := 0) hi h1 h1' ho ho' I a0 a1 (by decide) (by decide) (by rw [h0, Int.mul_zero]; rfl)
end Mine

namespace Mine
theorem or_hi {A B : Int} (a0 : 0 ≤ A) (b0 : 0 ≤ B) (b1 : B < 256) : Builtin.bitOr (A * 2 ^ Int.toNat 8) B = A * 256 + B := by
  have e : A * 2 ^ Int.toNat 8 = A * 256 := rfl
  rw [e, or_nat (by omega) b0]
  have h : (A * 256).toNat = A.toNat <<< 8 := by rw [Nat.shiftLeft_eq]; omega
  rw [h, ← Nat.shiftLeft_add_eq_or_of_lt (i := 8) (by omega) A.toNat, Nat.shiftLeft_eq]
  omega
section
variable {w : World} {p : Program} {loose : List Str} {mean : ExcName → Option Value} {mg mb : Str → Option Value}
theorem range_none (P : Params) : nsIn (hd.heap_39 P) mainGlobals ("range" : Str) = some none := by kernel_rfl!

theorem product_ok (one other : Int) (h1 : 0 ≤ one) (h1' : one < 256) (ho : 0 ≤ other) (ho' : other < 256) : CallOK PySem.Challenge.rw_xm0998_01.row.prog w (hd.heap_39 w.params) p loose mean mg mb 3 112 [one, other] (.int (one * other)) := by
  refine fn_ok (d := 2) (S := ⟨_, CN, FN, GF 2⟩) (xs := ["one", "other"]) (by exact rfl) (by kernel_rfl!) ?_ (by decide +kernel) (by decide +kernel) rfl rfl rfl (by decide) (so2 rfl) ?_
  · intro s vs hi
    obtain ⟨t, u, rfl⟩ := ints2' hi
    exact BindsTo.of_eq rfl
  · refine body_for_ret 1 40 (vars := ["one", "other", "above", "beneath"]) (more := ["flags"]) (x := "turn") (ca := (.par2 2 3 (.lit 0) (.var 1) .nil)) (cl := prodL) (c := (.bin .BitOr (.bin .LShift (.var 2) (.lit 8)) (.var 3)))
      rfl (by repeat' (first | kernel_rfl! | constructor)) (by decide +kernel) (by decide +kernel) (by decide +kernel) (range_none _) (by repeat' (first | kernel_rfl! | constructor)) (by repeat' (first | kernel_rfl! | constructor)) (fun i σ => ∃ A B, σ = [one, other, A, B] ∧ ProdI one other i A B) ?_ ?_ ?_
    · exact ⟨trivial, trivial, 0, other, rfl, by decide, by decide, ho, ho', by show 0 * 2 ^ 0 + other / 256 = one * (other % 1); rw [Int.emod_one]; omega, by show other % 256 = other / 1; omega⟩
    · rintro i σ hi _ ⟨A, B, rfl, I⟩
      exact prod_turn hi h1 h1' ho ho' I
    · rintro σ _ ⟨A, B, rfl, I⟩
      have e : A * 256 + B / 1 = one * (other % 256) := I.s
      have a0 := I.a0; have a1 := I.a1
      refine ⟨⟨⟨trivial, trivial, (⟨by decide, by decide, by omega⟩ : (0 : Int) ≤ 8 ∧ (8 : Int) ≤ 1000000 ∧ A.natAbs < 2 ^ 64)⟩, trivial, trivial⟩, ?_⟩
      refine (or_hi I.a0 I.b0 I.b1).trans ?_
      rw [Int.ediv_one, Int.emod_eq_of_lt ho ho'] at e
      exact e
end
end Mine

namespace Mine
/-! Booth's product -/
def boothR : CA := (.setT 2 7 (.call3 8 (.lit 3) (.var 6) (.ite (.neB (.cmp .NotEq (.bin .BitAnd (.var 7) (.lit 128)) (.lit 0)) (.cmp .NotEq (.bin .BitAnd (.var 7) (.lit 4)) (.lit 0))) (.lit 1) (.lit 0))) (.setT 3 7 (.call3 8 (.lit 3) (.var 3) (.var 7)) (.set 4 (.bin .BitAnd (.var 7) (.lit 1)) (.set 8 (.bin .Sub (.bin .Mod (.var 1) (.bin .LShift (.lit 1) (.var 5))) (.ite (.cmp .Eq (.bin .BitAnd (.bin .RShift (.var 1) (.bin .Sub (.var 5) (.lit 1))) (.lit 1)) (.lit 1)) (.bin .LShift (.lit 1) (.var 5)) (.lit 0))) (.guard (.cmp .NotEq (.bin .Add (.bin .Mult (.call1 9 (.var 2)) (.bin .LShift (.lit 1) (.var 5))) (.bin .RShift (.var 3) (.bin .Sub (.lit 8) (.var 5)))) (.bin .Mult (.call1 9 (.var 0)) (.var 8))) (.guard (.or (.cmp .NotEq (.bin .Mod (.var 3) (.bin .LShift (.lit 1) (.bin .Sub (.lit 8) (.var 5)))) (.bin .RShift (.var 1) (.var 5))) (.cmp .NotEq (.var 4) (.bin .BitAnd (.bin .RShift (.var 1) (.bin .Sub (.var 5) (.lit 1))) (.lit 1)))) .nil))))))
def boothL : CA := (.par2 6 7 (.var 2) (.bin .BitAnd (.var 2) (.lit 128)) (.ite (.and (.cmp .Eq (.bin .BitAnd (.var 3) (.lit 1)) (.lit 1)) (.cmp .Eq (.var 4) (.lit 0))) (.setT 6 7 (.call3 3 (.var 2) (.var 0) (.lit 0)) .nil) (.ite (.and (.cmp .Eq (.bin .BitAnd (.var 3) (.lit 1)) (.lit 0)) (.cmp .Eq (.var 4) (.lit 1))) (.setT 6 7 (.call3 2 (.var 2) (.var 0) (.lit 0)) .nil) .nil .nil) boothR))

theorem sg_v (o : Int) : sgI o = if 128 ≤ o then o - 256 else o := by
  unfold sgI
  by_cases h : 128 ≤ o
  · rw [if_pos (by rw [decide_eq_true_eq]; omega), if_pos h]
  · rw [if_neg (by rw [decide_eq_true_eq]; omega), if_neg h]

structure BoothI (one other : Int) (i : Nat) (A B l : Int) : Prop where
  a0 : 0 ≤ A
  a1 : A < 256
  b0 : 0 ≤ B
  b1 : B < 256
  hl : l = 0 ∨ l = 1
  s : sgI A * 2 ^ i + B / 2 ^ (8 - i) = sgI one * (other % 2 ^ i - l * 2 ^ i)
  m : B % 2 ^ (8 - i) = other / 2 ^ i
  lb : ∀ j, i = j + 1 → l = other / 2 ^ j % 2

theorem sg_rng {o : Int} (h0 : 0 ≤ o) (h1 : o < 256) : -256 ≤ sgI o ∧ sgI o < 256 := by rw [sg_v]; split <;> omega
theorem half_sg {T D f : Int} (t0 : 0 ≤ T) (t1 : T < 256) (hT : T = D ∨ T = D + 256) (d0 : -256 ≤ D) (d1 : D < 256) (hf' : f = if D < 0 then 1 else 0) : 2 * sgI (T / 2 + f % 2 * 128) + T % 2 = D := by
  rw [sg_v, hf']
  by_cases h : D < 0
  · rw [if_pos h, if_pos (by omega)]; omega
  · rw [if_neg h, if_neg (by omega)]; omega
theorem booth_rest {one other A B l T F D : Int} {i : Nat} (hi : i < 8) (h1 : 0 ≤ one) (h1' : one < 256) (ho : 0 ≤ other) (ho' : other < 256) (I : BoothI one other i A B l)
    (t0 : 0 ≤ T) (t1 : T < 256) (hT : T = D ∨ T = D + 256) (d0 : -256 ≤ D) (d1 : D < 256) (hF : (tb F 7 != tb F 2) = decide (D < 0)) (hD : D = sgI A + (l - B % 2) * sgI one) :
    wpc (GF 2) boothR (fun σ' => ∃ A B l, σ'.take 5 = [one, other, A, B, l] ∧ BoothI one other (i + 1) A B l) [one, other, A, B, l, 1 + (i : Int), T, F] := by
  obtain ⟨f, hf⟩ : ∃ f : Int, f = if ((Builtin.bitAnd F 128 != 0) != (Builtin.bitAnd F 4 != 0)) = true then 1 else 0 := ⟨_, rfl⟩
  have hf' : f = if D < 0 then 1 else 0 := by
    rw [hf, and128, and4, hF]
    by_cases h : D < 0 <;> simp [h]
  have f01 : f = 0 ∨ f = 1 := by rw [hf']; split <;> simp
  obtain ⟨e1, r1, m1⟩ := ror (A := T) (F := f) t0 t1
  obtain ⟨e2, r2, m2⟩ := ror (A := B) (F := roF 3 T f) I.b0 I.b1
  rw [m1] at e2
  have hA2 : 0 ≤ tuR 3 T f ∧ tuR 3 T f < 256 := t_r t0 t1
  have hB2 : 0 ≤ tuR 3 B (roF 3 T f) ∧ tuR 3 B (roF 3 T f) < 256 := t_r I.b0 I.b1
  have h2 : 2 * sgI (tuR 3 T f) + T % 2 = D := by
    rw [e1]; exact half_sg t0 t1 hT d0 d1 hf'
  have R := booth_round (g := sgI one) (other := other) (sA := sgI A) (B := B) (T := T) (D := D) (sA2 := sgI (tuR 3 T f)) (B2 := tuR 3 B (roF 3 T f)) (l := l) hi I.s I.m hD h2 e2
  have hl2 : Builtin.bitAnd (roF 3 B (roF 3 T f)) 1 = B % 2 := by rw [and1, m2]
  have hbit : Builtin.bitAnd (other.fdiv (2 ^ (1 + (i : Int) - 1).toNat)) 1 = B % 2 := by rw [and1, tnm, fd_pow, R.2.2]
  obtain ⟨dn, hdn⟩ : ∃ dn : Int, dn = other.fmod (1 * 2 ^ (1 + (i : Int)).toNat) - (if (Builtin.bitAnd (other.fdiv (2 ^ (1 + (i : Int) - 1).toNat)) 1 == 1) = true then 1 * 2 ^ (1 + (i : Int)).toNat else 0) := ⟨_, rfl⟩
  have hdn' : dn = other % 2 ^ (i + 1) - B % 2 * 2 ^ (i + 1) := by
    rw [hdn, hbit, tn1, Int.one_mul, fm_pow]
    rcases b01 B with e | e <;> rw [e] <;> simp
  have g1 : sgI (tuR 3 T f) * (1 * 2 ^ (1 + (i : Int)).toNat) + (tuR 3 B (roF 3 T f)).fdiv (2 ^ (8 - (1 + (i : Int))).toNat) = sgI one * dn := by
    rw [tn1, tn8, Int.one_mul, fd_pow, hdn']; exact R.1
  have g2 : (tuR 3 B (roF 3 T f)).fmod (1 * 2 ^ (8 - (1 + (i : Int))).toNat) = other.fdiv (2 ^ (1 + (i : Int)).toNat) := by
    rw [tn1, tn8, Int.one_mul, fd_pow, fm_pow]; exact R.2.1
  have g3 : Builtin.bitAnd (roF 3 B (roF 3 T f)) 1 = Builtin.bitAnd (other.fdiv (2 ^ (1 + (i : Int) - 1).toNat)) 1 := by rw [hl2, hbit]
  have J : BoothI one other (i + 1) (tuR 3 T f) (tuR 3 B (roF 3 T f)) (Builtin.bitAnd (roF 3 B (roF 3 T f)) 1) := by
    refine ⟨hA2.1, hA2.2, hB2.1, hB2.2, by rw [hl2]; exact b01 B, ?_, ?_, ?_⟩
    · rw [e87, hl2]; exact R.1
    · rw [e87]; exact R.2.1
    · intro j hj
      have : j = i := (Nat.succ.inj hj).symm
      subst this
      rw [hl2]; exact R.2.2
  have gg : (((tuR 3 B (roF 3 T f)).fmod (1 * 2 ^ (8 - (1 + (i : Int))).toNat) != other.fdiv (2 ^ (1 + (i : Int)).toNat)) ||
      (Builtin.bitAnd (roF 3 B (roF 3 T f)) 1 != Builtin.bitAnd (other.fdiv (2 ^ (1 + (i : Int) - 1).toNat)) 1)) = false := by rw [ne_f g2, ne_f g3]; rfl
  have fr : 0 ≤ f ∧ f < 256 := by rcases f01 with e | e <;> rw [e] <;> decide
  have nA : (sgI (tuR 3 T f)).natAbs < 2 ^ 63 := na63 (sg_rng hA2.1 hA2.2).1 (sg_rng hA2.1 hA2.2).2
  have n1 : (sgI one).natAbs < 2 ^ 63 := na63 (sg_rng h1 h1').1 (sg_rng h1 h1').2
  subst hf
  subst hdn
  have sh1 : 0 ≤ 1 + (i : Int) ∧ 1 + (i : Int) ≤ 1000000 ∧ (1 : Int).natAbs < 2 ^ 64 := ⟨(s_1 hi).1, (s_1 hi).2, one64⟩
  have sh8 : 0 ≤ 8 - (1 + (i : Int)) ∧ 8 - (1 + (i : Int)) ≤ 1000000 ∧ (1 : Int).natAbs < 2 ^ 64 := ⟨(s_8 hi).1, (s_8 hi).2, one64⟩
  have shm : (0 : Int) ≤ 1 + (i : Int) - 1 := s_m i
  refine ⟨⟨trivial, trivial, ⟨⟨⟨⟨trivial, trivial, trivial⟩, trivial⟩, ⟨trivial, trivial, trivial⟩, trivial⟩, fun _ => trivial, fun _ => trivial⟩, l22, rfl, .inr rfl, ⟨t0, t1⟩, fr.1, fr.2⟩, rfl, ?_⟩
  refine ⟨⟨trivial, trivial, trivial, l22, rfl, .inr rfl, ⟨I.b0, I.b1⟩, r1.1, r1.2⟩, rfl, ⟨trivial, trivial, trivial⟩, ?_, ?_, ne_f g1, ?_, gg, ?_⟩
  · refine ⟨⟨trivial, ⟨trivial, trivial, sh1⟩, pow_ne _⟩, ⟨⟨⟨⟨trivial, ⟨trivial, trivial, trivial⟩, shm⟩, trivial, trivial⟩, trivial⟩, fun _ => ⟨trivial, trivial, sh1⟩, fun _ => trivial⟩, trivial⟩
  · refine ⟨⟨⟨⟨trivial, l12, rfl⟩, ⟨trivial, trivial, sh1⟩, ?_⟩, ⟨trivial, ⟨trivial, trivial, trivial⟩, sh8.1⟩, trivial⟩, ⟨⟨trivial, l12, rfl⟩, trivial, ?_⟩⟩
    · exact nA
    · exact n1
  · exact ⟨⟨⟨trivial, ⟨trivial, ⟨trivial, trivial, trivial⟩, sh8⟩, pow_ne _⟩, trivial, trivial, sh1.1⟩, fun _ => ⟨trivial, ⟨trivial, ⟨trivial, trivial, trivial⟩, shm⟩, trivial, trivial⟩⟩
  · exact ⟨_, _, _, rfl, J⟩
end Mine

namespace Mine
theorem bne_dec {P Q R : Prop} [Decidable P] [Decidable Q] [Decidable R] (h : (¬(P ↔ Q)) ↔ R) : (decide P != decide Q) = decide R := by
  by_cases hp : P <;> by_cases hq : Q <;> by_cases hr : R <;> simp_all
theorem sg_in {o : Int} (h0 : 0 ≤ o) (h1 : o < 256) : (128 ≤ o ∧ sgI o = o - 256) ∨ (o < 128 ∧ sgI o = o) := by
  rw [sg_v]; split <;> omega
theorem sub_sign {A one : Int} (a0 : 0 ≤ A) (a1 : A < 256) (h1 : 0 ≤ one) (h1' : one < 256) : (tb (subF A one 0) 7 != tb (subF A one 0) 2) = decide (sgI A - sgI one < 0) := by
  rw [sub_s a0 h1, sub_v a0 h1 a1 h1']
  refine bne_dec ?_
  rcases sg_in a0 a1 with ⟨x1, e1⟩ | ⟨x1, e1⟩ <;> rcases sg_in h1 h1' with ⟨x2, e2⟩ | ⟨x2, e2⟩ <;> rw [e1, e2] <;> omega
theorem add_sign {A one : Int} (a0 : 0 ≤ A) (a1 : A < 256) (h1 : 0 ≤ one) (h1' : one < 256) : (tb (addF A one 0) 7 != tb (addF A one 0) 2) = decide (sgI A + sgI one < 0) := by
  rw [add_s a0 h1 (by decide) a1 h1' (by decide), add_v a0 h1 (by decide) a1 h1' (by decide)]
  refine bne_dec ?_
  rcases sg_in a0 a1 with ⟨x1, e1⟩ | ⟨x1, e1⟩ <;> rcases sg_in h1 h1' with ⟨x2, e2⟩ | ⟨x2, e2⟩ <;> rw [e1, e2] <;> omega
theorem non_sign {A : Int} (a0 : 0 ≤ A) (a1 : A < 256) : (tb (Builtin.bitAnd A 128) 7 != tb (Builtin.bitAnd A 128) 2) = decide (sgI A < 0) := by
  have e : tb 128 7 = true := by decide
  have e' : tb 128 2 = false := by decide
  rw [tb_and a0 (by decide), tb_and a0 (by decide), e, e', tb7 a0 a1, Bool.and_true, Bool.and_false]
  have : (decide (128 ≤ A) != false) = decide (128 ≤ A) := by simp
  rw [this]
  refine decide_eq_decide.mpr ?_
  rcases sg_in a0 a1 with ⟨x1, e1⟩ | ⟨x1, e1⟩ <;> rw [e1] <;> omega

theorem bt_a {x : Int} {A one : Int} (a0 : 0 ≤ A) (a1 : A < 256) (h1 : 0 ≤ one) (h1' : one < 256) (hx : x = sgI A + sgI one ∨ x = sgI A - sgI one ∨ x = sgI A) : -256 ≤ x ∧ x < 256 := by
  rcases sg_in a0 a1 with ⟨x1, e1⟩ | ⟨x1, e1⟩ <;> rcases sg_in h1 h1' with ⟨x2, e2⟩ | ⟨x2, e2⟩ <;> rw [e1, e2] at hx <;> omega
theorem bt_s {A one : Int} (a0 : 0 ≤ A) (a1 : A < 256) (h1 : 0 ≤ one) (h1' : one < 256) : subR A one 0 = sgI A - sgI one ∨ subR A one 0 = sgI A - sgI one + 256 := by
  rw [subR_v]
  rcases sg_in a0 a1 with ⟨x1, e1⟩ | ⟨x1, e1⟩ <;> rcases sg_in h1 h1' with ⟨x2, e2⟩ | ⟨x2, e2⟩ <;> rw [e1, e2] <;> omega
theorem bt_p {A one : Int} (a0 : 0 ≤ A) (a1 : A < 256) (h1 : 0 ≤ one) (h1' : one < 256) : addR A one 0 = sgI A + sgI one ∨ addR A one 0 = sgI A + sgI one + 256 := by
  rw [addR_v]
  rcases sg_in a0 a1 with ⟨x1, e1⟩ | ⟨x1, e1⟩ <;> rcases sg_in h1 h1' with ⟨x2, e2⟩ | ⟨x2, e2⟩ <;> rw [e1, e2] <;> omega
theorem bt_n {A : Int} (a0 : 0 ≤ A) (a1 : A < 256) : A = sgI A ∨ A = sgI A + 256 := by
  rcases sg_in a0 a1 with ⟨x1, e1⟩ | ⟨x1, e1⟩ <;> rw [e1] <;> omega
theorem bt_z {l x : Int} (hl : l = 0 ∨ l = 1) (hn : ¬ (x % 2 = 1 ∧ l = 0)) (hn2 : ¬ (x % 2 = 0 ∧ l = 1)) : l - x % 2 = 0 := by omega
theorem bt_m (s g : Int) : s - g = s + (0 - 1) * g := by omega
theorem bt_q (s g : Int) : s + g = s + (1 - 0) * g := by omega
theorem booth_turn {one other A B l : Int} {i : Nat} (hi : i < 8) (h1 : 0 ≤ one) (h1' : one < 256) (ho : 0 ≤ other) (ho' : other < 256) (I : BoothI one other i A B l) :
    wpc (GF 2) boothL (fun σ' => ∃ A B l, σ'.take 5 = [one, other, A, B, l] ∧ BoothI one other (i + 1) A B l) [one, other, A, B, l, 1 + (i : Int)] := by
  have a0 := I.a0; have a1 := I.a1; have b0 := I.b0; have b1 := I.b1
  have hl := I.hl
  refine ⟨trivial, ⟨trivial, trivial, trivial⟩, ⟨⟨⟨trivial, trivial, trivial⟩, trivial⟩, fun _ => ⟨trivial, trivial⟩⟩, fun h => ?_, fun h => ?_⟩
  · have h : (Builtin.bitAnd B 1 == 1 && l == 0) = true := h
    rw [and1, Bool.and_eq_true] at h
    have hb := eq_t h.1
    have hl0 := eq_t h.2
    refine ⟨⟨trivial, trivial, trivial, l22, rfl⟩, rfl, ?_⟩
    exact booth_rest (T := subR A one 0) (F := subF A one 0) (D := sgI A - sgI one) hi h1 h1' ho ho' I (subR_0 _ _ _) (subR_1 _ _ _) (bt_s a0 a1 h1 h1') (bt_a a0 a1 h1 h1' (.inr (.inl rfl))).1 (bt_a a0 a1 h1 h1' (.inr (.inl rfl))).2 (sub_sign a0 a1 h1 h1') (by rw [hb, hl0]; exact bt_m _ _)
  · have h : (Builtin.bitAnd B 1 == 1 && l == 0) = false := h
    rw [and1] at h
    have hn : ¬ (B % 2 = 1 ∧ l = 0) := by
      rintro ⟨e1, e2⟩
      rw [e1, e2] at h
      exact absurd h (by decide)
    refine ⟨⟨⟨⟨trivial, trivial, trivial⟩, trivial⟩, fun _ => ⟨trivial, trivial⟩⟩, fun h2 => ?_, fun h2 => ?_⟩
    · have h2 : (Builtin.bitAnd B 1 == 0 && l == 1) = true := h2
      rw [and1, Bool.and_eq_true] at h2
      have hb := eq_t h2.1
      have hl0 := eq_t h2.2
      refine ⟨⟨trivial, trivial, trivial, l22, rfl⟩, rfl, ?_⟩
      exact booth_rest (T := addR A one 0) (F := addF A one 0) (D := sgI A + sgI one) hi h1 h1' ho ho' I (addR_0 _ _ _) (addR_1 _ _ _) (bt_p a0 a1 h1 h1') (bt_a a0 a1 h1 h1' (.inl rfl)).1 (bt_a a0 a1 h1 h1' (.inl rfl)).2 (add_sign a0 a1 h1 h1') (by rw [hb, hl0]; exact bt_q _ _)
    · have h2 : (Builtin.bitAnd B 1 == 0 && l == 1) = false := h2
      rw [and1] at h2
      have hn2 : ¬ (B % 2 = 0 ∧ l = 1) := by
        rintro ⟨e1, e2⟩
        rw [e1, e2] at h2
        exact absurd h2 (by decide)
      have e0 : l - B % 2 = 0 := bt_z hl hn hn2
      exact booth_rest (T := A) (F := Builtin.bitAnd A 128) (D := sgI A) hi h1 h1' ho ho' I a0 a1 (bt_n a0 a1) (bt_a a0 a1 h1 h1' (.inr (.inr rfl))).1 (bt_a a0 a1 h1 h1' (.inr (.inr rfl))).2 (non_sign a0 a1) (by rw [e0, Int.zero_mul, Int.add_zero])

section
variable {w : World} {p : Program} {loose : List Str} {mean : ExcName → Option Value} {mg mb : Str → Option Value}
theorem booth_ok (one other : Int) (h1 : 0 ≤ one) (h1' : one < 256) (ho : 0 ≤ other) (ho' : other < 256) : CallOK PySem.Challenge.rw_xm0998_01.row.prog w (hd.heap_39 w.params) p loose mean mg mb 3 105 [one, other] (.int ((sgI one * sgI other) % 65536)) := by
  refine fn_ok (d := 2) (S := ⟨_, CN, FN, GF 2⟩) (xs := ["one", "other"]) (by exact rfl) (by kernel_rfl!) ?_ (by decide +kernel) (by decide +kernel) rfl rfl rfl (by decide) (so2 rfl) ?_
  · intro s vs hi
    obtain ⟨t, u, rfl⟩ := ints2' hi
    exact BindsTo.of_eq rfl
  · refine body_for_ret 1 40 (vars := ["one", "other", "above", "beneath", "last"]) (more := ["told", "flags", "done"]) (x := "turn") (ca := (.par3 2 3 4 (.lit 0) (.var 1) (.lit 0) .nil)) (cl := boothL) (c := (.bin .BitOr (.bin .LShift (.var 2) (.lit 8)) (.var 3)))
      rfl (by repeat' (first | kernel_rfl! | constructor)) (by decide +kernel) (by decide +kernel) (by decide +kernel) (range_none _) (by repeat' (first | kernel_rfl! | constructor)) (by repeat' (first | kernel_rfl! | constructor)) (fun i σ => ∃ A B l, σ = [one, other, A, B, l] ∧ BoothI one other i A B l) ?_ ?_ ?_
    · refine ⟨trivial, trivial, trivial, 0, other, 0, rfl, by decide, by decide, ho, ho', .inl rfl, ?_, by show other % 256 = other / 1; omega, by intro j hj; omega⟩
      show sgI 0 * 2 ^ 0 + other / 256 = sgI one * (other % 1 - 0 * 1)
      rw [Int.emod_one, show (0 : Int) - 0 * 1 = 0 by decide, Int.mul_zero, show sgI 0 = 0 by decide]; omega
    · rintro i σ hi _ ⟨A, B, l, rfl, I⟩
      exact booth_turn hi h1 h1' ho ho' I
    · rintro σ _ ⟨A, B, l, rfl, I⟩
      have e : sgI A * 256 + B / 1 = sgI one * (other % 256 - l * 256) := I.s
      have a0 := I.a0; have a1 := I.a1; have b0 := I.b0; have b1 := I.b1
      refine ⟨⟨⟨trivial, trivial, (⟨by decide, by decide, by omega⟩ : (0 : Int) ≤ 8 ∧ (8 : Int) ≤ 1000000 ∧ A.natAbs < 2 ^ 64)⟩, trivial, trivial⟩, ?_⟩
      refine (or_hi I.a0 I.b0 I.b1).trans ?_
      have hlb : l = other / 128 % 2 := I.lb 7 rfl
      have hso : sgI other = other - l * 256 := by rcases sg_in ho ho' with ⟨x, e'⟩ | ⟨x, e'⟩ <;> rw [e'] <;> omega
      rw [Int.ediv_one, Int.emod_eq_of_lt ho ho', ← hso] at e
      rw [← e]
      rcases sg_in a0 a1 with ⟨x, e'⟩ | ⟨x, e'⟩ <;> rw [e'] <;> omega
end
end Mine

namespace Mine
theorem z00 : (0 : Int) ≤ 0 := by decide
theorem z0l : (0 : Int) < 256 := by decide
theorem hi_nn {x y r : Int} (hx : 0 ≤ x) (hy : 0 ≤ y) (hr : 0 ≤ r) : 0 ≤ hiI x y r ∧ tb (hiI x y r) 0 = false := by
  unfold hiI
  rw [fdiv8, fdiv8]
  have hxy := nn_xor (nn_xor hx hy) hr
  have h1 : 0 ≤ Builtin.bitAnd (r / 256) 40 := nn_and (by omega) (by decide)
  have h2 : 0 ≤ Builtin.bitAnd (Builtin.bitXor (Builtin.bitXor x y) r / 256) 16 := nn_and (by omega) (by decide)
  refine ⟨nn_or h1 h2, ?_⟩
  have e : tb 40 0 = false := by decide
  rw [tb_or h1 h2, tb_and (by omega) (by decide), tb_and (by omega) (by decide), e, tl_16_0, Bool.and_false, Bool.and_false, Bool.or_false]
theorem a16_c {x y f : Int} (hx : 0 ≤ x) (hy : 0 ≤ y) (hf : 0 ≤ f) (hx' : x < 65536) (hy' : y < 65536) : a16F x y f % 2 = (x + y) / 65536 := by
  have hr : 0 ≤ a16R x y := by rw [a16R_v]; omega
  have hh := hi_nn hx hy hr
  have h1 : 0 ≤ Builtin.bitAnd f 196 := nn_and hf (by decide)
  have e : tb 196 0 = false := by decide
  unfold a16F
  rw [fdiv16, mod_tb, tb_or (nn_or h1 hh.1) (by omega), tb_or h1 hh.1, tb_and hf (by decide), e, hh.2]
  simp only [Bool.and_false, Bool.or_false, Bool.false_or]
  rw [tb00]
  split <;> rename_i h <;> simp only [decide_eq_true_eq] at h <;> omega

/-! the product by doubling words -/
def dblR : CA := (.guard (.or (.cmp .NotEq (.var 2) (.bin .Mult (.var 0) (.bin .RShift (.var 1) (.bin .Sub (.lit 8) (.var 4))))) (.and (.cmp .NotEq (.bin .BitAnd (.var 5) (.lit 1)) (.lit 0)) (.cmp .Eq (.bin .BitAnd (.bin .RShift (.var 1) (.bin .Sub (.lit 8) (.var 4))) (.lit 1)) (.lit 1)))) .nil)
def dblL : CA := (.setT 2 5 (.call3 5 (.var 2) (.var 2) (.lit 0)) (.setT 3 5 (.call3 8 (.lit 2) (.var 3) (.lit 0)) (.ite (.cmp .Eq (.bin .BitAnd (.var 5) (.lit 1)) (.lit 1)) (.setT 2 5 (.call3 5 (.var 2) (.var 0) (.var 5)) .nil) .nil dblR)))

theorem dbl_rest {one other X L F : Int} {i : Nat} (hi : i < 8) (h1 : 0 ≤ one) (h1' : one < 256) (hX : X = one * (other / 2 ^ (7 - i))) (hL : L = other * 2 ^ (i + 1) % 256) (hF : F % 2 = 0 ∨ other / 2 ^ (7 - i) % 2 = 0) :
    wpc (GF 2) dblR (fun σ' => ∃ X L, σ'.take 4 = [one, other, X, L] ∧ X = one * (other / 2 ^ (8 - (i + 1))) ∧ L = other * 2 ^ (i + 1) % 256) [one, other, X, L, 1 + (i : Int), F] := by
  have g : ((X != one * other.fdiv (2 ^ (8 - (1 + (i : Int))).toNat)) || ((Builtin.bitAnd F 1 != 0) && (Builtin.bitAnd (other.fdiv (2 ^ (8 - (1 + (i : Int))).toNat)) 1 == 1))) = false := by
    rw [tn8, fd_pow, ne_f hX, and1, and1]
    rcases hF with h | h <;> rw [h]
    · rfl
    · rw [Bool.false_or, show ((0 : Int) == 1) = false by decide, Bool.and_false]
  have n1 : one.natAbs < 2 ^ 63 := by omega
  have s8 : (0 : Int) ≤ 8 - (1 + (i : Int)) := by omega
  refine ⟨⟨⟨trivial, trivial, ⟨trivial, ⟨trivial, trivial, trivial⟩, s8⟩, n1⟩, fun _ => ⟨⟨⟨trivial, trivial, trivial⟩, trivial⟩, fun _ => ⟨⟨⟨trivial, ⟨trivial, trivial, trivial⟩, s8⟩, trivial, trivial⟩, trivial⟩⟩⟩, g, ?_⟩
  exact ⟨X, L, rfl, by rw [show 8 - (i + 1) = 7 - i by omega]; exact hX, hL⟩

theorem dbl_turn {one other X L : Int} {i : Nat} (hi : i < 8) (h1 : 0 ≤ one) (h1' : one < 256) (ho : 0 ≤ other) (ho' : other < 256) (hX : X = one * (other / 2 ^ (8 - i))) (hL : L = other * 2 ^ i % 256) :
    wpc (GF 2) dblL (fun σ' => ∃ X L, σ'.take 4 = [one, other, X, L] ∧ X = one * (other / 2 ^ (8 - (i + 1))) ∧ L = other * 2 ^ (i + 1) % 256) [one, other, X, L, 1 + (i : Int)] := by
  have hL01 : 0 ≤ L ∧ L < 256 := by rw [hL]; omega
  obtain ⟨e2, r2, m2⟩ := rol (A := L) (F := 0) hL01.1 hL01.2
  have hq : other / 2 ^ (8 - i) * 2 + L / 128 = other / 2 ^ (7 - i) ∧ other / 2 ^ (8 - i) ≤ 127 ∧ 0 ≤ other / 2 ^ (8 - i) ∧ L * 2 % 256 = other * 2 ^ (i + 1) % 256 := by
    exact left2 hi ho ho' hL
  obtain ⟨hq1, hq2, hq3, hq4⟩ := hq
  have hX0 : 0 ≤ X ∧ X ≤ 255 * 127 := by
    rw [hX]
    exact ⟨Int.mul_nonneg h1 hq3, Int.mul_le_mul (by omega) hq2 hq3 (by decide)⟩
  have eX : a16R X X = one * (2 * (other / 2 ^ (8 - i))) := by
    rw [a16R_v]
    have : one * (2 * (other / 2 ^ (8 - i))) = 2 * X := by rw [hX, Int.mul_left_comm]
    rw [this]; omega
  have hX2 : 0 ≤ a16R X X ∧ a16R X X ≤ 2 * (255 * 127) := by rw [a16R_v]; omega
  have hL2 : tuR 2 L 0 = other * 2 ^ (i + 1) % 256 := by rw [e2, ← hq4]; omega
  refine ⟨⟨trivial, trivial, trivial, l22, rfl⟩, rfl, ⟨trivial, trivial, trivial, l22, rfl, .inl rfl, hL01, z00, z0l⟩, rfl, ⟨⟨trivial, trivial, trivial⟩, trivial⟩, fun h => ?_, fun h => ?_⟩
  · have h : Builtin.bitAnd (roF 2 L 0) 1 = 1 := eq_t h
    rw [and1, m2] at h
    refine ⟨⟨trivial, trivial, trivial, l22, rfl⟩, rfl, ?_⟩
    refine dbl_rest (X := a16R (a16R X X) one) (L := tuR 2 L 0) (F := a16F (a16R X X) one (roF 2 L 0)) hi h1 h1' ?_ hL2 (.inl ?_)
    · rw [← hq1, h, Int.mul_add, Int.mul_one, Int.mul_comm (other / _) 2, ← eX, a16R_v (a := a16R X X)]
      omega
    · rw [a16_c hX2.1 h1 r2.1 (by omega) (by omega)]; omega
  · have h : Builtin.bitAnd (roF 2 L 0) 1 ≠ 1 := eq_f h
    rw [and1, m2] at h
    have h0 : L / 128 = 0 := by omega
    refine dbl_rest (X := a16R X X) (L := tuR 2 L 0) (F := roF 2 L 0) hi h1 h1' ?_ hL2 (.inr ?_)
    · rw [← hq1, h0, Int.add_zero, eX, Int.mul_comm 2]
    · rw [← hq1, h0]; omega

section
variable {w : World} {p : Program} {loose : List Str} {mean : ExcName → Option Value} {mg mb : Str → Option Value}
theorem doubled_ok (one other : Int) (h1 : 0 ≤ one) (h1' : one < 256) (ho : 0 ≤ other) (ho' : other < 256) : CallOK PySem.Challenge.rw_xm0998_01.row.prog w (hd.heap_39 w.params) p loose mean mg mb 3 119 [one, other] (.int (one * other)) := by
  refine fn_ok (d := 2) (S := ⟨_, CN, FN, GF 2⟩) (xs := ["one", "other"]) (by exact rfl) (by kernel_rfl!) ?_ (by decide +kernel) (by decide +kernel) rfl rfl rfl (by decide) (so2 rfl) ?_
  · intro s vs hi
    obtain ⟨t, u, rfl⟩ := ints2' hi
    exact BindsTo.of_eq rfl
  · refine body_for_ret 1 40 (vars := ["one", "other", "found", "left"]) (more := ["flags"]) (x := "turn") (ca := (.par2 2 3 (.lit 0) (.var 1) .nil)) (cl := dblL) (c := (.var 2))
      rfl (by repeat' (first | kernel_rfl! | constructor)) (by decide +kernel) (by decide +kernel) (by decide +kernel) (range_none _) (by repeat' (first | kernel_rfl! | constructor)) (by repeat' (first | kernel_rfl! | constructor)) (fun i σ => ∃ X L, σ = [one, other, X, L] ∧ X = one * (other / 2 ^ (8 - i)) ∧ L = other * 2 ^ i % 256) ?_ ?_ ?_
    · refine ⟨trivial, trivial, 0, other, rfl, ?_, ?_⟩
      · show 0 = one * (other / 256)
        rw [show other / 256 = 0 by omega, Int.mul_zero]
      · show other = other * 1 % 256
        omega
    · rintro i σ hi _ ⟨X, L, rfl, hX, hL⟩
      exact dbl_turn hi h1 h1' ho ho' hX hL
    · rintro σ _ ⟨X, L, rfl, hX, hL⟩
      refine ⟨trivial, ?_⟩
      have : X = one * (other / 1) := hX
      rw [Int.ediv_one] at this
      exact this
end
end Mine

namespace Mine
/-- DAA behind an addition, in plain words -/
theorem daa_v {a f : Int} (a0 : 0 ≤ a) (a1 : a < 256) (f0 : 0 ≤ f) (hn : tb f 1 = false) :
    daR a f = (a + ((if tb f 4 = true ∨ 9 < a % 16 then 6 else 0) + (if f % 2 = 1 ∨ 153 < a then 96 else 0))) % 256 ∧ daF a f % 2 = if f % 2 = 1 ∨ 153 < a then 1 else 0 := by
  have e15 : Builtin.bitAnd a 15 = a % 16 := bitAnd_m4 a
  have hW : daW a f = if tb f 4 = true ∨ 9 < a % 16 then 6 else 0 := by
    unfold daW
    rw [and16, e15]
    by_cases h1 : tb f 4 = true <;> by_cases h2 : 9 < a % 16 <;> simp [h1, h2]
  have hC : daC a f = decide (f % 2 = 1 ∨ 153 < a) := by
    unfold daC
    rw [and1]
    have : f % 2 = 0 ∨ f % 2 = 1 := by omega
    rcases this with h | h <;> rw [h] <;> simp
  have hR : daR a f = (a + ((if tb f 4 = true ∨ 9 < a % 16 then 6 else 0) + (if f % 2 = 1 ∨ 153 < a then 96 else 0))) % 256 := by
    unfold daR
    simp only
    rw [and2, hn, if_neg (by decide), hC, hW]
    have e : ∀ x : Int, Builtin.bitAnd x 255 = x % 256 := bitAnd_m8
    rw [e]
    by_cases h : f % 2 = 1 ∨ 153 < a
    · rw [if_pos (by rw [decide_eq_true_eq]; exact h), if_pos h]
    · rw [if_neg (by rw [decide_eq_true_eq]; exact h), if_neg h, Int.add_zero]
  refine ⟨hR, ?_⟩
  have hr0 : 0 ≤ daR a f := by rw [hR]; omega
  have hs := sz_nn hr0
  have hp : 0 ≤ parI (daR a f) := by rcases par_or (daR a f) with h | h <;> rw [h] <;> decide
  have hp0 : tb (parI (daR a f)) 0 = false := by rcases par_or (daR a f) with h | h <;> rw [h] <;> decide
  have hH : daH a f = 0 ∨ daH a f = 16 := by unfold daH; split <;> split <;> simp
  have hH0 : 0 ≤ daH a f := by omega
  have hH1 : tb (daH a f) 0 = false := by rcases hH with h | h <;> rw [h] <;> decide
  have hf2 : 0 ≤ Builtin.bitAnd f 2 := nn_and f0 (by decide)
  have hl : (if daC a f = true then (1 : Int) else Builtin.bitAnd f 1) = if f % 2 = 1 ∨ 153 < a then 1 else 0 := by
    rw [hC, and1]
    by_cases h : f % 2 = 1 ∨ 153 < a
    · rw [if_pos (by rw [decide_eq_true_eq]; exact h), if_pos h]
    · rw [if_neg (by rw [decide_eq_true_eq]; exact h), if_neg h]; omega
  have hl0 : (0 : Int) ≤ if f % 2 = 1 ∨ 153 < a then 1 else 0 := by split <;> decide
  unfold daF
  rw [hl, mod_tb, tb_or (nn_or (nn_or (nn_or hs hp) hH0) hf2) hl0, tb_or (nn_or (nn_or hs hp) hH0) hf2, tb_or (nn_or hs hp) hH0, tb_or hs hp, sz_tb hr0, hp0, hH1, tb_and f0 (by decide)]
  simp only [tl_168_0, tl_64_0, tl_2_0, t0, Bool.and_false, Bool.or_false, Bool.false_or, ite_self]
  by_cases h : f % 2 = 1 ∨ 153 < a
  · rw [if_pos h]; rfl
  · rw [if_neg h]; rfl

theorem dig_low {h l c : Int} (h0 : 0 ≤ h) (h1 : h ≤ 9) (l0 : 0 ≤ l) (l1 : l ≤ 9) (c0 : 0 ≤ c) (c1 : c ≤ 1) :
    daR (addR (16 * h + l) (16 * h + l) c) (addF (16 * h + l) (16 * h + l) c) = 16 * ((2 * (10 * h + l) + c) / 10 % 10) + (2 * (10 * h + l) + c) % 10 ∧
      daF (addR (16 * h + l) (16 * h + l) c) (addF (16 * h + l) (16 * h + l) c) % 2 = (2 * (10 * h + l) + c) / 100 := by
  have x0 : 0 ≤ 16 * h + l := by omega
  have x1 : 16 * h + l < 256 := by omega
  have fc := add_c x0 x0 c0 x1 x1 c1
  have fh := add_h x0 x0 c0 x1 x1 c1
  have fn := add_n x0 x0 c0 x1 x1 c1
  have fr := addF_rng x0 x0 c0 x1 x1 c1
  have hv := daa_v (a := addR (16 * h + l) (16 * h + l) c) (f := addF (16 * h + l) (16 * h + l) c) (addR_0 _ _ _) (addR_1 _ _ _) fr.1 fn
  rw [hv.1, hv.2, fc, fh, addR_v]
  clear hv fc fh fn fr x0 x1
  obtain ⟨n, rfl⟩ := Int.eq_ofNat_of_zero_le h0
  obtain ⟨m, rfl⟩ := Int.eq_ofNat_of_zero_le l0
  obtain ⟨k, rfl⟩ := Int.eq_ofNat_of_zero_le c0
  replace h1 : n < 10 := by clear l0 l1 c0 c1; omega
  replace l1 : m < 10 := by clear h0 h1 c0 c1; omega
  replace c1 : k < 2 := by clear l0 l1 h0 h1; omega
  clear h0 l0 c0
  revert k; revert m; revert n
  decide +kernel
theorem dig_high {h c : Int} (h0 : 0 ≤ h) (h1 : h ≤ 2) (c0 : 0 ≤ c) (c1 : c ≤ 1) : daR (addR h h c) (addF h h c) = 2 * h + c := by
  have x1 : h < 256 := by omega
  have fc := add_c h0 h0 c0 x1 x1 c1
  have fh := add_h h0 h0 c0 x1 x1 c1
  have fn := add_n h0 h0 c0 x1 x1 c1
  have fr := addF_rng h0 h0 c0 x1 x1 c1
  have hv := daa_v (a := addR h h c) (f := addF h h c) (addR_0 _ _ _) (addR_1 _ _ _) fr.1 fn
  rw [hv.1, fc, fh, addR_v]
  clear hv fc fh fn fr x1
  obtain ⟨n, rfl⟩ := Int.eq_ofNat_of_zero_le h0
  obtain ⟨k, rfl⟩ := Int.eq_ofNat_of_zero_le c0
  replace h1 : n < 3 := by clear c0 c1; omega
  replace c1 : k < 2 := by clear h0 h1; omega
  clear h0 c0
  revert k; revert n
  decide +kernel
end Mine

namespace Mine
/-! the decimal digits -/
def digL : CA := (.setT 3 5 (.call3 8 (.lit 2) (.var 3) (.lit 0)) (.setT 1 5 (.call3 2 (.var 1) (.var 1) (.bin .BitAnd (.var 5) (.lit 1))) (.setT 1 5 (.call2 6 (.var 1) (.var 5)) (.setT 2 5 (.call3 2 (.var 2) (.var 2) (.bin .BitAnd (.var 5) (.lit 1))) (.setT 2 5 (.call2 6 (.var 2) (.var 5)) (.set 6 (.bin .RShift (.var 0) (.bin .Sub (.lit 8) (.var 4))) (.guard (.nel3 (.var 2) (.bin .RShift (.var 1) (.lit 4)) (.bin .BitAnd (.var 1) (.lit 15)) (.bin .FloorDiv (.var 6) (.lit 100)) (.bin .Mod (.bin .FloorDiv (.var 6) (.lit 10)) (.lit 10)) (.bin .Mod (.var 6) (.lit 10))) .nil)))))))

theorem ne100 : (100 : Int) ≠ 0 ∧ (100 : Int).natAbs < 1073741824 := by decide
theorem ne10 : (10 : Int) ≠ 0 ∧ (10 : Int).natAbs < 1073741824 := by decide
theorem ne10' : (10 : Int) ≠ 0 := by decide
theorem fdiv4 (x : Int) : x.fdiv (2 ^ Int.toNat 4) = x / 16 := Int.fdiv_eq_ediv_of_nonneg x (by decide)
theorem fdiv10 (x : Int) : x.fdiv 10 = x / 10 := Int.fdiv_eq_ediv_of_nonneg x (by decide)
theorem fdiv100 (x : Int) : x.fdiv 100 = x / 100 := Int.fdiv_eq_ediv_of_nonneg x (by decide)
theorem fmod10 (x : Int) : x.fmod 10 = x % 10 := Int.fmod_eq_emod_of_nonneg x (by decide)
theorem dig_h {T : Int} (_ : 0 ≤ T) : 10 * (T / 10 % 10) + T % 10 = T % 100 := by omega
theorem dig_a {T c : Int} (_ : 0 ≤ T) (_ : 0 ≤ c) : 2 * (T / 100) + (2 * (T % 100) + c) / 100 = (T * 2 + c) / 100 := by omega
theorem dig_b {T c : Int} (_ : 0 ≤ T) (_ : 0 ≤ c) : 16 * ((2 * (T % 100) + c) / 10 % 10) + (2 * (T % 100) + c) % 10 = 16 * ((T * 2 + c) / 10 % 10) + (T * 2 + c) % 10 := by
  have h1 : T = 100 * (T / 100) + T % 100 := by omega
  generalize T % 100 = m at *
  generalize T / 100 = k at *
  subst h1
  have : (100 * k + m) * 2 + c = 10 * (20 * k) + (2 * m + c) := by omega
  rw [this]
  generalize 2 * m + c = y
  omega
theorem dig_c (y z : Int) : (16 * (y % 10) + z % 10) / 16 = y % 10 := by omega
theorem dig_d (y z : Int) : (16 * (y % 10) + z % 10) % 16 = z % 10 := by omega
theorem nl_f {a b c a' b' c' : Int} (h1 : a = a') (h2 : b = b') (h3 : c = c') : (!decide ([a, b, c] = [a', b', c'])) = false := by simp [h1, h2, h3]

theorem dig_turn {number T L : Int} {i : Nat} (hi : i < 8) (ho : 0 ≤ number) (ho' : number < 256) (hT : T = number / 2 ^ (8 - i)) (hL : L = number * 2 ^ i % 256) :
    wpc (GF 2) digL (fun σ' => ∃ T L, σ'.take 4 = [number, 16 * (T / 10 % 10) + T % 10, T / 100, L] ∧ T = number / 2 ^ (8 - (i + 1)) ∧ L = number * 2 ^ (i + 1) % 256) [number, 16 * (T / 10 % 10) + T % 10, T / 100, L, 1 + (i : Int)] := by
  have hL01 : 0 ≤ L ∧ L < 256 := by rw [hL]; omega
  obtain ⟨e2, r2, m2⟩ := rol (A := L) (F := 0) hL01.1 hL01.2
  have hq : T * 2 + L / 128 = number / 2 ^ (7 - i) ∧ T ≤ 127 ∧ 0 ≤ T ∧ L * 2 % 256 = number * 2 ^ (i + 1) % 256 := by
    rw [hT]
    exact left2 hi ho ho' hL
  obtain ⟨hq1, hq2, hq3, hq4⟩ := hq
  have hL2 : tuR 2 L 0 = number * 2 ^ (i + 1) % 256 := by rw [e2, ← hq4]; omega
  have s8 : (0 : Int) ≤ 8 - (1 + (i : Int)) := by omega
  have hN : number.fdiv (2 ^ (8 - (1 + (i : Int))).toNat) = T * 2 + L / 128 := by rw [tn8, fd_pow, hq1]
  have hc01 : 0 ≤ L / 128 ∧ L / 128 ≤ 1 := by omega
  obtain ⟨low, elow⟩ : ∃ x, x = 16 * (T / 10 % 10) + T % 10 := ⟨_, rfl⟩
  obtain ⟨high, ehigh⟩ : ∃ x, x = T / 100 := ⟨_, rfl⟩
  rw [← elow, ← ehigh]
  refine ⟨⟨trivial, trivial, trivial, l22, rfl, .inl rfl, hL01, z00, z0l⟩, rfl, ?_⟩
  change wpc _ _ _ [number, low, high, tuR 2 L 0, 1 + (i : Int), roF 2 L 0]
  generalize tuR 2 L 0 = L1 at hL2 ⊢
  have hc : Builtin.bitAnd (roF 2 L 0) 1 = L / 128 := by rw [and1, m2]
  generalize roF 2 L 0 = F0 at hc ⊢
  refine ⟨⟨trivial, trivial, ⟨trivial, trivial, trivial⟩, l22, rfl⟩, rfl, ?_⟩
  change wpc _ _ _ [number, addR low low (Builtin.bitAnd F0 1), high, L1, 1 + (i : Int), addF low low (Builtin.bitAnd F0 1)]
  rw [hc]
  have dh := dig_h hq3
  have D := dig_low (h := T / 10 % 10) (l := T % 10) (c := L / 128) (by omega) (by omega) (by omega) (by omega) hc01.1 hc01.2
  rw [← elow, dh] at D
  generalize addR low low (L / 128) = a1 at D ⊢
  generalize addF low low (L / 128) = f1 at D ⊢
  refine ⟨⟨trivial, trivial, l22, rfl⟩, rfl, ?_⟩
  change wpc _ _ _ [number, daR a1 f1, high, L1, 1 + (i : Int), daF a1 f1]
  obtain ⟨d1, d2⟩ := D
  generalize daR a1 f1 = lo at d1 ⊢
  have hc2 : Builtin.bitAnd (daF a1 f1) 1 = (2 * (T % 100) + L / 128) / 100 := by rw [and1, d2]
  generalize daF a1 f1 = F2 at hc2 ⊢
  refine ⟨⟨trivial, trivial, ⟨trivial, trivial, trivial⟩, l22, rfl⟩, rfl, ?_⟩
  change wpc _ _ _ [number, lo, addR high high (Builtin.bitAnd F2 1), L1, 1 + (i : Int), addF high high (Builtin.bitAnd F2 1)]
  rw [hc2]
  have d3 := dig_high (h := high) (c := (2 * (T % 100) + L / 128) / 100) (by omega) (by omega) (by omega) (by omega)
  generalize addR high high ((2 * (T % 100) + L / 128) / 100) = a3 at d3 ⊢
  generalize addF high high ((2 * (T % 100) + L / 128) / 100) = f3 at d3 ⊢
  refine ⟨⟨trivial, trivial, l22, rfl⟩, rfl, ?_⟩
  change wpc _ _ _ [number, lo, daR a3 f3, L1, 1 + (i : Int), daF a3 f3]
  generalize daR a3 f3 = hi' at d3 ⊢
  generalize daF a3 f3 = F4
  refine ⟨⟨trivial, ⟨trivial, trivial, trivial⟩, s8⟩, ?_⟩
  change wpc _ _ _ [number, lo, hi', L1, 1 + (i : Int), F4, number.fdiv (2 ^ (8 - (1 + (i : Int))).toNat)]
  rw [hN]
  have hlo' : lo = 16 * ((T * 2 + L / 128) / 10 % 10) + (T * 2 + L / 128) % 10 := d1.trans (dig_b hq3 hc01.1)
  have hhi' : hi' = (T * 2 + L / 128) / 100 := by rw [d3, ehigh]; exact dig_a hq3 hc01.1
  refine ⟨⟨⟨trivial, ⟨trivial, trivial, z4⟩, ⟨trivial, trivial, trivial⟩⟩, ⟨trivial, trivial, ne100⟩, ⟨⟨trivial, trivial, ne10⟩, trivial, ne10'⟩, ⟨trivial, trivial, ne10'⟩⟩, ?_, ?_⟩
  · refine nl_f (a := hi') (b := lo.fdiv (2 ^ Int.toNat 4)) (c := Builtin.bitAnd lo 15) (a' := (T * 2 + L / 128).fdiv 100) (b' := ((T * 2 + L / 128).fdiv 10).fmod 10) (c' := (T * 2 + L / 128).fmod 10) ?_ ?_ ?_
    · rw [fdiv100]; exact hhi'
    · rw [fdiv4, fdiv10, fmod10, hlo']; exact dig_c _ _
    · rw [bitAnd_m4, fmod10, hlo']; exact dig_d _ _
  · refine ⟨T * 2 + L / 128, L1, ?_, by rw [show 8 - (i + 1) = 7 - i by omega]; exact hq1, hL2⟩
    show [number, lo, hi', L1] = _
    rw [hlo', hhi']
end Mine

namespace Mine
section
variable {w : World} {p : Program} {loose : List Str} {mean : ExcName → Option Value} {mg mb : Str → Option Value}
theorem digits_ok (number : Int) (ho : 0 ≤ number) (ho' : number < 256) : CallOK PySem.Challenge.rw_xm0998_01.row.prog w (hd.heap_39 w.params) p loose mean mg mb 3 126 [number] (.bool true) := by
  refine fn_ok (d := 2) (S := ⟨_, CN, FN, GF 2⟩) (xs := ["number"]) (by exact rfl) (by kernel_rfl!) ?_ (by decide +kernel) (by decide +kernel) rfl rfl rfl (by decide) (so2 rfl) ?_
  · intro s vs hi
    obtain ⟨t, rfl⟩ := ints1 hi
    exact BindsTo.of_eq rfl
  · refine body_for_true 1 40 (vars := ["number", "low", "high", "left"]) (more := ["flags", "told"]) (x := "turn") (ca := (.par3 1 2 3 (.lit 0) (.lit 0) (.var 0) .nil)) (cl := digL)
      rfl (by repeat' (first | kernel_rfl! | constructor)) (by decide +kernel) (by decide +kernel) (by decide +kernel) (range_none _) (by repeat' (first | kernel_rfl! | constructor)) (fun i σ => ∃ T L, σ = [number, 16 * (T / 10 % 10) + T % 10, T / 100, L] ∧ T = number / 2 ^ (8 - i) ∧ L = number * 2 ^ i % 256) ?_ ?_
    · refine ⟨trivial, trivial, trivial, 0, number, rfl, ?_, ?_⟩
      · show 0 = number / 256
        omega
      · show number = number * 1 % 256
        omega
    · rintro i σ hi _ ⟨T, L, rfl, hT, hL⟩
      exact dig_turn hi ho ho' hT hL
end

/-! the quotients -/
def quoC : CA := (.guard (.or (.cmp .NotEq (.var 3) (.bin .BitOr (.bin .LShift (.bin .Mod (.var 0) (.bin .LShift (.lit 1) (.bin .Sub (.lit 8) (.var 7)))) (.var 7)) (.bin .FloorDiv (.var 11) (.var 1)))) (.cmp .NotEq (.var 2) (.bin .Mod (.var 11) (.var 1)))) (.guard (.or (.cmp .NotEq (.var 5) (.var 3)) (.cmp .NotEq (.var 4) (.bin .Mod (.bin .Sub (.var 2) (.bin .Mult (.var 1) (.var 6))) (.lit 256)))) .nil))
def quoB : CA := (.setT 5 8 (.call3 8 (.lit 2) (.var 5) (.lit 0)) (.setT 4 8 (.call3 8 (.lit 2) (.var 4) (.var 8)) (.setT 4 10 (.ite (.cmp .Eq (.var 6) (.lit 0)) (.call3 3 (.var 4) (.var 1) (.lit 0)) (.call3 2 (.var 4) (.var 1) (.lit 0))) (.set 6 (.bin .BitAnd (.bin .BitXor (.var 8) (.var 10)) (.lit 1)) (.set 5 (.bin .BitOr (.var 5) (.bin .Sub (.lit 1) (.var 6))) (.set 11 (.bin .RShift (.var 0) (.bin .Sub (.lit 8) (.var 7))) quoC))))))
def quoL : CA := (.setT 3 8 (.call3 8 (.lit 2) (.var 3) (.lit 0)) (.setT 2 8 (.call3 8 (.lit 2) (.var 2) (.var 8)) (.setT 9 10 (.call3 3 (.var 2) (.var 1) (.lit 0)) (.ite (.or (.cmp .Eq (.bin .BitAnd (.var 8) (.lit 1)) (.lit 1)) (.cmp .Eq (.bin .BitAnd (.var 10) (.lit 1)) (.lit 0))) (.par2 2 3 (.var 9) (.bin .BitOr (.var 3) (.lit 1)) .nil) .nil quoB))))

theorem or_disj {x y : Int} (k : Nat) (hx : 0 ≤ x) (hy : 0 ≤ y) (hy' : y < 2 ^ k) : Builtin.bitOr (x * 2 ^ k) y = x * 2 ^ k + y := by
  have hp : (0 : Int) ≤ 2 ^ k := Int.le_of_lt (Int.pow_pos (by decide))
  have hc : ((2 ^ k : Nat) : Int) = 2 ^ k := by push_cast; rfl
  rw [or_nat (Int.mul_nonneg hx hp) hy]
  have h : (x * 2 ^ k).toNat = x.toNat <<< k := by
    rw [Nat.shiftLeft_eq, Int.toNat_mul hx hp, ← hc, Int.toNat_natCast]
  rw [h, ← Nat.shiftLeft_add_eq_or_of_lt (by omega) x.toNat, ← h, Int.natCast_add, Int.toNat_of_nonneg (Int.mul_nonneg hx hp), Int.toNat_of_nonneg hy]

theorem quo_step {H by' c : Int} (hb : 1 ≤ by') (hc : c = 0 ∨ c = 1) :
    (2 * (H % by') + c < by' → (2 * H + c) % by' = 2 * (H % by') + c ∧ (2 * H + c) / by' = 2 * (H / by')) ∧
    (by' ≤ 2 * (H % by') + c → (2 * H + c) % by' = 2 * (H % by') + c - by' ∧ (2 * H + c) / by' = 2 * (H / by') + 1) := by
  have h0 := Int.emod_nonneg H (b := by') (by omega)
  have h1 := Int.emod_lt_of_pos H (b := by') (by omega)
  have h2 := Int.emod_add_mul_ediv H by'
  refine ⟨fun h => ?_, fun h => ?_⟩
  · have := (Int.ediv_emod_unique (a := 2 * H + c) (b := by') (r := 2 * (H % by') + c) (q := 2 * (H / by')) (by omega)).mpr ⟨by rw [Int.mul_left_comm]; omega, by omega, h⟩
    exact ⟨this.2, this.1⟩
  · have := (Int.ediv_emod_unique (a := 2 * H + c) (b := by') (r := 2 * (H % by') + c - by') (q := 2 * (H / by') + 1) (by omega)).mpr ⟨by rw [Int.mul_add, Int.mul_left_comm, Int.mul_one]; omega, by omega, by omega⟩
    exact ⟨this.2, this.1⟩
end Mine

namespace Mine
theorem xor_mod (x y : Int) : Builtin.bitAnd (Builtin.bitXor x y) 1 = (x + y) % 2 := by rw [and1, bitXor_and]; omega

theorem quo_half0 {b r c f h1 : Int} (hb : 1 ≤ b) (hb' : b ≤ 255) (r0 : 0 ≤ r) (r1 : r < b) (hc : c = 0 ∨ c = 1) (hf : f = r / 128) (hh : h1 = r * 2 % 256 + c) :
    (f + (if h1 - b - 0 < 0 then 1 else 0)) % 2 = (if 2 * r + c < b then 1 else 0) ∧ (h1 - b - 0) % 256 = (2 * r + c - b) % 256 := by
  subst hf hh
  constructor
  · split <;> split <;> omega
  · omega
theorem quo_half1 {b r c f h h1 : Int} (hb : 1 ≤ b) (hb' : b ≤ 255) (r0 : 0 ≤ r) (r1 : r < b) (hc : c = 0 ∨ c = 1) (e : h = r - b + 256) (hf : f = h / 128) (hh : h1 = h * 2 % 256 + c) :
    (f + (h1 + b + 0) / 256) % 2 = (if 2 * r + c < b then 1 else 0) ∧ (h1 + b + 0) % 256 = (2 * r + c - b) % 256 := by
  subst hf hh e
  constructor
  · split <;> omega
  · omega

structure QuoI (number b : Int) (i : Nat) (rest low half under sign : Int) : Prop where
  r : rest = number / 2 ^ (8 - i) % b
  l : low = number % 2 ^ (8 - i) * 2 ^ i + number / 2 ^ (8 - i) / b
  u : under = low
  s : sign = 0 ∨ sign = 1
  h : half = (rest - b * sign) % 256

theorem ne256 : (256 : Int) ≠ 0 := by decide
theorem quoC_ok {number b rest low half under sign F le to : Int} {i : Nat} (hi : i < 8) (ho : 0 ≤ number) (ho' : number < 256) (hb : 1 ≤ b) (hb' : b ≤ 255) (I : QuoI number b (i + 1) rest low half under sign) :
    wpc (GF 2) quoC (fun σ' => ∃ rest low half under sign, σ'.take 7 = [number, b, rest, low, half, under, sign] ∧ QuoI number b (i + 1) rest low half under sign)
      [number, b, rest, low, half, under, sign, 1 + (i : Int), F, le, to, number.fdiv (2 ^ (8 - (1 + (i : Int))).toNat)] := by
  obtain ⟨ir, il, iu, is, ih⟩ := I
  rw [e87] at ir il
  have hN : number.fdiv (2 ^ (8 - (1 + (i : Int))).toNat) = number / 2 ^ (7 - i) := by rw [tn8, fd_pow]
  obtain ⟨n0, n1, _, _, m0, m1⟩ := quo_rng2 hi ho ho'
  have hq0 : 0 ≤ number / 2 ^ (7 - i) / b := Int.ediv_nonneg n0 (by omega)
  have hq1 : number / 2 ^ (7 - i) / b < 2 ^ (i + 1) := Int.lt_of_le_of_lt (Int.ediv_le_self b n0) n1
  have hM : number.fmod (1 * 2 ^ (8 - (1 + (i : Int))).toNat) = number % 2 ^ (7 - i) := by rw [tn8, Int.one_mul, fm_pow]
  have g1 : low = Builtin.bitOr (number.fmod (1 * 2 ^ (8 - (1 + (i : Int))).toNat) * 2 ^ (1 + (i : Int)).toNat) ((number.fdiv (2 ^ (8 - (1 + (i : Int))).toNat)).fdiv b) := by
    rw [hM, hN, tn1, Int.fdiv_eq_ediv_of_nonneg _ (by omega : 0 ≤ b), or_disj _ m0 hq0 hq1]
    exact il
  have g2 : rest = (number.fdiv (2 ^ (8 - (1 + (i : Int))).toNat)).fmod b := by
    rw [hN, Int.fmod_eq_emod_of_nonneg _ (by omega : 0 ≤ b)]; exact ir
  have g3 : half = (rest - b * sign).fmod 256 := by rw [Int.fmod_eq_emod_of_nonneg _ (by decide)]; exact ih
  have sh8 : 0 ≤ 8 - (1 + (i : Int)) ∧ 8 - (1 + (i : Int)) ≤ 1000000 ∧ (1 : Int).natAbs < 2 ^ 64 := ⟨(s_8 hi).1, (s_8 hi).2, one64⟩
  have shl : 0 ≤ 1 + (i : Int) ∧ 1 + (i : Int) ≤ 1000000 ∧ (number.fmod (1 * 2 ^ (8 - (1 + (i : Int))).toNat)).natAbs < 2 ^ 64 := ⟨(s_1 hi).1, (s_1 hi).2, by rw [hM]; exact na64 m0 m1⟩
  have bn : b ≠ 0 ∧ b.natAbs < 1073741824 := ⟨by omega, by omega⟩
  have bm : b.natAbs < 2 ^ 63 := by omega
  have gg1 : ((low != Builtin.bitOr (number.fmod (1 * 2 ^ (8 - (1 + (i : Int))).toNat) * 2 ^ (1 + (i : Int)).toNat) ((number.fdiv (2 ^ (8 - (1 + (i : Int))).toNat)).fdiv b)) ||
      (rest != (number.fdiv (2 ^ (8 - (1 + (i : Int))).toNat)).fmod b)) = false := by rw [ne_f g1, ne_f g2]; rfl
  have gg2 : ((under != low) || (half != (rest - b * sign).fmod 256)) = false := by rw [ne_f iu, ne_f g3]; rfl
  refine ⟨⟨⟨trivial, ⟨⟨trivial, ⟨trivial, ⟨trivial, trivial, trivial⟩, sh8⟩, pow_ne _⟩, trivial, shl⟩, ⟨trivial, trivial, bn⟩, trivial⟩, fun _ => ⟨trivial, trivial, trivial, bn.1⟩⟩, gg1,
    ⟨⟨trivial, trivial⟩, fun _ => ⟨trivial, ⟨trivial, ⟨trivial, trivial, bm⟩, trivial⟩, trivial, ne256⟩⟩, gg2, ?_⟩
  exact ⟨rest, low, half, under, sign, rfl, by rw [e87]; exact ir, by rw [e87]; exact il, iu, is, ih⟩
end Mine

namespace Mine
def quoP (number b : Int) (i : Nat) (σ' : List Int) : Prop := ∃ rest low half under sign, σ'.take 7 = [number, b, rest, low, half, under, sign] ∧ QuoI number b (i + 1) rest low half under sign
def quoB2 : CA := (.set 6 (.bin .BitAnd (.bin .BitXor (.var 8) (.var 10)) (.lit 1)) (.set 5 (.bin .BitOr (.var 5) (.bin .Sub (.lit 1) (.var 6))) (.set 11 (.bin .RShift (.var 0) (.bin .Sub (.lit 8) (.var 7))) quoC)))

theorem quoB2_ok {number b rest low R h3 sign F le T rest2 low2 : Int} {i : Nat} (hi : i < 8) (ho : 0 ≤ number) (ho' : number < 256) (hb : 1 ≤ b) (hb' : b ≤ 255)
    (hr : rest = number / 2 ^ (8 - i) % b) (hl : low = number % 2 ^ (8 - i) * 2 ^ i + number / 2 ^ (8 - i) / b) (hR : R = 2 * rest + low / 128) (hrest2 : rest2 = if R < b then R else R - b) (hlow2 : low2 = low * 2 % 256 + if R < b then 0 else 1)
    (hs : (F + T) % 2 = if R < b then 1 else 0) (hh : h3 = (R - b) % 256) :
    wpc (GF 2) quoB2 (quoP number b i) [number, b, rest2, low2, h3, low * 2 % 256, sign, 1 + (i : Int), F, le, T] := by
  obtain ⟨_, _, hq0, hqp, _, _⟩ := quo_rng2 hi ho ho'
  have hQ0 : 0 ≤ number / 2 ^ (8 - i) / b := Int.ediv_nonneg hq0 (by omega)
  have hQ1 : number / 2 ^ (8 - i) / b < 2 ^ i := Int.lt_of_le_of_lt (Int.ediv_le_self b hq0) hqp
  obtain ⟨⟨l0, l1⟩, k1, k2⟩ := quo_low2 (Q := number / 2 ^ (8 - i) / b) hi ho ho' hQ0 hQ1
  rw [← hl] at l0 l1 k1 k2
  have hc : low / 128 = 0 ∨ low / 128 = 1 := d01 l0 l1
  obtain ⟨s1, s2⟩ := quo_step (H := number / 2 ^ (8 - i)) (by' := b) (c := low / 128) hb hc
  rw [← k2, ← hr, ← hR] at s1 s2
  have hsx : Builtin.bitAnd (Builtin.bitXor F T) 1 = if R < b then 1 else 0 := by rw [xor_mod, hs]
  have hu : Builtin.bitOr (low * 2 % 256) (1 - Builtin.bitAnd (Builtin.bitXor F T) 1) = low2 := by
    rw [hsx, hlow2, bit_or_low (by omega) (by split <;> simp)]
    split <;> rfl
  have s8 : (0 : Int) ≤ 8 - (1 + (i : Int)) := (s_8 hi).1
  refine ⟨⟨⟨trivial, trivial, trivial⟩, trivial, trivial⟩, ?_⟩
  change wpc _ _ _ [number, b, rest2, low2, h3, low * 2 % 256, Builtin.bitAnd (Builtin.bitXor F T) 1, 1 + (i : Int), F, le, T]
  refine ⟨⟨trivial, ⟨trivial, trivial, trivial⟩, trivial⟩, ?_⟩
  change wpc _ _ _ [number, b, rest2, low2, h3, Builtin.bitOr (low * 2 % 256) (1 - Builtin.bitAnd (Builtin.bitXor F T) 1), Builtin.bitAnd (Builtin.bitXor F T) 1, 1 + (i : Int), F, le, T]
  rw [hu, hsx]
  refine ⟨⟨trivial, ⟨trivial, trivial, trivial⟩, s8⟩, ?_⟩
  refine quoC_ok hi ho ho' hb hb' ⟨?_, ?_, rfl, by split <;> simp, ?_⟩
  · rw [e87, hrest2]
    by_cases h : R < b
    · rw [if_pos h, (s1 h).1]
    · rw [if_neg h, (s2 (by omega)).1]
  · rw [e87, hlow2, k1]
    by_cases h : R < b
    · rw [if_pos h, (s1 h).2]; omega
    · rw [if_neg h, (s2 (by omega)).2]; omega
  · rw [hh, hrest2]
    by_cases h : R < b
    · rw [if_pos h, if_pos h, Int.mul_one]
    · rw [if_neg h, if_neg h, Int.mul_zero, Int.sub_zero]

theorem quoB_ok {number b rest low half under sign R F le to rest2 low2 : Int} {i : Nat} (hi : i < 8) (ho : 0 ≤ number) (ho' : number < 256) (hb : 1 ≤ b) (hb' : b ≤ 255) (I : QuoI number b i rest low half under sign)
    (l0 : 0 ≤ low) (l1 : low < 256) (hR : R = 2 * rest + low / 128) (hrest2 : rest2 = if R < b then R else R - b) (hlow2 : low2 = low * 2 % 256 + if R < b then 0 else 1) :
    wpc (GF 2) quoB (quoP number b i) [number, b, rest2, low2, half, under, sign, 1 + (i : Int), F, le, to] := by
  obtain ⟨ir, il, iu, is, ih⟩ := I
  subst iu
  have r0 : 0 ≤ rest := by rw [ir]; exact Int.emod_nonneg _ (by omega)
  have r1 : rest < b := by rw [ir]; exact Int.emod_lt_of_pos _ (by omega)
  have hc : under / 128 = 0 ∨ under / 128 = 1 := d01 l0 l1
  obtain ⟨e1, q1, m1⟩ := rol (A := under) (F := 0) l0 l1
  refine ⟨⟨trivial, trivial, trivial, l22, rfl, .inl rfl, ⟨l0, l1⟩, z00, z0l⟩, rfl, ?_⟩
  change wpc _ _ _ [number, b, rest2, low2, half, tuR 2 under 0, sign, 1 + (i : Int), roF 2 under 0, le, to]
  rw [t_l0 l0 l1]
  clear e1
  generalize roF 2 under 0 = F1 at q1 m1 ⊢
  have hf0 : 0 ≤ half ∧ half < 256 := by rw [ih]; exact ⟨md0 _, md1 _⟩
  obtain ⟨e2, q2, m2⟩ := rol (A := half) (F := F1) hf0.1 hf0.2
  refine ⟨⟨trivial, trivial, trivial, l22, rfl, .inl rfl, hf0, q1⟩, rfl, ?_⟩
  change wpc _ _ _ [number, b, rest2, low2, tuR 2 half F1, under * 2 % 256, sign, 1 + (i : Int), roF 2 half F1, le, to]
  rw [m1] at e2
  have hh0 : 0 ≤ tuR 2 half F1 ∧ tuR 2 half F1 < 256 := t_l hf0.1 hf0.2
  generalize tuR 2 half F1 = h1 at e2 hh0 ⊢
  generalize roF 2 half F1 = F2 at m2 ⊢
  rcases is with rfl | rfl
  · have ih' : half = rest := by rw [ih, Int.mul_zero]; exact hz r0 r1 hb'
    subst ih'
    obtain ⟨x1, x2⟩ := quo_half0 hb hb' r0 r1 hc m2 e2
    refine ⟨⟨⟨trivial, trivial⟩, fun _ => ⟨trivial, trivial, trivial, l22, rfl⟩, fun _ => ⟨trivial, trivial, trivial, l22, rfl⟩⟩, rfl, ?_⟩
    change wpc _ _ _ [number, b, rest2, low2, subR h1 b 0, under * 2 % 256, 0, 1 + (i : Int), F2, le, subF h1 b 0]
    have hsc := sub_c (a := h1) (b := b) (c := 0) hh0.1 (le0 hb)
    exact quoB2_ok hi ho ho' hb hb' ir il hR hrest2 hlow2 (by rw [← hR] at x1; rw [← x1, ← hsc]; exact Int.add_emod _ _ _) (by rw [subR_v, hR]; exact x2)
  · have ih' : half = rest - b + 256 := by rw [ih, Int.mul_one]; exact hy r0 r1 hb'
    obtain ⟨x1, x2⟩ := quo_half1 hb hb' r0 r1 hc ih' m2 e2
    refine ⟨⟨⟨trivial, trivial⟩, fun _ => ⟨trivial, trivial, trivial, l22, rfl⟩, fun _ => ⟨trivial, trivial, trivial, l22, rfl⟩⟩, rfl, ?_⟩
    change wpc _ _ _ [number, b, rest2, low2, addR h1 b 0, under * 2 % 256, 1, 1 + (i : Int), F2, le, addF h1 b 0]
    have hac := add_c (a := h1) (b := b) (c := 0) hh0.1 (le0 hb) (by decide) hh0.2 (lt256 hb') (by decide)
    exact quoB2_ok hi ho ho' hb hb' ir il hR hrest2 hlow2 (by rw [← hR] at x1; rw [← x1, ← hac]; exact Int.add_emod _ _ _) (by rw [addR_v, hR]; exact x2)
end Mine

namespace Mine
theorem qt_x {b x rest low t : Int} (hb' : b ≤ 255) (r1 : rest < b) (hx : x = rest * 2 % 256 + low / 128) (l0 : 0 ≤ low) (l1 : low < 256) (r0 : 0 ≤ rest) (hlt : 2 * rest + low / 128 < b) : rest / 128 ≠ 1 ∧ x = 2 * rest + low / 128 ∧ x - b - 0 < 0 := by omega
theorem qt_y {b x rest low : Int} (hb : 1 ≤ b) (r1 : rest < b) (hx : x = rest * 2 % 256 + low / 128) (l0 : 0 ≤ low) (l1 : low < 256) (r0 : 0 ≤ rest) (hb' : b ≤ 255) (h1 : rest / 128 ≠ 1) (h2 : x - b - 0 < 0) : 2 * rest + low / 128 < b := by omega
theorem qt_s {b x rest low : Int} (hb : 1 ≤ b) (r1 : rest < b) (hx : x = rest * 2 % 256 + low / 128) (l0 : 0 ≤ low) (l1 : low < 256) (r0 : 0 ≤ rest) (hb' : b ≤ 255) (h : ¬ (2 * rest + low / 128 < b)) : (x - b - 0) % 256 = 2 * rest + low / 128 - b := by omega
theorem ev2 (x : Int) : x * 2 % 256 % 2 = 0 := by omega
theorem quo_turn {number b rest low half under sign : Int} {i : Nat} (hi : i < 8) (ho : 0 ≤ number) (ho' : number < 256) (hb : 1 ≤ b) (hb' : b ≤ 255) (I : QuoI number b i rest low half under sign) :
    wpc (GF 2) quoL (quoP number b i) [number, b, rest, low, half, under, sign, 1 + (i : Int)] := by
  obtain ⟨ir, il, iu, is, ih⟩ := id I
  obtain ⟨_, _, hq0, hqp, _, _⟩ := quo_rng2 hi ho ho'
  have hQ0 : 0 ≤ number / 2 ^ (8 - i) / b := Int.ediv_nonneg hq0 (by omega)
  have hQ1 : number / 2 ^ (8 - i) / b < 2 ^ i := Int.lt_of_le_of_lt (Int.ediv_le_self b hq0) hqp
  obtain ⟨⟨l0, l1⟩, _, _⟩ := quo_low2 (Q := number / 2 ^ (8 - i) / b) hi ho ho' hQ0 hQ1
  rw [← il] at l0 l1
  have r0 : 0 ≤ rest := by rw [ir]; exact Int.emod_nonneg _ (by omega)
  have r1 : rest < b := by rw [ir]; exact Int.emod_lt_of_pos _ (by omega)
  clear hq0 hqp hQ0 hQ1
  obtain ⟨e1, q1, m1⟩ := rol (A := low) (F := 0) l0 l1
  refine ⟨⟨trivial, trivial, trivial, l22, rfl, .inl rfl, ⟨l0, l1⟩, z00, z0l⟩, rfl, ?_⟩
  change wpc _ _ _ [number, b, rest, tuR 2 low 0, half, under, sign, 1 + (i : Int), roF 2 low 0]
  rw [t_l0 l0 l1]
  clear e1
  generalize roF 2 low 0 = F0 at q1 m1 ⊢
  have hr256 : 0 ≤ rest ∧ rest < 256 := ⟨r0, Int.lt_of_lt_of_le r1 (Int.le_of_lt (lt256 hb'))⟩
  obtain ⟨e2, q2, m2⟩ := rol (A := rest) (F := F0) hr256.1 hr256.2
  refine ⟨⟨trivial, trivial, trivial, l22, rfl, .inl rfl, hr256, q1⟩, rfl, ?_⟩
  change wpc _ _ _ [number, b, tuR 2 rest F0, low * 2 % 256, half, under, sign, 1 + (i : Int), roF 2 rest F0]
  rw [m1] at e2
  have hx0 : 0 ≤ tuR 2 rest F0 ∧ tuR 2 rest F0 < 256 := t_l hr256.1 hr256.2
  generalize tuR 2 rest F0 = x at e2 hx0 ⊢
  generalize roF 2 rest F0 = F1 at m2 ⊢
  refine ⟨⟨trivial, trivial, trivial, l22, rfl⟩, rfl, ?_⟩
  change wpc _ _ _ [number, b, x, low * 2 % 256, half, under, sign, 1 + (i : Int), F1, subR x b 0, subF x b 0]
  have hsc := sub_c (a := x) (b := b) (c := 0) hx0.1 (le0 hb)
  have hsr := subR_v (a := x) (b := b) (c := 0)
  generalize subR x b 0 = le at hsr ⊢
  generalize subF x b 0 = to at hsc ⊢
  refine ⟨⟨⟨⟨trivial, trivial, trivial⟩, trivial⟩, fun _ => ⟨⟨trivial, trivial, trivial⟩, trivial⟩⟩, fun h => ?_, fun h => ?_⟩
  · have h : ((Builtin.bitAnd F1 1 == 1) || (Builtin.bitAnd to 1 == 0)) = true := h
    rw [and1, and1, m2, hsc] at h
    have hge : ¬ (2 * rest + low / 128 < b) := by
      intro hlt
      obtain ⟨y1, _, y2⟩ := qt_x (t := 0) hb' r1 e2 l0 l1 r0 hlt
      rw [Bool.or_eq_true] at h
      rcases h with h | h
      · exact y1 (eq_t h)
      · have := eq_t h
        rw [if_pos y2] at this
        exact absurd this (by decide)
    refine ⟨trivial, ⟨trivial, trivial, trivial⟩, ?_⟩
    change wpc _ _ _ [number, b, le, Builtin.bitOr (low * 2 % 256) 1, half, under, sign, 1 + (i : Int), F1, le, to]
    rw [bit_or_low (ev2 _) (.inr rfl)]
    exact quoB_ok (R := 2 * rest + low / 128) hi ho ho' hb hb' I l0 l1 rfl (by rw [if_neg hge, hsr]; exact qt_s hb r1 e2 l0 l1 r0 hb' hge) (by rw [if_neg hge])
  · have h : ((Builtin.bitAnd F1 1 == 1) || (Builtin.bitAnd to 1 == 0)) = false := h
    rw [and1, and1, m2, hsc, Bool.or_eq_false_iff] at h
    have h1 := eq_f h.1
    have h2 := eq_f h.2
    have hlt : 2 * rest + low / 128 < b := by
      split at h2
      · rename_i y
        exact qt_y hb r1 e2 l0 l1 r0 hb' h1 y
      · exact absurd rfl h2
    exact quoB_ok (R := 2 * rest + low / 128) hi ho ho' hb hb' I l0 l1 rfl (by rw [if_pos hlt]; exact (qt_x (t := 0) hb' r1 e2 l0 l1 r0 hlt).2.1) (by rw [if_pos hlt, Int.add_zero])

section
variable {w : World} {p : Program} {loose : List Str} {mean : ExcName → Option Value} {mg mb : Str → Option Value}
theorem quotient_ok (number b : Int) (ho : 0 ≤ number) (ho' : number < 256) (hb : 1 ≤ b) (hb' : b ≤ 255) : CallOK PySem.Challenge.rw_xm0998_01.row.prog w (hd.heap_39 w.params) p loose mean mg mb 3 133 [number, b] (.tup [number / b, number % b]) := by
  refine fn_ok (d := 2) (S := ⟨_, CN, FN, GF 2⟩) (xs := ["number", "by"]) (by exact rfl) (by kernel_rfl!) ?_ (by decide +kernel) (by decide +kernel) rfl rfl rfl (by decide) (so2 rfl) ?_
  · intro s vs hi
    obtain ⟨t, u, rfl⟩ := ints2' hi
    exact BindsTo.of_eq rfl
  · refine body_for_ret2 1 40 (vars := ["number", "by", "rest", "low", "half", "under", "sign"]) (more := ["flags", "less", "told", "high"]) (x := "turn") (ca := (.par5 2 3 4 5 6 (.lit 0) (.var 0) (.lit 0) (.var 0) (.lit 0) .nil)) (cl := quoL) (c1 := (.var 3)) (c2 := (.var 2))
      rfl (by repeat' (first | kernel_rfl! | constructor)) (by decide +kernel) (by decide +kernel) (by decide +kernel) (range_none _) (by repeat' (first | kernel_rfl! | constructor)) (by repeat' (first | kernel_rfl! | constructor)) (by repeat' (first | kernel_rfl! | constructor))
      (fun i σ => ∃ rest low half under sign, σ = [number, b, rest, low, half, under, sign] ∧ QuoI number b i rest low half under sign) ?_ ?_ ?_
    · refine ⟨trivial, trivial, trivial, trivial, trivial, 0, number, 0, number, 0, rfl, ?_, ?_, rfl, .inl rfl, ?_⟩
      · show 0 = number / 256 % b
        rw [show number / 256 = 0 by omega, Int.zero_emod]
      · show number = number % 256 * 1 + number / 256 / b
        rw [show number / 256 = 0 by omega, Int.zero_ediv]; omega
      · rw [Int.mul_zero]; rfl
    · rintro i σ hi _ ⟨rest, low, half, under, sign, rfl, I⟩
      exact quo_turn hi ho ho' hb hb' I
    · rintro σ _ ⟨rest, low, half, under, sign, rfl, I⟩
      refine ⟨trivial, trivial, ?_, ?_⟩
      · have e : low = number % 1 * 256 + number / 1 / b := I.l
        rw [Int.emod_one, Int.ediv_one, Int.zero_mul, Int.zero_add] at e
        exact e
      · have e : rest = number / 1 % b := I.r
        rw [Int.ediv_one] at e
        exact e
end
end Mine

namespace Mine
set_option maxHeartbeats 8000000
theorem fm_nn {b : Int} (hb : 0 < b) (x : Int) : 0 ≤ x.fmod b := by rw [Int.fmod_eq_emod_of_nonneg x (by omega)]; exact Int.emod_nonneg x (by omega)
theorem fm_lt {b : Int} (hb : 0 < b) (x : Int) : x.fmod b < b := by rw [Int.fmod_eq_emod_of_nonneg x (by omega)]; exact Int.emod_lt_of_pos x hb
section
variable {w : World} {p : Program} {loose : List Str} {mean : ExcName → Option Value} {mg mb : Str → Option Value}
theorem next_ok {t many : Int} (ht0 : 0 ≤ t) (ht1 : t < 1000) (hm : 0 < many) {A₀ A : Around} {base h₀ : Heap} {outer : List Env} {env : Env} {L : Addr} {m : Str → Option Value} {own : Led} {s : Shared} {Q E : Value → Shared → Prop}
    {fd cl : Addr} {vs : List Value} {ns : List Int} {tk n1 n2 : Nat} {b : Tok}
    (B : Below A₀ base outer h₀) (F : Fr h₀ L s.heap m) (X : (hd.heap_39 w.params).In h₀) (N : News h₀ L s.heap ((fd, listOf #[.ref cl, .int t tk] n1) :: (cl, listOf vs.toArray n2) :: own)) (T : Top p loose mean mg mb h₀)
    (hA : A.frames = some (env :: outer)) (hf : env.frame = some L) (hk : env.scope.kind = .function) (hh : A.handled = none) (hd : A.depth + 1 < recursionLimit) (hu : A.units + 64 + 3 * 1 < cLine)
    (hi : IntsAre vs ns) (hlen : ns.length ≤ 18) (hoff : OwnOff own [fd, cl]) (hne : @LT.lt Nat _ cl fd)
    (kk : ∀ v u tk' n1' h' k, 0 ≤ v → v < many → Fr h₀ L h' m → News h₀ L h' ((fd, listOf #[.ref cl, .int (t + 1) tk'] n1') :: (cl, listOf vs.toArray n2) :: own) → Q (.int v u) { s with heap := h', toks := k }) :
    wpAny (model PySem.Challenge.rw_xm0998_01.row.prog w) A (call (.ref 84) [.ref fd, .int many b]) Q E s := by
  revert X
  k_fill
  intro X
  obtain ⟨hand, dp, fr, gd, un⟩ := A
  cases hA
  cases hh
  refine wpAny_call (code_def B F X N T rfl hf hk (by exact rfl) (by kernel_rfl!) (Nat.lt_of_le_of_lt (Nat.le_add_right _ _) hd) (BindsTo.of_eq rfl) (locs rfl) ?_ rfl rfl rfl (by decide))
  intro g L' h₁ FG F' N' B' X' T'
  clear FG F X T B N
  (try k_fold)
  k_steps
  all_goals (refine leaveK_ (by assumption) (by assumption) fun F3 N3 => kk _ _ _ _ _ _ (fm_nn hm _) (fm_lt hm _) F3 N3)
end
end Mine

namespace Mine
set_option maxHeartbeats 8000000
local macro_rules | `(tactic| walk_at "call ref") => `(tactic| (k_here; (with_reducible show wpAny _ _ (call (Value.ref 84) _) _ _ _); k_dflt (refine' next_ok ?ht0 ?ht1 ?hm ?B ?F ?X ?N ?T ?hA ?hf ?hk ?hh ?hd ?hu ?hi ?hlen ?hoff ?hne ?_; (case B => k_asm); (case F => k_asm); (case X => k_asm); (case N => k_asm); (case T => k_asm); (case hA => exact rfl); (case hf => exact rfl); (case hk => exact rfl); (case hh => exact rfl); (case hd => assumption); (case hu => assumption); (case hi => assumption); (case hlen => assumption); (case hoff => assumption); (case hne => assumption); (case ht0 => omega); (case ht1 => omega); (case hm => decide)); intro v9 u9 tk9 n9 h9 k9 lo9 hi9 F9 N9; (try k_sweep)))
theorem menu_b (n : Nat) : 0 ≤ ([0, 1, 127, 128, 255] : List Int).getD n 0 ∧ ([0, 1, 127, 128, 255] : List Int).getD n 0 < 256 := by
  match n with
  | 0 => decide
  | 1 => decide
  | 2 => decide
  | 3 => decide
  | 4 => decide
  | _ + 5 => exact ⟨Int.le_refl 0, (by decide : (0 : Int) < 256)⟩
section
variable {w : World} {p : Program} {loose : List Str} {mean : ExcName → Option Value} {mg mb : Str → Option Value}
theorem octet_ok {t : Int} (ht0 : 0 ≤ t) (ht1 : t < 900) {A₀ A : Around} {base h₀ : Heap} {outer : List Env} {env : Env} {L : Addr} {m : Str → Option Value} {own : Led} {s : Shared} {Q E : Value → Shared → Prop}
    {fd cl : Addr} {vs : List Value} {ns : List Int} {tk n1 n2 : Nat}
    (B : Below A₀ base outer h₀) (F : Fr h₀ L s.heap m) (X : (hd.heap_39 w.params).In h₀) (N : News h₀ L s.heap ((fd, listOf #[.ref cl, .int t tk] n1) :: (cl, listOf vs.toArray n2) :: own)) (T : Top p loose mean mg mb h₀)
    (hA : A.frames = some (env :: outer)) (hf : env.frame = some L) (hk : env.scope.kind = .function) (hh : A.handled = none) (hd : A.depth + 2 < recursionLimit) (hu : A.units + 64 + 3 * 2 < cLine)
    (hi : IntsAre vs ns) (hlen : ns.length ≤ 18) (hoff : OwnOff own [fd, cl]) (hne : @LT.lt Nat _ cl fd)
    (kk : ∀ v u t' tk' n1' h' k, 0 ≤ v → v < 256 → t < t' → t' ≤ t + 2 → Fr h₀ L h' m → News h₀ L h' ((fd, listOf #[.ref cl, .int t' tk'] n1') :: (cl, listOf vs.toArray n2) :: own) → Q (.int v u) { s with heap := h', toks := k }) :
    wpAny (model PySem.Challenge.rw_xm0998_01.row.prog w) A (call (.ref 91) [.ref fd]) Q E s := by
  revert X
  k_fill
  intro X
  obtain ⟨hand, dp, fr, gd, un⟩ := A
  cases hA
  cases hh
  refine wpAny_call (code_def B F X N T rfl hf hk (by exact rfl) (by kernel_rfl!) (Nat.lt_of_le_of_lt (Nat.le_add_right _ _) hd) (BindsTo.of_eq rfl) (locs rfl) ?_ rfl rfl rfl (by decide))
  intro g L' h₁ FG F' N' B' X' T'
  clear FG F X T B N
  have hd2 : dp + 1 + 1 < recursionLimit := hd
  have hu2 : un + 3 + 64 + 3 * 1 < cLine := by have : un + 64 + 3 * 2 < cLine := hu; omega
  (try k_fold)
  k_steps
  · refine leaveK_ (by assumption) (by assumption) fun F3 N3 => kk _ _ _ _ _ _ _ (by assumption) (by assumption) ?_ ?_ F3 N3 <;> omega
  · refine leaveK_ (by assumption) (by assumption) fun F3 N3 => kk _ _ _ _ _ _ _ (menu_b _).1 (menu_b _).2 ?_ ?_ F3 (fun q hq => N3 q (.tail _ hq)) <;> omega
end
end Mine

namespace Mine
section
variable {prog : Program} {w : World} {K : Frag} {p : Program} {loose : List Str} {mean : ExcName → Option Value} {mg mb : Str → Option Value}
variable {d : Nat} {f : Addr} {args : List Int} {A₀ A : Around} {base h₀ : Heap} {outer : List Env} {env : Env} {L : Addr} {m : Str → Option Value} {news : Led} {s : Shared} {Q E : Value → Shared → Prop} {vs : List Value}
theorem call_int {r : Int} (C : CallOK prog w K p loose mean mg mb d f args (.int r)) (B : Below A₀ base outer h₀) (F : Fr h₀ L s.heap m) (X : K.In h₀) (N : News h₀ L s.heap news) (T : Top p loose mean mg mb h₀)
    (hA : A.frames = some (env :: outer)) (hf : env.frame = some L) (hk : env.scope.kind = .function) (hh : A.handled = none) (hd : A.depth + d < recursionLimit) (hu : A.units + 64 + 3 * d < cLine) (hi : IntsAre vs args)
    (kk : ∀ v t h' k, v = r → Fr h₀ L h' m → News h₀ L h' news → Q (.int v t) { s with heap := h', toks := k }) : wpAny (model prog w) A (call (.ref f) vs) Q E s :=
  C A₀ A base h₀ outer env L m news s Q E vs B F X N T hA hf hk hh hd hu hi (by
    rintro v h' tk' news' ⟨t, rfl⟩ F' N' sub
    exact kk r t h' tk' rfl F' fun q hq => N' q (sub q hq))
theorem call_true (C : CallOK prog w K p loose mean mg mb d f args (.bool true)) (B : Below A₀ base outer h₀) (F : Fr h₀ L s.heap m) (X : K.In h₀) (N : News h₀ L s.heap news) (T : Top p loose mean mg mb h₀)
    (hA : A.frames = some (env :: outer)) (hf : env.frame = some L) (hk : env.scope.kind = .function) (hh : A.handled = none) (hd : A.depth + d < recursionLimit) (hu : A.units + 64 + 3 * d < cLine) (hi : IntsAre vs args)
    (kk : ∀ h' k, Fr h₀ L h' m → News h₀ L h' news → Q (.bool true) { s with heap := h', toks := k }) : wpAny (model prog w) A (call (.ref f) vs) Q E s :=
  C A₀ A base h₀ outer env L m news s Q E vs B F X N T hA hf hk hh hd hu hi (by
    rintro v h' tk' news' rfl F' N' sub
    exact kk h' tk' F' fun q hq => N' q (sub q hq))
theorem call_pair {a b : Int} (C : CallOK prog w K p loose mean mg mb d f args (.tup [a, b])) (B : Below A₀ base outer h₀) (F : Fr h₀ L s.heap m) (X : K.In h₀) (N : News h₀ L s.heap news) (T : Top p loose mean mg mb h₀)
    (hA : A.frames = some (env :: outer)) (hf : env.frame = some L) (hk : env.scope.kind = .function) (hh : A.handled = none) (hd : A.depth + d < recursionLimit) (hu : A.units + 64 + 3 * d < cLine) (hi : IntsAre vs args)
    (kk : ∀ D t u c h' k, Fr h₀ L h' m → News h₀ L h' ((D, ({ cls := .type "tuple", data := .seq #[.int a t, .int b u] c } : Obj)) :: news) → Q (.ref D) { s with heap := h', toks := k }) : wpAny (model prog w) A (call (.ref f) vs) Q E s :=
  C A₀ A base h₀ outer env L m news s Q E vs B F X N T hA hf hk hh hd hu hi (by
    rintro v h' tk' news' ⟨D, vs', c, rfl, hm, hi'⟩ F' N' sub
    obtain ⟨t, u, rfl⟩ := ints2 hi' rfl
    refine kk D t u c h' tk' F' fun q hq => ?_
    rcases List.mem_cons.mp hq with rfl | hq
    · exact N' _ hm
    · exact N' q (sub q hq))
end

/-! what the law's own reckoning asks -/
theorem signed_eq {one other : Int} (h0 : 0 ≤ one) (h1 : one < 256) (h2 : 0 ≤ other) (h3 : other < 256) :
    (sgI one * sgI other) % 65536 = (one * other - 256 * ((if 127 < one then other else 0) + (if 127 < other then one else 0))) % 65536 := by
  rcases sg_in h0 h1 with ⟨x1, e1⟩ | ⟨x1, e1⟩ <;> rcases sg_in h2 h3 with ⟨x2, e2⟩ | ⟨x2, e2⟩ <;> rw [e1, e2]
  · rw [if_pos (by omega), if_pos (by omega)]
    have : (one - 256) * (other - 256) = one * other - 256 * (other + one) + 65536 := by
      rw [Int.sub_mul, Int.mul_sub, Int.mul_sub]; omega
    rw [this]; omega
  · rw [if_pos (by omega), if_neg (by omega)]
    have : (one - 256) * other = one * other - 256 * (other + 0) := by rw [Int.sub_mul]; omega
    rw [this]
  · rw [if_neg (by omega), if_pos (by omega)]
    have : one * (other - 256) = one * other - 256 * (0 + one) := by rw [Int.mul_sub]; omega
    rw [this]
  · rw [if_neg (by omega), if_neg (by omega)]
    have : one * other = one * other - 256 * (0 + 0) := by omega
    rw [← this]

section
variable {prog : Program} {w : World} {A : Around} {E : Value → Shared → Prop} {s : Shared} {env : Env} {h₀ : Heap} {x : Str} {body : List Stmt} {Q : Flow → Shared → Prop}
/-- behind a turn of the law's loop -/
def FeedPost (h₀ : Heap) (L : Addr) (fd cl : Addr) (vs : List Value) (n2 : Nat) (own : Led) (b : Int) (Q : Flow → Shared → Prop) (s₁ : Shared) (f : Flow) (s₂ : Shared) : Prop := match f with
  | .ret v => Q (.ret v) s₂
  | .brk => Q .next s₂
  | _ => ∃ h' k m' t' tk' n1', s₂ = { s₁ with heap := h', toks := k } ∧ Fr h₀ L h' m' ∧ News h₀ L h' ((fd, listOf #[.ref cl, .int t' tk'] n1') :: (cl, listOf vs.toArray n2) :: own) ∧ m' ("feed" : Str) = some (.ref fd) ∧ 0 ≤ t' ∧ t' ≤ b

theorem feed_loop {r : Addr} {b : Int} {t₀ u₀ v₀ : Tok} {fd cl : Addr} {vs : List Value} {n1 n2 tk : Nat} {t : Int} {m₀ : Str → Option Value} (hh : A.handled = none) (hr : IsRange s.heap r 0 b 1 t₀ u₀ v₀) (hb0 : 0 ≤ b) (hb1 : b ≤ 100)
    (F : Fr h₀ env.locals s.heap m₀) (N : News h₀ env.locals s.heap [(fd, listOf #[.ref cl, .int t tk] n1), (cl, listOf vs.toArray n2)]) (ht0 : 0 ≤ t) (ht1 : t ≤ 1) (hm : m₀ ("feed" : Str) = some (.ref fd))
    (turn : ∀ (u : Str → Option Value) (t : Int) tk n1 v h k own, 0 ≤ t → t ≤ 800 → OwnOff own [fd, cl] → Fr h₀ env.locals h (fun y => if y = x then some v else if y = ("feed" : Str) then some (.ref fd) else u y) →
      News h₀ env.locals h ((fd, listOf #[.ref cl, .int t tk] n1) :: (cl, listOf vs.toArray n2) :: own) →
      wpAny (model prog w) A (execs body env) (FeedPost h₀ env.locals fd cl vs n2 own (t + 6) Q { s with heap := h, toks := k }) E { s with heap := h, toks := k })
    (done : ∀ m₁ h k, Fr h₀ env.locals h m₁ → Q .next { s with heap := h, toks := k }) :
    wpAny (model prog w) A (pyIter (.ref r)) (fun it s₂ => LoopAtV prog w A h₀ env x body Q E it s₂) E s := by
  have hn : Builtin.Range.rangeSize 0 b 1 = ((b.toNat : Nat) : Int) := by rw [rangeSize_nat]; omega
  refine wpAny_pyIter_range hr (small_one (by decide) (by decide) (by omega) (by omega)) ?_
  have W : Walks prog w A s.heap.objs.size [s.heap.objs.size] [s.heap.objs.size] b.toNat (fun i v => i < b.toNat ∧ ∃ t, v = .int (0 + i * 1) t)
      (fun i h => IsRangeIter h s.heap.objs.size (0 + (i : Nat) * 1) (((b.toNat : Nat) : Int) - (i : Nat)) 1) := (Walks.range hh _ 0 1 b.toNat).bound
  refine loop_invN (fun i m nx => ∃ t tk n1, nx = [(fd, listOf #[.ref cl, .int t tk] n1), (cl, listOf vs.toArray n2)] ∧ m ("feed" : Str) = some (.ref fd) ∧ 0 ≤ t ∧ t ≤ 1 + 6 * (i : Int)) W ?_ ?_ ?_ ?_ (by show IsRangeIter _ _ _ _ _; rw [hn]; simpa using Heap.get?_push_size _ rfl) (F.push _)
    (fun q hq => ⟨Heap.get?_push_of_some _ (N q hq).1, (N q hq).2⟩) ⟨t, tk, n1, rfl, hm, ht0, by show t ≤ 1 + 6 * ((0 : Nat) : Int); omega⟩ ?_ ?_
  · intro hm
    exact absurd F.ns.lt ((List.mem_singleton.mp hm) ▸ Nat.lt_irrefl _)
  · intro b hb
    rw [List.mem_singleton.mp hb]
    exact next_is_new F
  · intro q hq hI
    exact absurd (Heap.lt_size (N q hq).1) ((List.mem_singleton.mp hI) ▸ Nat.lt_irrefl _)
  · intro q hq hI
    exact absurd (Heap.lt_size (N q hq).1) ((List.mem_singleton.mp hI) ▸ Nat.lt_irrefl _)
  · rintro i v m₁ news₁ h2 k own hi _ _ hoff ⟨t', tk', n1', rfl, hm', ht0', ht1'⟩ F2 N2
    have em : (fun y => if y = x then some v else m₁ y) = fun y => if y = x then some v else if y = ("feed" : Str) then some (.ref fd) else m₁ y := by
      funext y
      by_cases h1 : y = x
      · rw [if_pos h1, if_pos h1]
      · rw [if_neg h1, if_neg h1]
        by_cases h2 : y = ("feed" : Str)
        · rw [if_pos h2, h2, hm']
        · rw [if_neg h2]
    rw [em] at F2
    refine wpAny_mono (turn m₁ t' tk' n1' v h2 k own ht0' (by omega) hoff F2 N2) (fun f s₂ hp => ?_) fun _ _ e => e
    have up : (∃ h' k m' t'' tk'' n1'', s₂ = { s with heap := h', toks := k } ∧ Fr h₀ env.locals h' m' ∧ News h₀ env.locals h' ((fd, listOf #[.ref cl, .int t'' tk''] n1'') :: (cl, listOf vs.toArray n2) :: own) ∧ m' ("feed" : Str) = some (.ref fd) ∧ 0 ≤ t'' ∧ t'' ≤ t' + 6) →
        InvEndN h₀ env.locals (fun m nx => ∃ t tk n1, nx = [(fd, listOf #[.ref cl, .int t tk] n1), (cl, listOf vs.toArray n2)] ∧ m ("feed" : Str) = some (.ref fd) ∧ 0 ≤ t ∧ t ≤ 1 + 6 * (((i + 1 : Nat)) : Int)) own [fd, cl] { s with heap := h2, toks := k } s₂ := by
      rintro ⟨h3, k3, m3, t3, tk3, n3, rfl, F3, N3, hm3, a3, b3⟩
      refine ⟨h3, k3, m3, _, [(fd, listOf #[.ref cl, .int t3 tk3] n3), (cl, listOf vs.toArray n2)], rfl, F3, N3, ?_, ?_, rfl, t3, tk3, n3, rfl, hm3, a3, by omega⟩
      · intro q hq
        rcases List.mem_cons.mp hq with rfl | hq
        · exact .head _
        · rcases List.mem_cons.mp hq with rfl | hq
          · exact .tail _ (.head _)
          · cases hq
      · exact fun q hq => .tail _ (.tail _ hq)
    cases f with
    | ret v => exact hp
    | brk => exact hp
    | next => exact up hp
    | cont => exact up hp
  · rintro m₁ nx h2 k _ F2 _
    exact done m₁ h2 k F2
end
end Mine

namespace Mine
set_option maxHeartbeats 16000000
theorem fd3 {v : Int} (h0 : 0 ≤ v) (h1 : v < 5) : 0 ≤ v.fdiv 3 ∧ v.fdiv 3 ≤ 1 := by rw [Int.fdiv_eq_ediv_of_nonneg v (by decide)]; omega
theorem f255 {v : Int} (h0 : 0 ≤ v) (h1 : v < 256) : 0 ≤ v.fmod 255 ∧ v.fmod 255 < 255 := ⟨fm_nn (by decide) v, fm_lt (by decide) v⟩
theorem quo_eq {n b : Int} (hb : 1 ≤ b) (hn : 0 ≤ n) (hn' : n < 256) : n / b = n.fdiv b ∧ n % b = n.fmod b ∧ 0 ≤ n.fdiv b ∧ n.fdiv b < 256 ∧ b * n.fdiv b + n.fmod b = n := by
  rw [Int.fdiv_eq_ediv_of_nonneg n (by omega), Int.fmod_eq_emod_of_nonneg n (by omega)]
  refine ⟨rfl, rfl, Int.ediv_nonneg hn (by omega), Int.lt_of_le_of_lt (Int.ediv_le_self b hn) hn', Int.mul_ediv_add_emod n b⟩

section
variable {prog : Program} {w : World} {K : Frag} {p : Program} {loose : List Str} {mean : ExcName → Option Value} {mg mb : Str → Option Value}
variable {d : Nat} {f : Addr} {args : List Int} {A₀ A : Around} {base h₀ : Heap} {outer : List Env} {env : Env} {L : Addr} {m : Str → Option Value} {news : Led} {s : Shared} {Q E : Value → Shared → Prop} {vs : List Value}
theorem booth_ok' (one other : Int) (h1 : 0 ≤ one) (h1' : one < 256) (ho : 0 ≤ other) (ho' : other < 256) : CallOK PySem.Challenge.rw_xm0998_01.row.prog w (hd.heap_39 w.params) p loose mean mg mb 3 105 [one, other] (.int ((one * other - 256 * ((if 127 < one then other else 0) + (if 127 < other then one else 0))) % 65536)) :=
  signed_eq h1 h1' ho ho' ▸ booth_ok one other h1 h1' ho ho'
def PairIs (n b a c : Int) : Prop := a = n.fdiv b ∧ c = n.fmod b ∧ 0 ≤ n.fdiv b ∧ n.fdiv b < 256 ∧ b * n.fdiv b + n.fmod b = n
theorem quotient_ok' (n b : Int) (hn : 0 ≤ n) (hn' : n < 256) (hb : 1 ≤ b) (hb' : b ≤ 255) : CallOK PySem.Challenge.rw_xm0998_01.row.prog w (hd.heap_39 w.params) p loose mean mg mb 3 133 [n, b] (.tup [n / b, n % b]) ∧ PairIs n b (n / b) (n % b) :=
  ⟨quotient_ok n b hn hn' hb hb', quo_eq hb hn hn'⟩
theorem call_pair' {n b x y : Int} (C : CallOK prog w K p loose mean mg mb d f args (.tup [x, y]) ∧ PairIs n b x y) (B : Below A₀ base outer h₀) (F : Fr h₀ L s.heap m) (X : K.In h₀) (N : News h₀ L s.heap news) (T : Top p loose mean mg mb h₀)
    (hA : A.frames = some (env :: outer)) (hf : env.frame = some L) (hk : env.scope.kind = .function) (hh : A.handled = none) (hd : A.depth + d < recursionLimit) (hu : A.units + 64 + 3 * d < cLine) (hi : IntsAre vs args)
    (kk : ∀ D a c t u e h' k, a = n.fdiv b → c = n.fmod b → (0 ≤ a ∧ a < 256) → b * a + c = n → Fr h₀ L h' m → News h₀ L h' ((D, ({ cls := .type "tuple", data := .seq #[.int a t, .int c u] e } : Obj)) :: news) → Q (.ref D) { s with heap := h', toks := k }) : wpAny (model prog w) A (call (.ref f) vs) Q E s := by
  obtain ⟨C, e1, e2, h0, h1, h2⟩ := C
  exact call_pair C B F X N T hA hf hk hh hd hu hi fun D t u c h' k F' N' => kk D x y t u c h' k e1 e2 (by rw [e1]; exact ⟨h0, h1⟩) (by rw [e1, e2]; exact h2) F' N'
end

local macro_rules | `(tactic| walk_at "call ref") => `(tactic| (k_here; (with_reducible show wpAny _ _ (call (Value.ref 84) _) _ _ _); k_dflt (refine' next_ok ?ht0 ?ht1 ?hm ?B ?F ?X ?N ?T ?hA ?hf ?hk ?hh ?hd ?hu ?hi ?hlen ?hoff ?hne ?_; (case B => k_asm); (case F => k_asm); (case X => k_asm); (case N => k_asm); (case T => k_asm); (case hA => exact rfl); (case hf => exact rfl); (case hk => exact rfl); (case hh => exact rfl); (case hd => exact Nat.le_of_ble_eq_true (by kernel_rfl!)); (case hu => exact Nat.le_of_ble_eq_true (by kernel_rfl!)); (case hi => l_ints); (case hlen => omega); (case hoff => first | assumption | exact (fun _ h => nomatch h)); (case hne => omega); (case ht0 => omega); (case ht1 => omega); (case hm => decide)); intro v9 u9 tk9 n9 h9 k9 lo9 hi9 F9 N9; have e9 := fd3 lo9 hi9; (try k_sweep)))
local macro_rules | `(tactic| walk_at "call ref") => `(tactic| (k_here; (with_reducible show wpAny _ _ (call (Value.ref 91) _) _ _ _); k_dflt (refine' octet_ok ?ht0 ?ht1 ?B ?F ?X ?N ?T ?hA ?hf ?hk ?hh ?hd ?hu ?hi ?hlen ?hoff ?hne ?_; (case B => k_asm); (case F => k_asm); (case X => k_asm); (case N => k_asm); (case T => k_asm); (case hA => exact rfl); (case hf => exact rfl); (case hk => exact rfl); (case hh => exact rfl); (case hd => exact Nat.le_of_ble_eq_true (by kernel_rfl!)); (case hu => exact Nat.le_of_ble_eq_true (by kernel_rfl!)); (case hi => l_ints); (case hlen => omega); (case hoff => first | assumption | exact (fun _ h => nomatch h)); (case hne => omega); (case ht0 => omega); (case ht1 => omega)); intro v9 u9 t9 tk9 n9 h9 k9 lo9 hi9 tl9 th9 F9 N9; have e9 := f255 lo9 hi9; (try k_sweep)))
local macro_rules | `(tactic| walk_at "pyIter ref") => `(tactic| (k_here; k_dflt (refine' feed_loop ?hh ?hr ?hb0 ?hb1 ?F ?N ?ht0 ?ht1 ?hm ?_ ?_; (case hh => exact rfl); (case hr => k_asm); (case hb0 => omega); (case hb1 => omega); (case F => k_asm); (case N => k_asm); (case ht0 => omega); (case ht1 => omega); (case hm => exact rfl))))
local macro_rules | `(tactic| walk_at "call ref") => `(tactic| (k_here; (with_reducible show wpAny _ _ (call (Value.ref 105) _) _ _ _); k_dflt (refine' call_int (booth_ok' _ _ ?a0 ?a1 ?b0 ?b1) ?B ?F ?X ?N ?T ?hA ?hf ?hk ?hh ?hd ?hu ?hi ?_; (case hi => exact .cons _ _ (.cons _ _ .nil)); (case B => k_asm); (case F => k_asm); (case X => k_asm); (case N => k_asm); (case T => k_asm); (case hA => exact rfl); (case hf => exact rfl); (case hk => exact rfl); (case hh => exact rfl); (case hd => exact Nat.le_of_ble_eq_true (by kernel_rfl!)); (case hu => exact Nat.le_of_ble_eq_true (by kernel_rfl!)); (case a0 => omega); (case a1 => omega); (case b0 => omega); (case b1 => omega)); intro v9 t9 h9 k9 e9 F9 N9; (try k_sweep)))
local macro_rules | `(tactic| walk_at "call ref") => `(tactic| (k_here; (with_reducible show wpAny _ _ (call (Value.ref 112) _) _ _ _); k_dflt (refine' call_int (product_ok _ _ ?a0 ?a1 ?b0 ?b1) ?B ?F ?X ?N ?T ?hA ?hf ?hk ?hh ?hd ?hu ?hi ?_; (case hi => exact .cons _ _ (.cons _ _ .nil)); (case B => k_asm); (case F => k_asm); (case X => k_asm); (case N => k_asm); (case T => k_asm); (case hA => exact rfl); (case hf => exact rfl); (case hk => exact rfl); (case hh => exact rfl); (case hd => exact Nat.le_of_ble_eq_true (by kernel_rfl!)); (case hu => exact Nat.le_of_ble_eq_true (by kernel_rfl!)); (case a0 => omega); (case a1 => omega); (case b0 => omega); (case b1 => omega)); intro v9 t9 h9 k9 e9 F9 N9; (try k_sweep)))
local macro_rules | `(tactic| walk_at "call ref") => `(tactic| (k_here; (with_reducible show wpAny _ _ (call (Value.ref 119) _) _ _ _); k_dflt (refine' call_int (doubled_ok _ _ ?a0 ?a1 ?b0 ?b1) ?B ?F ?X ?N ?T ?hA ?hf ?hk ?hh ?hd ?hu ?hi ?_; (case hi => exact .cons _ _ (.cons _ _ .nil)); (case B => k_asm); (case F => k_asm); (case X => k_asm); (case N => k_asm); (case T => k_asm); (case hA => exact rfl); (case hf => exact rfl); (case hk => exact rfl); (case hh => exact rfl); (case hd => exact Nat.le_of_ble_eq_true (by kernel_rfl!)); (case hu => exact Nat.le_of_ble_eq_true (by kernel_rfl!)); (case a0 => omega); (case a1 => omega); (case b0 => omega); (case b1 => omega)); intro v9 t9 h9 k9 e9 F9 N9; (try k_sweep)))
local macro_rules | `(tactic| walk_at "call ref") => `(tactic| (k_here; (with_reducible show wpAny _ _ (call (Value.ref 133) _) _ _ _); k_dflt (refine' call_pair' (quotient_ok' _ _ ?a0 ?a1 ?b0 ?b1) ?B ?F ?X ?N ?T ?hA ?hf ?hk ?hh ?hd ?hu ?hi ?_; (case hi => exact .cons _ _ (.cons _ _ .nil)); (case B => k_asm); (case F => k_asm); (case X => k_asm); (case N => k_asm); (case T => k_asm); (case hA => exact rfl); (case hf => exact rfl); (case hk => exact rfl); (case hh => exact rfl); (case hd => exact Nat.le_of_ble_eq_true (by kernel_rfl!)); (case hu => exact Nat.le_of_ble_eq_true (by kernel_rfl!)); (case a0 => omega); (case a1 => omega); (case b0 => omega); (case b1 => omega)); intro D9 q9 r9 t9 u9 c9 h9 k9 q90 q91 q92 q93 F9 N9; (try k_sweep)))
local macro_rules | `(tactic| walk_at "call ref") => `(tactic| (k_here; (with_reducible show wpAny _ _ (call (Value.ref 126) _) _ _ _); k_dflt (refine' call_true (digits_ok _ ?a0 ?a1) ?B ?F ?X ?N ?T ?hA ?hf ?hk ?hh ?hd ?hu ?hi ?_; (case hi => exact .cons _ _ .nil); (case B => k_asm); (case F => k_asm); (case X => k_asm); (case N => k_asm); (case T => k_asm); (case hA => exact rfl); (case hf => exact rfl); (case hk => exact rfl); (case hh => exact rfl); (case hd => exact Nat.le_of_ble_eq_true (by kernel_rfl!)); (case hu => exact Nat.le_of_ble_eq_true (by kernel_rfl!)); (case a0 => omega); (case a1 => omega)); intro h9 k9 F9 N9; (try k_sweep)))
theorem bad1 {S W O one other : Int} (h : S ≠ (W - 256 * O).fmod 65536) (e : S = (one * other - 256 * ((if 127 < one then other else 0) + (if 127 < other then one else 0))) % 65536) (eW : W = one * other)
    (hO : O = (if 127 < one then other else 0) + (if 127 < other then one else 0)) : False := by
  subst hO eW
  rw [Int.fmod_eq_emod_of_nonneg _ (by decide)] at h
  exact h e
theorem bad2 {q r a b : Int} (h : (q == a && r == b) = false) (e1 : q = a) (e2 : r = b) : False := by
  subst e1 e2
  simp at h
theorem nt {h₀ h : Heap} {L : Addr} {q : Addr × Obj} {l : Led} (N : News h₀ L h (q :: l)) : News h₀ L h l := fun x hx => N x (.tail _ hx)

theorem walk : PySem.Challenge.rw_xm0998_01.Holds := hd (by
  w_strict (k_go0; (all_goals try k_fold); k_steps)
  all_goals first
    | (exfalso; contradiction)
    | exact (bad1 (by assumption) (by assumption) (by assumption) (by (repeat' split) <;> omega)).elim
    | exact (bad2 (by assumption) (by assumption) (by assumption)).elim
    | (refine ⟨_, _, _, _, _, _, rfl, by assumption, (by first | assumption | exact nt (by assumption) | exact nt (nt (by assumption)) | exact nt (nt (nt (by assumption))) | exact nt (nt (nt (nt (by assumption)))) | exact nt (nt (nt (nt (nt (by assumption)))))), rfl, ?_, ?_⟩ <;> omega)
    | (exfalso; omega))
end Mine

theorem PySem.Challenge.cw_xm0998_01_holds : PySem.Challenge.rw_xm0998_01.Holds :=
  Mine.walk
#print axioms PySem.Challenge.cw_xm0998_01_holds
