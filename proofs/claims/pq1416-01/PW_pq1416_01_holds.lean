import PyProof.Rows.All
import Wide.All
import OpenK.AllK
import Wide.FinOn
import PySem.Challenge.RW_pq1416_01
set_option Elab.async false
section
open PySem PySem.W PySem.W.X
set_option maxRecDepth 100000
namespace Mine

/-- what is left of a code's own statements: the rest of a list, an except's part, a finally's part -/
inductive LF where
  | seq (rest : List Stmt) (env : Env)
  | tryA (hs : List ExceptHandler) (orelse : List Stmt) (env : Env)
  | tryB (final : List Stmt) (env : Env)
/-- what a code does at its end: nothing; a def's frame (0: it returns, 1: a loop of a generator's); a part of a frame -/
inductive Bot where
  | plain
  | fn (env : Env)
  | gen (env : Env)
  | blk (env : Env)
structure Hnd where
  L : List LF
  B : Bot
inductive KC where
  | base
  | ret (Γ : Ctx) (p : Pos) (H : Hnd) (k : Result → Sem Fin) (κ : KC)
inductive Ob where
  | n (a : Nat)
  | v (a : Value)
  | t (a : Sem Fin)
  | l (a : List Value)
structure Cfg where
  prog : Program
  w : World
  h₀ : Heap
  n₁ : Nat
  kt : KT
  tabs : Ch
  m₀ : Nat
  old : Nat → Addr
  N : Nat
  d : Drawn
  t₀ : Nat
  os : OsState
  rest : List Value
def Cfg.loc (V : Cfg) (i : Nat) : Addr := match Nat.blt i V.m₀ with
  | true => V.old i
  | false => V.N + (i - V.m₀)
def rowName : String := "special-get-raises"
def parOf (eq : String → String → Bool) (P : Params) (b : Bool) : Params := { P with followText := fun r => match eq r rowName with | true => b | false => P.followText r }

structure Trees where
  bind : (α β : Type) → Sem α → (α → Sem β) → Sem β
  eqS : String → String → Bool
  code : Code → Sem Fin
  execs : List Stmt → Env → Sem Flow
  handleWith : Value → Env → List ExceptHandler → Sem Flow
  whileTurn : Expr → List Stmt → List Stmt → Env → Sem Fin
  forTurn : Expr → Value → List Stmt → List Stmt → Env → Sem Fin
  compTurn : Expr → Nat → Value → Value → Env → Sem Fin
  setFlight : Value → Option Addr → Sem Unit
  handleBy : Value → Env → List ExceptHandler → Sem Flow
  finOk : List Stmt → Env → Flow → Sem Flow
  finErr : List Stmt → Env → Value → Sem Flow
  lotGoes : Value → Sem Unit
  cell : Nat → Addr → Bool → List (Code × Pos) → Value

def doneT (Y : Trees) (m : Sem Flow) : Sem Fin := Y.bind _ _ m fun f => .pure (.done f)
def runT (Y : Trees) : List Stmt → Env → Sem Fin
  | [], _ => .pure (.done .next)
  | s :: _, env => match s with
    | .Try b _ _ _ pos => .at pos fun _ => doneT Y (Y.execs b env)
    | s => doneT Y (Y.execs [s] env)
def tryL (hs : List ExceptHandler) (o fin : List Stmt) (env : Env) (L : List LF) : List LF := match fin with
  | [] => .tryA hs o env :: L
  | _ :: _ => .tryA hs o env :: .tryB fin env :: L
def runL : List Stmt → Env → List LF → List LF
  | [], _, L => L
  | s :: rest, env, L => match s with
    | .Try _ hs o fin _ => tryL hs o fin env (.seq rest env :: L)
    | _ => .seq rest env :: L
def inner (Y : Trees) : Code → Sem Fin
  | .func body env => .point [] fun _ => runT Y body env
  | .block stmts env => runT Y stmts env
  | .handlers e hs env => doneT Y (Y.handleWith e env hs)
  | .whileLoop t b o env => Y.whileTurn t b o env
  | .forLoop t it b o env => Y.forTurn t it b o env
  | .compLoop e d it acc env => Y.compTurn e d it acc env
  | c => Y.code c
def hndOf : Code → Hnd
  | .func body env => ⟨runL body env [], .fn env⟩
  | .block stmts env => ⟨runL stmts env [], .blk env⟩
  | .handlers _ _ env => ⟨[], .blk env⟩
  | .whileLoop _ _ _ env => ⟨[], .blk env⟩
  | .forLoop _ _ _ _ env => ⟨[], .blk env⟩
  | .compLoop e d it acc env => match (Code.compLoop e d it acc env).isFrame with
    | true => ⟨[], .gen env⟩
    | false => ⟨[], .blk env⟩
  | _ => ⟨[], .plain⟩

inductive Out where
  | more (Γ : Ctx) (p : Pos) (H : Hnd) (κ : KC) (t : Sem Fin) (T : BT) (m i : Nat) (ch : Ch) (ce : List Nat) (la lb : List Ob)
  | done (r : Result) (T : BT) (m i : Nat) (ch : Ch) (ce : List Nat) (la lb : List Ob)
  | bad (n : Nat)
abbrev Rest := BT → Nat → Nat → Ch → List Nat → List Ob → List Ob → Out
abbrev SimE := Ctx → Pos → Hnd → KC → Sem Fin → Rest
def bad (n : Nat) : Rest := fun _ _ _ _ _ _ _ => .bad n
def finish (ih : SimE) (r : Result) (κ : KC) : Rest := match κ with
  | .base => fun T m i ch ce la lb => .done r T m i ch ce la lb
  | .ret Γ p H k κ => ih Γ p H κ (k r)

/-- a new entry on an exception's traceback, the frames told -/
def noteN (Y : Trees) (e : Value) (f : Addr) (es : List Env) : Sem Unit := Y.bind _ _ (field e 1) fun head =>
  Y.bind _ _ (match head with
    | .none => .pure ()
    | _ => Y.bind _ _ (field head 3) fun _ => setField head 3 .none) fun _ =>
  Y.bind _ _ (readyFrames es) fun _ => .stack fun acts =>
  Y.bind _ _ (newFields "traceback" [head, .ref f, .none, rawInt f, .none, Y.cell 0 f (head != .none) acts, Y.cell 1 f (head != .none) acts, Y.cell 2 f (head != .none) acts, Y.cell 3 f (head != .none) acts, Y.cell 4 f (head != .none) acts, Y.cell 5 f (head != .none) acts]) fun t =>
  setField e 1 t
def envsAt (acts : List (Code × Pos)) : List Env := (acts.filter (·.1.isFrame)).filterMap (·.1.env?)
def fieldsAt (T : BT) (j : Nat) : Option (List Value) := match T.get j with
  | some o => match o.data with
    | .fields vs => some vs.toList
    | _ => none
  | none => none
def convB (B : Bot) (f : Flow) : Flow := match B with
  | .fn _ => match f with
    | .ret v => .ret v
    | _ => .ret .none
  | _ => f
/-- noteFrame, by the certificate: seen already (0), a first entry (1), another entry (2); then the tree K -/
def noteE (V : Cfg) (Y : Trees) (ih : SimE) (Γ : Ctx) (p : Pos) (H : Hnd) (κ : KC) (e : Value) (env : Env) (K : Sem Fin) : Rest := match env.frame with
  | none => bad 60
  | some f => match e with
    | .ref a => fun T m i ch ce la lb => match ce with
      | 0 :: je :: jh :: ce => match fieldsAt T je with
        | some (_ :: .ref b :: _) => match fieldsAt T jh with
          | some (_ :: _ :: _ :: v :: _) => ih Γ p H κ K T m i ch ce (.n a :: .n b :: .v v :: la) (.n (V.loc je) :: .n (V.loc jh) :: .v (rawInt f) :: lb)
          | _ => .bad 61
        | _ => .bad 62
      | 1 :: je :: ce => match fieldsAt T je with
        | some (_ :: .none :: _) => match envsAt ((Γ.code, p) :: Γ.below) with
          | env' :: es => match env'.frame with
            | some f' => ih Γ p H κ (Y.bind _ _ (noteN Y e f (env' :: es)) fun _ => K) T m i ch ce (.n a :: .n f' :: la) (.n (V.loc je) :: .n f :: lb)
            | none => .bad 63
          | [] => .bad 64
        | _ => .bad 65
      | 2 :: je :: jh :: ce => match fieldsAt T je with
        | some (_ :: .ref b :: _) => match fieldsAt T jh with
          | some (_ :: _ :: _ :: .none :: _) => match envsAt ((Γ.code, p) :: Γ.below) with
            | env' :: es => match env'.frame with
              | some f' => ih Γ p H κ (Y.bind _ _ (noteN Y e f (env' :: es)) fun _ => K) T m i ch ce (.n a :: .n b :: .n f' :: la) (.n (V.loc je) :: .n (V.loc jh) :: .n f :: lb)
              | none => .bad 66
            | [] => .bad 67
          | _ => .bad 68
        | _ => .bad 69
      | _ => .bad 70
    | _ => bad 71
def exceptT (Y : Trees) (e : Value) (env : Env) (hs : List ExceptHandler) : Sem Fin := match hs with
  | [] => .raise e
  | _ :: _ => Y.bind _ _ (Y.setFlight e none) fun _ => doneT Y (Y.handleBy e env hs)
def raiseE (V : Cfg) (Y : Trees) (ih : SimE) (Γ : Ctx) (p : Pos) (H : Hnd) (κ : KC) (e : Value) : Rest := match H.L with
  | [] => match H.B with
    | .plain => finish ih (.error e) κ
    | .fn env => noteE V Y ih Γ p ⟨[], .plain⟩ κ e env (Y.bind _ _ (Y.setFlight e none) fun _ => .raise e)
    | .gen env => noteE V Y ih Γ p ⟨[], .plain⟩ κ e env (Y.bind _ _ (Y.setFlight e none) fun _ => .raise e)
    | .blk env => noteE V Y ih Γ p ⟨[], .plain⟩ κ e env (Y.bind _ _ (Y.lotGoes e) fun _ => .raise e)
  | l :: L => match l with
    | .seq _ _ => ih Γ p ⟨L, H.B⟩ κ (.raise e)
    | .tryA hs _ env => noteE V Y ih Γ p ⟨L, H.B⟩ κ e env (exceptT Y e env hs)
    | .tryB fin env => noteE V Y ih Γ p ⟨L, H.B⟩ κ e env (Y.bind _ _ (Y.setFlight e none) fun _ => doneT Y (Y.finErr fin env e))
def doneE (Y : Trees) (ih : SimE) (Γ : Ctx) (p : Pos) (H : Hnd) (κ : KC) (f : Flow) : Rest := match H.L with
  | [] => finish ih (.ok (convB H.B f)) κ
  | l :: L => match l with
    | .seq rest env => match f with
      | .next => ih Γ p ⟨runL rest env L, H.B⟩ κ (runT Y rest env)
      | f => ih Γ p ⟨L, H.B⟩ κ (.pure (.done f))
    | .tryA _ o env => match f with
      | .next => ih Γ p ⟨L, H.B⟩ κ (doneT Y (Y.execs o env))
      | f => ih Γ p ⟨L, H.B⟩ κ (.pure (.done f))
    | .tryB fin env => ih Γ p ⟨L, H.B⟩ κ (doneT Y (Y.finOk fin env f))

/-- a dict's value under a text, all of whose keys are texts -/
def allStr : List DictEntry → Bool
  | [] => true
  | e :: l => match e.key with
    | .str _ _ => allStr l
    | _ => false
def findS (s : Str) : List DictEntry → Option Value
  | [] => none
  | e :: l => match e.key.isStr s with
    | true => some e.val
    | false => findS s l
def allInt : List DictEntry → Bool
  | [] => true
  | e :: l => match e.key with
    | .int k _ => match decide (e.hash = hashInt k) with
      | true => allInt l
      | false => false
    | _ => false
def findI (k : Int) : List DictEntry → Option Value
  | [] => none
  | e :: l => match e.key with
    | .int j _ => match decide (j = k) with
      | true => some e.val
      | false => findI k l
    | _ => none
/-- the look-up of a dict of the call's own: what a key gives -/
def dictLook (Y : Trees) (T : BT) (j : Nat) (key : Value) : Option (Option Value) := match T.get j with
  | some o => match o.cls with
    | .type c => match Y.eqS c "dict" with
      | true => match o.data with
        | .dict es _ => match key with
          | .str s _ => match allStr es.toList with
            | true => some (findS s es.toList)
            | false => none
          | .int k _ => match allInt es.toList with
            | true => some (findI k es.toList)
            | false => none
          | _ => none
        | _ => none
      | false => none
    | _ => none
  | none => none
def seqAt (Y : Trees) (T : BT) (j : Nat) (cls : String) : Option (List Value) := match T.get j with
  | some o => match o.cls with
    | .type c => match Y.eqS c cls with
      | true => match o.data with
        | .seq vs _ => some vs.toList
        | _ => none
      | false => none
    | _ => none
  | none => none
def strsOf : List Value → Option (List Str)
  | [] => some []
  | v :: l => match v with
    | .str x _ => match strsOf l with
      | some r => some (x :: r)
      | none => none
    | _ => none
def anyS (x : Str) : List Str → Bool
  | [] => false
  | y :: l => match decide (y = x) with
    | true => true
    | false => anyS x l
/-- two lists of texts -/
def eqSS : List Str → List Str → Option Bool
  | [], r => match r with
    | [] => some true
    | _ :: _ => none
  | x :: l, r => match r with
    | [] => none
    | y :: r => match eqSS l r with
      | some b => match decide (x = y) with
        | true => some b
        | false => some false
      | none => none
def isIter (Y : Trees) (T : BT) (j : Nat) : Bool := match T.get j with
  | some o => match o.cls with
    | .type c => match Y.eqS c "list_iterator" with
      | true => true
      | false => match Y.eqS c "range_iterator" with
        | true => true
        | false => match Y.eqS c "tuple_iterator" with
          | true => true
          | false => Y.eqS c "dict_keyiterator"
    | _ => false
  | none => false
def plainComp (e : Expr) (d : Nat) : Bool := match e with
  | .ListComp _ gens _ _ => match gens[d]? with
    | some g => decide (g.is_async = 0)
    | none => false
  | .DictComp _ _ gens _ _ => match gens[d]? with
    | some g => decide (g.is_async = 0)
    | none => false
  | _ => false
def rtn (v : Value) : Result := .ok (.ret v)
/-- what a code that is not walked gives: the result, the heap, the tokens drawn, the numbers left, what must be equal -/
structure HR where
  r : Result
  T : BT
  di : Nat
  ce : List Nat
  a : List Ob
  b : List Ob
def hkGet (V : Cfg) (Y : Trees) (T : BT) (ce : List Nat) (pos : List Value) (f : Option Value → Option Value) : Option HR := match pos with
  | [.ref a, key] => match ce with
    | j :: ce => match dictLook Y T j key with
      | some r => match f r with
        | some v => some ⟨rtn v, T, 1, ce, [.n a], [.n (V.loc j)]⟩
        | none => none
      | none => none
    | [] => none
  | _ => none
def hkIn (V : Cfg) (Y : Trees) (T : BT) (ce : List Nat) (pos : List Value) : Option HR := match pos with
  | [.ref a, .str s _] => match ce with
    | j :: ce => match seqAt Y T j "tuple" with
      | some vs => match strsOf vs with
        | some ys => some ⟨rtn (.bool (anyS s ys)), T, 0, ce, [.n a], [.n (V.loc j)]⟩
        | none => none
      | none => none
    | [] => none
  | _ => none
def hkEq (V : Cfg) (Y : Trees) (T : BT) (ce : List Nat) (pos : List Value) : Option HR := match pos with
  | [.ref a, .ref b] => match ce with
    | j :: j' :: ce => match seqAt Y T j "list" with
      | some vs => match seqAt Y T j' "list" with
        | some ws => match strsOf vs with
          | some xs => match strsOf ws with
            | some ys => match eqSS xs ys with
              | some r => some ⟨rtn (.bool r), T, 0, ce, [.n a, .n b], [.n (V.loc j), .n (V.loc j')]⟩
              | none => none
            | none => none
          | none => none
        | none => none
      | none => none
    | _ => none
  | _ => none
def emptyAt (Y : Trees) (T : BT) (j : Nat) : Bool := match T.get j with
  | some ⟨.type c, none, .seq ⟨[]⟩ 0, ⟨[]⟩⟩ => Y.eqS c "list"
  | _ => false
def hkExt (V : Cfg) (Y : Trees) (T : BT) (ce : List Nat) (pos : List Value) (init : Bool) : Option HR := match pos with
  | [.ref a, .ref b] => match ce with
    | j :: j' :: ce => match Nat.beq j j' with
      | true => none
      | false => match (match init with | true => emptyAt Y T j | false => true) with
        | true => match seqAt Y T j "list" with
          | some vs => match seqAt Y T j' "list" with
            | some ws => match Nat.ble (vs.length + ws.length) 1000 with
              | true => match init with
                | true => some ⟨rtn .none, (T.set j (Obj.mapSeq fun _ => #[])).set j (Obj.mapSeq (· ++ ws.toArray)), 0, ce, [.n a, .n b], [.n (V.loc j), .n (V.loc j')]⟩
                | false => some ⟨rtn (.ref a), T.set j (Obj.mapSeq (· ++ ws.toArray)), 0, ce, [.n a, .n b], [.n (V.loc j), .n (V.loc j')]⟩
              | false => none
            | none => none
          | none => none
        | false => none
    | _ => none
  | _ => none
def hookB (V : Cfg) (Y : Trees) (x : Nat) (id : String) (args : Args) (T : BT) (ce : List Nat) : Option HR := match args.kw with
  | [] => match x with
    | 2 => match Y.eqS id "dict.get" with
      | true => hkGet V Y T ce args.pos fun r => some (r.getD .none)
      | false => none
    | 3 => match Y.eqS id "dict.__contains__" with
      | true => hkGet V Y T ce args.pos fun r => some (.bool r.isSome)
      | false => none
    | 4 => match Y.eqS id "dict.__getitem__" with
      | true => hkGet V Y T ce args.pos fun r => r
      | false => none
    | 5 => match Y.eqS id "tuple.__contains__" with
      | true => hkIn V Y T ce args.pos
      | false => none
    | 6 => match Y.eqS id "list.__eq__" with
      | true => hkEq V Y T ce args.pos
      | false => none
    | 7 => match Y.eqS id "list.__init__" with
      | true => hkExt V Y T ce args.pos true
      | false => none
    | 8 => match Y.eqS id "list.__iadd__" with
      | true => hkExt V Y T ce args.pos false
      | false => none
    | _ => none
  | _ :: _ => none
def hookC (V : Cfg) (Y : Trees) (ih : SimE) (Γ : Ctx) (p : Pos) (κ : KC) (e : Expr) (d : Nat) (it acc : Value) (env : Env) : Rest := fun T m i ch ce la lb => match it with
  | .ref a => match plainComp e d with
    | true => match ce with
      | j :: ce => match isIter Y T j with
        | true => ih (Γ.goto (.compLoop e d (.ref a) acc env)) p (hndOf (.compLoop e d (.ref a) acc env)) κ (Y.compTurn e d (.ref a) acc env) T m i ch ce (.n a :: la) (.n (V.loc j) :: lb)
        | false => .bad 81
      | [] => .bad 82
    | false => .bad 83
  | _ => .bad 84
/-- a product whose right factor is short -/
def hookM (V : Cfg) (Y : Trees) (ih : SimE) (κ : KC) (id : String) (args : Args) : Rest := fun T m i ch ce la lb => match Y.eqS id "int.__mul__" with
  | true => match args with
    | ⟨[.int x _, .int y _], []⟩ => match Nat.ble (Builtin.Int.intBits y) 64 with
      | true => finish ih (rtn (.int (x * y) (V.t₀ + i))) κ T m (i + 1) ch ce la lb
      | false => .bad 95
    | _ => .bad 96
  | false => .bad 97
/-- a rest or a quotient of a number that is not below nought -/
def hookD (V : Cfg) (Y : Trees) (ih : SimE) (κ : KC) (q : Bool) (id : String) (args : Args) : Rest := fun T m i ch ce la lb => match Y.eqS id (match q with | true => "int.__floordiv__" | false => "int.__mod__") with
  | true => match args with
    | ⟨[.int x _, .int y _], []⟩ => match x with
      | .ofNat a => match y with
        | .ofNat b => match Nat.beq b 0 with
          | true => .bad 121
          | false => match q with
            | true => match Builtin.divisionGoesByPylong (.ofNat a) (.ofNat b) with
              | true => .bad 122
              | false => finish ih (rtn (.int (.ofNat (a / b)) (V.t₀ + i))) κ T m (i + 1) ch ce la lb
            | false => finish ih (rtn (.int (.ofNat (a % b)) (V.t₀ + i))) κ T m (i + 1) ch ce la lb
        | _ => .bad 123
      | _ => .bad 124
    | _ => .bad 125
  | false => .bad 126
/-- a list's first item goes -/
def hookP (V : Cfg) (Y : Trees) (ih : SimE) (κ : KC) (id : String) (args : Args) : Rest := fun T m i ch ce la lb => match Y.eqS id "list.pop" with
  | true => match args with
    | ⟨[.ref a, .int z _], []⟩ => match decide (z = 0) with
      | true => match ce with
        | j :: ce => match T.get j with
          | some ⟨.type c, none, .seq ⟨x :: rest⟩ n, ⟨[]⟩⟩ => match Y.eqS c "list" with
            | true => finish ih (rtn x) κ (T.set j fun _ => ⟨.type "list", none, .seq ⟨rest⟩ (n + 1), #[]⟩) m i ch ce (.n a :: .l rest :: la) (.n (V.loc j) :: .l (V.rest.take 63) :: lb)
            | false => .bad 111
          | _ => .bad 112
        | [] => .bad 113
      | false => .bad 114
    | _ => .bad 115
  | false => .bad 116
/-- the codes that are not walked -/
def hookE (V : Cfg) (Y : Trees) (ih : SimE) (Γ : Ctx) (p : Pos) (κ : KC) (x : Nat) (c : Code) : Rest := fun T m i ch ce la lb => match c with
  | .builtin id args => match Nat.beq x 9 with
    | true => hookM V Y ih κ id args T m i ch ce la lb
    | false => match Nat.beq x 10 with
    | true => hookP V Y ih κ id args T m i ch ce la lb
    | false => match Nat.beq x 11 with
    | true => hookD V Y ih κ false id args T m i ch ce la lb
    | false => match Nat.beq x 12 with
    | true => hookD V Y ih κ true id args T m i ch ce la lb
    | false => match hookB V Y x id args T ce with
      | some r => finish ih r.r κ r.T m (i + r.di) ch r.ce (r.a ++ la) (r.b ++ lb)
      | none => .bad (100 + x)
  | .compStart e d it acc env => hookC V Y ih Γ p κ e d it acc env T m i ch ce la lb
  | _ => .bad 99
def enterE (V : Cfg) (Y : Trees) (ih : SimE) (Γ : Ctx) (p : Pos) (κ : KC) (c : Code) : Rest := fun T m i ch ce la lb => match ce with
  | [] => .bad 80
  | x :: ce => match x with
    | 0 => ih Γ p (hndOf c) κ (inner Y c) T m i ch ce la lb
    | x => hookE V Y ih Γ p κ x c T m i ch ce la lb
def lookE (V : Cfg) (T : BT) (ch : Ch) (j : Nat) (a : Addr) : Option Obj := match j with
  | 0 => match chLook ch a with
    | some vs => some (tableObj vs)
    | none => V.kt.get a
  | j + 1 => T.get j
def nowTabE (V : Cfg) (ch : Ch) (a : Addr) : Option (Array Value) := match chLook ch a with
  | some vs => some vs
  | none => chLook V.tabs a
def obA (V : Cfg) (j : Nat) (a : Addr) (la : List Ob) : List Ob := match j with
  | 0 => la
  | _ + 1 => .n a :: la
def obB (V : Cfg) (j : Nat) (lb : List Ob) : List Ob := match j with
  | 0 => lb
  | j + 1 => .n (V.loc j) :: lb
def stepE (V : Cfg) (Y : Trees) (ih : SimE) (Γ : Ctx) (p : Pos) (H : Hnd) (κ : KC) (t : Sem Fin) : Rest := match t with
  | .pure fin => match fin with
    | .done f => doneE Y ih Γ p H κ f
    | .again c => match H.L with
      | [] => match c.quiet with
        | true => enterE V Y ih (Γ.goto c) p κ c
        | false => bad 5
      | _ :: _ => bad 11
  | .raise e => raiseE V Y ih Γ p H κ e
  | .rule _ k => ih Γ p H κ (k ())
  | .at q k => ih Γ q H κ (k ())
  | .point _ k => ih Γ p H κ (k ())
  | .ask k => fun T m i ch ce la lb => ih Γ p H κ (k ⟨V.prog, parOf Y.eqS V.w.params true⟩) T m i ch ce (.t (k ⟨V.prog, parOf Y.eqS V.w.params true⟩) :: la) (.t (k ⟨V.prog, parOf Y.eqS V.w.params false⟩) :: lb)
  | .load a _ k => fun T m i ch ce la lb => match ce with
    | j :: ce => match lookE V T ch j a with
      | some o => ih Γ p H κ (k o) T m i ch ce (obA V j a la) (obB V j lb)
      | none => .bad 1
    | [] => .bad 50
  | .loadIfAlive a k => fun T m i ch ce la lb => match ce with
    | j :: ce => match lookE V T ch j a with
      | some o => ih Γ p H κ (k (some o)) T m i ch ce (obA V j a la) (obB V j lb)
      | none => .bad 1
    | [] => .bad 50
  | .alloc o k => fun T m i ch ce la lb => match o.isFreed with
    | true => .bad 2
    | false => match Nat.ble V.m₀ m with
      | true => match (T.ins m o).get m with
        | some _ => ih Γ p H κ (k (V.loc m)) (T.ins m o) (m + 1) i ch ce la lb
        | none => .bad 3
      | false => .bad 4
  | .update a _ f k => fun T m i ch ce la lb => match ce with
    | j :: ce => match j with
      | j + 1 => match T.get j with
        | some o => match (f o).isFreed with
          | true => .bad 6
          | false => ih Γ p H κ (k ()) (T.set j f) m i ch ce (.n a :: la) (.n (V.loc j) :: lb)
        | none => .bad 7
      | 0 => match nowTabE V ch a with
        | some vs => match tabOf (f (tableObj vs)) with
          | some vs' => match strip vs.toList vs'.toList with
            | some _ => ih Γ p H κ (k ()) T m i (chPut ch a vs') ce la lb
            | none => .bad 8
          | none => .bad 9
        | none => .bad 10
    | [] => .bad 51
  | .fresh k => fun T m i ch ce la lb => ih Γ p H κ (k (V.t₀ + i)) T m (i + 1) ch ce la lb
  | .handled own k => ih Γ p H κ (k (match own with | true => Γ.own | false => Γ.handled))
  | .stack k => ih Γ p H κ (k ((Γ.code, p) :: Γ.below))
  | .call c hd _ _ k => enterE V Y ih (Γ.enter c hd p) p (.ret Γ p H k κ) c
  | _ => bad 30
noncomputable def simE (V : Cfg) (Y : Trees) (n : Nat) : SimE := Nat.rec (fun Γ p H κ t T m i ch ce la lb => .more Γ p H κ t T m i ch ce la lb) (fun _ ih => stepE V Y ih) n
structure Res where
  out : Out
  la : List (List Ob)
  lb : List (List Ob)
noncomputable def loopE (V : Cfg) (Y : Trees) (seg n : Nat) : Out → List (List Ob) → List (List Ob) → Res := Nat.rec (fun o A B => ⟨o, A, B⟩)
  (fun _ ih o A B => match o with
    | .more Γ p H κ t T m i ch ce la lb => ih (simE V Y seg Γ p H κ t T m i ch ce [] []) (la :: A) (lb :: B)
    | .done r T m i ch ce la lb => ⟨.done r T m i ch ce [] [], la :: A, lb :: B⟩
    | .bad k => ⟨.bad k, A, B⟩) n
end Mine
end
section
open PySem PySem.W PySem.W.X
set_option maxRecDepth 100000
set_option linter.unusedVariables false
namespace Mine

def sh (V : Cfg) (h : Heap) (i : Nat) : Shared := ⟨h, #[], V.d, V.t₀ + i, V.os⟩
abbrev Cfg.M (V : Cfg) : Model := model V.prog V.w

structure Cfg.Ok (V : Cfg) : Prop where
  size : V.h₀.objs.size = V.n₁
  kt : V.kt.Holds V.h₀ 1 0
  tabs : ∀ a vs, chLook V.tabs a = some vs → ∃ c, V.h₀.TableAt c a vs
  big : sysModules < V.n₁
  up : V.n₁ ≤ V.N
  apart : ∀ i, V.h₀.get? (V.loc i) = none
  ne : ∀ i, V.loc i ≠ sysModules
  mono : ∀ i j, i < j → V.loc i < V.loc j

structure Rep (V : Cfg) (h : Heap) (T : BT) (m : Nat) (ch : Ch) : Prop where
  size : h.objs.size = V.loc m
  own : ∀ i o, T.get i = some o → i < m ∧ h.get? (V.loc i) = some o
  keep : ∀ b o, V.h₀.get? b = some o → chLook ch b = none → h.get? b = some o
  ch : ∀ a vs, chLook ch a = some vs → h.get? a = some (tableObj vs) ∧ ∃ c ps more, V.h₀.TableAt c a ps ∧ vs = ps ++ more

theorem loc_step {V : Cfg} {m : Nat} (hm : V.m₀ ≤ m) : V.loc (m + 1) = V.loc m + 1 := by
  unfold Cfg.loc
  have h1 : Nat.blt m V.m₀ = false := by
    cases q : Nat.blt m V.m₀ with
    | false => rfl
    | true => have := blt_true q; omega
  have h2 : Nat.blt (m + 1) V.m₀ = false := by
    cases q : Nat.blt (m + 1) V.m₀ with
    | false => rfl
    | true => have := blt_true q; omega
  rw [h1, h2]
  show V.N + (m + 1 - V.m₀) = V.N + (m - V.m₀) + 1
  rw [Nat.sub_add_comm hm]
  rfl

section
variable {V : Cfg} {h : Heap} {T : BT} {m : Nat} {ch : Ch}
theorem Cfg.Ok.inj (O : V.Ok) {i j : Nat} (e : V.loc i = V.loc j) : i = j := by
  rcases Nat.lt_trichotomy i j with q | q | q
  · exact absurd e (Nat.ne_of_lt (O.mono _ _ q))
  · exact q
  · exact absurd e (Nat.ne_of_gt (O.mono _ _ q))
theorem Cfg.Ok.off (O : V.Ok) {b : Addr} {o : Obj} (e : V.h₀.get? b = some o) (j : Nat) : b ≠ V.loc j := fun q => by
  rw [q, O.apart j] at e
  cases e
theorem Rep.oldLt (O : V.Ok) {b : Addr} {o : Obj} (e : V.h₀.get? b = some o) : b < V.n₁ := O.size ▸ Heap.lt_size e
theorem Rep.alloc (O : V.Ok) (D : Rep V h T m ch) {o : Obj} (hf : o.isFreed = false) (hm : V.m₀ ≤ m) (hg : ((T.ins m o).get m).isSome = true) : Rep V (h.push o) (T.ins m o) (m + 1) ch := by
  refine ⟨by rw [Heap.size_push, D.size, loc_step hm], fun i o' e => ?_, fun b o' e q => Heap.get?_push_of_some _ (D.keep b o' e q), fun a vs e => ⟨Heap.get?_push_of_some _ (D.ch a vs e).1, (D.ch a vs e).2⟩⟩
  rw [BT.get_ins o T m hg] at e
  by_cases hi : i = m
  · subst hi
    rw [if_pos rfl] at e
    cases e
    refine ⟨Nat.lt_succ_self _, ?_⟩
    rw [← D.size]; exact Heap.get?_push_size _ hf
  · rw [if_neg hi] at e
    have z := D.own i o' e
    exact ⟨Nat.lt_succ_of_lt z.1, Heap.get?_push_of_some _ z.2⟩
theorem Rep.update (O : V.Ok) (D : Rep V h T m ch) {j : Nat} {o : Obj} {f : Obj → Obj} (e : T.get j = some o) (hf : (f o).isFreed = false) : Rep V (h.update (V.loc j) f) (T.set j f) m ch := by
  have z := D.own _ _ e
  have hs : Heap.SameBut (V.loc j) h (h.update (V.loc j) f) := Heap.SameBut.update ..
  refine ⟨by rw [hs.1, D.size], fun i o' e' => ?_, fun b o' e' q => ?_, fun b vs e' => ?_⟩
  · rw [BT.get_set] at e'
    by_cases hi : i = j
    · subst hi
      rw [if_pos rfl, e] at e'
      cases e'
      refine ⟨z.1, ?_⟩
      first | exact Heap.get?_update_self f z.2 hf | exact Heap.get?_update_self _ z.2 hf
    · rw [if_neg hi] at e'
      have y := D.own i o' e'
      exact ⟨y.1, (hs.2 _ fun w => hi (O.inj w)).trans y.2⟩
  · exact (hs.2 b (O.off e' j)).trans (D.keep b o' e' q)
  · obtain ⟨y, c, ps, more, ht, hv⟩ := D.ch b vs e'
    exact ⟨(hs.2 b (O.off ht.2 j)).trans y, c, ps, more, ht, hv⟩
theorem Rep.table (O : V.Ok) (D : Rep V h T m ch) {a : Addr} {f : Obj → Obj} {vs vs' : Array Value} {more : List Value} (e : nowTabE V ch a = some vs) (hn : f (tableObj vs) = tableObj vs') (hm : strip vs.toList vs'.toList = some more) : h.get? a = some (tableObj vs) ∧ Rep V (h.update a f) T m (chPut ch a vs') := by
  have hv : vs' = vs ++ more.toArray := by
    have := strip_eq hm
    apply Array.ext'
    rw [Array.toList_append, this]
  have key : h.get? a = some (tableObj vs) ∧ ∃ c ps more', V.h₀.TableAt c a ps ∧ vs = ps ++ more' := by
    unfold nowTabE at e
    cases c : chLook ch a with
    | some x => rw [c] at e; cases e; exact D.ch a _ c
    | none =>
      rw [c] at e
      obtain ⟨co, ht⟩ := O.tabs a vs e
      exact ⟨D.keep a _ ht.2 c, co, vs, #[], ht, by simp⟩
  obtain ⟨ho, co, ps, more', ht, hps⟩ := key
  refine ⟨ho, ?_⟩
  have hs : Heap.SameBut a h (h.update a f) := Heap.SameBut.update ..
  have hf : (f (tableObj vs)).isFreed = false := by rw [hn]; rfl
  have ge : (h.update a f).get? a = some (tableObj vs') := by
    have : (h.update a f).get? a = some (f (tableObj vs)) := by first | exact Heap.get?_update_self f ho hf | exact Heap.get?_update_self _ ho hf
    rw [this, hn]
  have la := Rep.oldLt O ht.2
  refine ⟨by rw [hs.1, D.size], fun i o' e' => ?_, fun b o' e' q => ?_, fun b x e' => ?_⟩
  · have y := D.own i o' e'
    exact ⟨y.1, (hs.2 _ (O.off ht.2 i).symm).trans y.2⟩
  · rw [chPut_look] at q
    by_cases hb : a = b
    · rw [if_pos hb] at q; cases q
    · rw [if_neg hb] at q
      exact (hs.2 b (Ne.symm hb)).trans (D.keep b o' e' q)
  · rw [chPut_look] at e'
    by_cases hb : a = b
    · subst hb
      rw [if_pos rfl] at e'
      cases e'
      exact ⟨ge, co, ps, more' ++ more.toArray, ht, by rw [hv, hps, Array.append_assoc]⟩
    · rw [if_neg hb] at e'
      obtain ⟨y, z⟩ := D.ch b x e'
      exact ⟨(hs.2 b (Ne.symm hb)).trans y, z⟩
theorem Rep.oldK (O : V.Ok) (D : Rep V h T m ch) : OldK V.h₀ h := by
  refine ⟨fun b o e => ?_, fun b o e => ?_⟩
  · cases q : chLook ch b with
    | none => exact .inl (D.keep b o e q)
    | some vs =>
      obtain ⟨y, c, ps, more, ht, hv⟩ := D.ch b vs q
      have : o = tableObj ps := Option.some.inj (e.symm.trans ht.2)
      subst this
      exact .inr (.inl ⟨ht.isCodeTable, rfl, ps, more, rfl, by rw [y, hv]; rfl⟩)
  · cases q : chLook ch b with
    | none => exact ⟨o, D.keep b o e q⟩
    | some vs => exact ⟨_, (D.ch b vs q).1⟩
/-- what an address bears, by the certificate -/
theorem Rep.lookE (O : V.Ok) (D : Rep V h T m ch) {j : Nat} {a : Addr} {o : Obj} (e : lookE V T ch j a = some o) (ha : ∀ i, j = i + 1 → a = V.loc i) : h.get? a = some o := by
  cases j with
  | zero =>
    unfold Mine.lookE at e
    cases c : chLook ch a with
    | some vs => rw [c] at e; cases e; exact (D.ch a vs c).1
    | none =>
      rw [c] at e
      have z := KT.Holds.get O.kt e
      rw [Nat.one_mul, Nat.add_zero] at z
      exact D.keep a o z c
  | succ i =>
    rw [ha i rfl]
    exact (D.own i o e).2
end

structure Trees.Ok (Y : Trees) : Prop where
  bind : ∀ α β m f, Y.bind α β m f = Sem.bind m f
  eqS : ∀ a b, Y.eqS a b = decide (a = b)
  code : Y.code = denote table
  execs : Y.execs = PySem.execs
  handleWith : Y.handleWith = PySem.handleWith
  whileTurn : Y.whileTurn = PySem.whileTurn
  forTurn : Y.forTurn = PySem.forTurn
  compTurn : Y.compTurn = PySem.compTurn
  setFlight : Y.setFlight = PySem.setFlight
  lotGoes : Y.lotGoes = PySem.theTreesLotGoes
  handleBy : Y.handleBy = PySem.handleBy
  finOk : ∀ fin env f, Y.finOk fin env f = (runOwn (.block fin env) env >>= fun g => match g with
    | .next => pure f
    | f' => rule "try.finally-overrides-flow" >>= fun _ => pure f')
  finErr : ∀ fin env e, Y.finErr fin env e = (runOwn (.block fin env) env (some e) >>= fun g => match g with
    | .next => passOn "try.finally" e env
    | f' => rule "try.finally-swallows-exception" >>= fun _ => PySem.setFlight e none >>= fun _ => pure f')
  cell : ∀ i f hn acts, Y.cell i f hn acts = Z.cellQ i (Z.placeOf f hn acts)

open Sem (wp)
abbrev FQ := Flow → Pos → Shared → Prop
abbrev VQ := Value → Pos → Shared → Prop
def botQ (B : Bot) (R : Result → Shared → Prop) : FQ := fun f _ s => R (.ok (convB B f)) s
def botE (M : Model) (Γ : Ctx) (B : Bot) (R : Result → Shared → Prop) : VQ := match B with
  | .plain => fun e _ s => R (.error e) s
  | .fn env => fun e p s => wp M Γ (noteFrame e env) (fun _ p s => wp M Γ (setFlight e none) (fun _ _ s => R (.error e) s) (fun e' _ s => R (.error e') s) p s) (fun e' _ s => R (.error e') s) p s
  | .gen env => fun e p s => wp M Γ (noteFrame e env) (fun _ p s => wp M Γ (setFlight e none) (fun _ _ s => R (.error e) s) (fun e' _ s => R (.error e') s) p s) (fun e' _ s => R (.error e') s) p s
  | .blk env => fun e p s => wp M Γ (noteFrame e env) (fun _ p s => wp M Γ (theTreesLotGoes e) (fun _ _ s => R (.error e) s) (fun e' _ s => R (.error e') s) p s) (fun e' _ s => R (.error e') s) p s
def exceptS (e : Value) (env : Env) (hs : List ExceptHandler) : Sem Flow := match hs with
  | [] => throw e
  | _ :: _ => setFlight e none >>= fun _ => handleBy e env hs
def finOkS (fin : List Stmt) (env : Env) (f : Flow) : Sem Flow := runOwn (.block fin env) env >>= fun g => match g with
    | .next => pure f
    | f' => rule "try.finally-overrides-flow" >>= fun _ => pure f'
def finErrS (fin : List Stmt) (env : Env) (e : Value) : Sem Flow := runOwn (.block fin env) env (some e) >>= fun g => match g with
    | .next => passOn "try.finally" e env
    | f' => rule "try.finally-swallows-exception" >>= fun _ => PySem.setFlight e none >>= fun _ => pure f'
def lfQE (M : Model) (Γ : Ctx) (B : Bot) (R : Result → Shared → Prop) : List LF → FQ × VQ
  | [] => (botQ B R, botE M Γ B R)
  | .seq rest env :: L => (fun f p s => match f with
      | .next => wp M Γ (execs rest env) (lfQE M Γ B R L).1 (lfQE M Γ B R L).2 p s
      | f => (lfQE M Γ B R L).1 f p s, (lfQE M Γ B R L).2)
  | .tryA hs o env :: L => (fun f p s => match f with
      | .next => wp M Γ (execs o env) (lfQE M Γ B R L).1 (lfQE M Γ B R L).2 p s
      | f => (lfQE M Γ B R L).1 f p s,
      fun e p s => wp M Γ (noteFrame e env) (fun _ p s => wp M Γ (exceptS e env hs) (lfQE M Γ B R L).1 (lfQE M Γ B R L).2 p s) (lfQE M Γ B R L).2 p s)
  | .tryB fin env :: L => (fun f p s => wp M Γ (finOkS fin env f) (lfQE M Γ B R L).1 (lfQE M Γ B R L).2 p s,
      fun e p s => wp M Γ (noteFrame e env) (fun _ p s => wp M Γ (setFlight e none) (fun _ p s => wp M Γ (finErrS fin env e) (lfQE M Γ B R L).1 (lfQE M Γ B R L).2 p s) (lfQE M Γ B R L).2 p s) (lfQE M Γ B R L).2 p s)
def finQ (M : Model) (Γ : Ctx) (R : Result → Shared → Prop) (Q : FQ) : Fin → Pos → Shared → Prop
  | .done f, p, s => Q f p s
  | .again c, p, s => c.quiet = true ∧ wpCode M (Γ.goto c) R p s
/-- what a tree within a code wants -/
def MeanR (M : Model) (Γ : Ctx) (H : Hnd) (R : Result → Shared → Prop) (t : Sem Fin) (p : Pos) (s : Shared) : Prop :=
  wp M Γ t (finQ M Γ R (lfQE M Γ H.B R H.L).1) (lfQE M Γ H.B R H.L).2 p s
def post (M : Model) (R₀ : Result → Shared → Prop) : KC → Result → Shared → Prop
  | .base => R₀
  | .ret Γ p H k κ => fun r s => MeanR M Γ H (post M R₀ κ) (k r) p s
def Mean (M : Model) (R₀ : Result → Shared → Prop) (Γ : Ctx) (p : Pos) (H : Hnd) (κ : KC) (t : Sem Fin) (s : Shared) : Prop := MeanR M Γ H (post M R₀ κ) t p s

theorem wp_doneT {Y : Trees} (hY : Y.Ok) {M : Model} {Γ : Ctx} {R : Result → Shared → Prop} {Q : FQ} {E : VQ} {m : Sem Flow} {p : Pos} {s : Shared} :
    wp M Γ (doneT Y m) (finQ M Γ R Q) E p s = wp M Γ m Q E p s := by
  unfold doneT
  rw [hY.bind, Sem.wp_bind]
  rfl
theorem wp_execs_cons {M : Model} {Γ : Ctx} {x : Stmt} {rest : List Stmt} {env : Env} {Q : FQ} {E : VQ} {p : Pos} {s : Shared} :
    wp M Γ (execs (x :: rest) env) Q E p s = wp M Γ (exec x env) (fun f p s => match f with
      | .next => wp M Γ (execs rest env) Q E p s
      | f => Q f p s) E p s := by
  rw [execs, Sem.wp_bind']
  congr 1
  funext f p s
  cases f <;> rfl
theorem wp_execs_one {M : Model} {Γ : Ctx} {x : Stmt} {env : Env} {Q : FQ} {E : VQ} {p : Pos} {s : Shared} :
    wp M Γ (execs [x] env) Q E p s = wp M Γ (exec x env) Q E p s := by
  rw [wp_execs_cons]
  congr 1
  funext f p s
  cases f <;> first | rfl | (rw [execs]; rfl)
def mainS (b : Sem Flow) (hs : List ExceptHandler) (o : Sem Flow) (env : Env) : Sem Flow := do
  match ← b.attempt with
    | .ok .next => o
    | .ok f => pure f
    | .error e =>
      noteFrame e env
      if hs.isEmpty then throw e
      setFlight e none
      handleBy e env hs
theorem wp_exceptS {M : Model} {Γ : Ctx} {hs : List ExceptHandler} {env : Env} {e : Value} {Q : FQ} {E : VQ} {p : Pos} {s : Shared} :
    wp M Γ (do
      if hs.isEmpty then throw e
      setFlight e none
      handleBy e env hs : Sem Flow) Q E p s = wp M Γ (exceptS e env hs) Q E p s := by
  cases hs <;> rfl
theorem wp_mainS {M : Model} {Γ : Ctx} {b : Sem Flow} {hs : List ExceptHandler} {o : Sem Flow} {env : Env} {Q : FQ} {E : VQ} {p : Pos} {s : Shared} :
    wp M Γ (mainS b hs o env) Q E p s = wp M Γ b (fun f p s => match f with
      | .next => wp M Γ o Q E p s
      | f => Q f p s) (fun e p s => wp M Γ (noteFrame e env) (fun _ p s => wp M Γ (exceptS e env hs) Q E p s) E p s) p s := by
  unfold mainS
  rw [Sem.wp_bind', Sem.wp_attempt]
  congr 1
  · funext f p s
    cases f <;> rfl
  · funext e p s
    show wp M Γ (noteFrame e env >>= fun _ => _) Q E p s = _
    rw [Sem.wp_bind']
    congr 1
    funext _ p s
    exact wp_exceptS
theorem wp_tryStmt {M : Model} {Γ : Ctx} {R : Result → Shared → Prop} {B : Bot} {b : List Stmt} {hs : List ExceptHandler} {o fin : List Stmt} {env : Env} {L : List LF} {p : Pos} {s : Shared}
    (h : wp M Γ (execs b env) (lfQE M Γ B R (tryL hs o fin env L)).1 (lfQE M Γ B R (tryL hs o fin env L)).2 p s) :
    wp M Γ (tryStmt false (execs b env) hs (execs o env) fin env) (lfQE M Γ B R L).1 (lfQE M Γ B R L).2 p s := by
  cases fin with
  | nil =>
    unfold tryStmt
    simp only [List.isEmpty_nil, if_true, Sem.wp_bind', Sem.wp_attempt, Bool.false_and, Bool.false_eq_true, if_false]
    refine Sem.wp_mono M Γ _ (fun f p s q => ?_) (fun e p s q => ?_) p s h
    · cases f <;> exact q
    · refine Sem.wp_mono M Γ _ (fun _ p s q => ?_) (fun _ _ _ q => q) p s q
      cases hs <;> exact q
  | cons x fin =>
    unfold tryStmt
    simp only [List.isEmpty_cons, Bool.false_eq_true, if_false, Sem.wp_bind', Sem.wp_attempt, Bool.false_and]
    have ok : ∀ (f : Flow) (p : Pos) (s : Shared), (lfQE M Γ B R (.tryB (x :: fin) env :: L)).1 f p s → wp M Γ (holding (match f with | Flow.ret v => [v] | _ => []) (runOwn (Code.block (x :: fin) env) env)) (fun g p s => wp M Γ (match g with
        | Flow.next => pure f
        | f' => do
          rule "try.finally-overrides-flow"
          pure f') (lfQE M Γ B R L).1 (lfQE M Γ B R L).2 p s) (lfQE M Γ B R L).2 p s := fun f p s q => by
      rw [Sem.wp_holding]
      have q' : wp M Γ (finOkS (x :: fin) env f) (lfQE M Γ B R L).1 (lfQE M Γ B R L).2 p s := q
      unfold finOkS at q'
      rw [Sem.wp_bind'] at q'
      refine Sem.wp_mono M Γ _ (fun g p s q => ?_) (fun _ _ _ q => q) p s q'
      cases g <;> exact q
    have er : ∀ (e : Value) (p : Pos) (s : Shared), (lfQE M Γ B R (.tryB (x :: fin) env :: L)).2 e p s → wp M Γ (noteFrame e env) (fun _ p s => wp M Γ (setFlight e none) (fun _ p s => wp M Γ (holding [e] (runOwn (Code.block (x :: fin) env) env (some e))) (fun g p s => wp M Γ (match g with
        | Flow.next => passOn "try.finally" e env
        | f' => do
          rule "try.finally-swallows-exception"
          setFlight e none
          pure f') (lfQE M Γ B R L).1 (lfQE M Γ B R L).2 p s) (lfQE M Γ B R L).2 p s) (lfQE M Γ B R L).2 p s) (lfQE M Γ B R L).2 p s := fun e p s q => by
      refine Sem.wp_mono M Γ _ (fun _ p s q => ?_) (fun _ _ _ q => q) p s q
      refine Sem.wp_mono M Γ _ (fun _ p s q => ?_) (fun _ _ _ q => q) p s q
      rw [Sem.wp_holding]
      unfold finErrS at q
      rw [Sem.wp_bind'] at q
      refine Sem.wp_mono M Γ _ (fun g p s q => ?_) (fun _ _ _ q => q) p s q
      cases g <;> exact q
    refine Sem.wp_mono M Γ _ (fun f p s q => ?_) (fun e p s q => ?_) p s h
    · cases f with
      | next => exact Sem.wp_mono M Γ _ (fun f p s q => ok f p s q) (fun e p s q => er e p s q) p s q
      | brk => exact ok _ _ _ q
      | cont => exact ok _ _ _ q
      | ret v => exact ok _ _ _ q
    · refine Sem.wp_mono M Γ _ (fun _ p s q => ?_) (fun e p s q => er e p s q) p s q
      cases hs with
      | nil => exact er _ _ _ q
      | cons y hs => exact Sem.wp_mono M Γ _ (fun f p s q => ok f p s q) (fun e p s q => er e p s q) p s q
theorem wp_run {Y : Trees} (hY : Y.Ok) {M : Model} {Γ : Ctx} {R : Result → Shared → Prop} {B : Bot} {env : Env} {stmts : List Stmt} {L : List LF} {p : Pos} {s : Shared}
    (h : wp M Γ (runT Y stmts env) (finQ M Γ R (lfQE M Γ B R (runL stmts env L)).1) (lfQE M Γ B R (runL stmts env L)).2 p s) :
    wp M Γ (execs stmts env) (lfQE M Γ B R L).1 (lfQE M Γ B R L).2 p s := by
  cases stmts with
  | nil => rw [execs]; exact h
  | cons x rest =>
    rw [wp_execs_cons]
    have key : ∀ L' : List LF, wp M Γ (exec x env) (lfQE M Γ B R (.seq rest env :: L)).1 (lfQE M Γ B R (.seq rest env :: L)).2 p s → wp M Γ (exec x env) (fun f p s => match f with
      | .next => wp M Γ (execs rest env) (lfQE M Γ B R L).1 (lfQE M Γ B R L).2 p s
      | f => (lfQE M Γ B R L).1 f p s) (lfQE M Γ B R L).2 p s := fun _ h => h
    refine key L ?_
    cases x with
    | Try b hs o fin pos =>
      have h' : wp M Γ (Sem.at pos fun _ => doneT Y (Y.execs b env)) (finQ M Γ R (lfQE M Γ B R (tryL hs o fin env (.seq rest env :: L))).1) (lfQE M Γ B R (tryL hs o fin env (.seq rest env :: L))).2 p s := h
      rw [Sem.wp_at, wp_doneT hY, hY.execs] at h'
      show wp M Γ (standAt pos >>= fun _ => tryStmt false (execs b env) hs (execs o env) fin env) _ _ p s
      rw [Sem.wp_bind']
      show wp M Γ (tryStmt false (execs b env) hs (execs o env) fin env) _ _ pos s
      exact wp_tryStmt h'
    | _ =>
      have h' := h
      unfold runT runL at h'
      dsimp only at h'
      rw [wp_doneT hY, hY.execs, wp_execs_one] at h'
      exact h'
end Mine
end
section
open PySem PySem.W PySem.W.X
open Sem (wp)
set_option maxRecDepth 100000
set_option linter.unusedVariables false
namespace Mine
theorem finPost_eq {M : Model} {Γ : Ctx} {R : Result → Shared → Prop} : finQ M Γ R (fun f _ s => R (.ok f) s) = Sem.finPost M Γ R := by
  funext fin p s
  cases fin <;> rfl
theorem wp_again_free {M : Model} {Γ : Ctx} {R : Result → Shared → Prop} {Q : FQ} {E : VQ} {α : Type} {t : Sem α} {K : α → Flow} {p : Pos} {s : Shared} :
    wp M Γ (t >>= fun a => pure (Fin.done (K a))) (finQ M Γ R Q) E p s = wp M Γ t (fun a p s => Q (K a) p s) E p s := by
  rw [Sem.wp_bind']
  rfl
/-- a code is entered: its own tree, its own end -/
theorem enter_mean {Y : Trees} (hY : Y.Ok) {prog : Program} {w : World} {Γ : Ctx} {c : Code} {R : Result → Shared → Prop} {p : Pos} {s : Shared} (hΓ : Γ.code = c)
    (h : MeanR (model prog w) Γ (hndOf c) R (inner Y c) p s) : wpCode (model prog w) Γ R p s := by
  rw [wpCode_iff_wp, hΓ]
  show wp (model prog w) Γ (denote table c) (Sem.finPost (model prog w) Γ R) (fun e _ s => R (.error e) s) p s
  have plain : MeanR (model prog w) Γ ⟨[], .plain⟩ R (Y.code c) p s → wp (model prog w) Γ (denote table c) (Sem.finPost (model prog w) Γ R) (fun e _ s => R (.error e) s) p s := fun h => by
    rw [← finPost_eq, ← hY.code]
    exact h
  have leave : ∀ (env : Env) (m : Sem Flow) (K : Flow → Flow), wp (model prog w) Γ m (fun f _ s => R (.ok (K f)) s) (botE (model prog w) Γ (.fn env) R) p s →
      wp (model prog w) Γ (m.onRaise (leaving env) >>= fun f => pure (Fin.done (K f))) (Sem.finPost (model prog w) Γ R) (fun e _ s => R (.error e) s) p s := fun env m K h => by
    rw [← finPost_eq, wp_again_free, Sem.wp_onRaise]
    refine Sem.wp_mono _ Γ _ (fun _ _ _ q => q) (fun e p s q => ?_) p s h
    unfold leaving
    rw [Sem.wp_bind']
    exact q
  have note : ∀ (env : Env) (m : Sem Flow), wp (model prog w) Γ m (fun f _ s => R (.ok f) s) (botE (model prog w) Γ (.blk env) R) p s →
      wp (model prog w) Γ (m.onRaise (fun x => do noteFrame x env; theTreesLotGoes x) >>= fun f => pure (Fin.done f)) (Sem.finPost (model prog w) Γ R) (fun e _ s => R (.error e) s) p s := fun env m h => by
    rw [← finPost_eq, wp_again_free, Sem.wp_onRaise]
    refine Sem.wp_mono _ Γ _ (fun _ _ _ q => q) (fun e p s q => ?_) p s h
    rw [Sem.wp_bind']
    exact q
  have noteF : ∀ (env : Env) (m : Sem Fin), wp (model prog w) Γ m (finQ (model prog w) Γ R (fun f _ s => R (.ok f) s)) (botE (model prog w) Γ (.blk env) R) p s →
      wp (model prog w) Γ (m.onRaise (fun x => do noteFrame x env; theTreesLotGoes x)) (Sem.finPost (model prog w) Γ R) (fun e _ s => R (.error e) s) p s := fun env m h => by
    rw [← finPost_eq, Sem.wp_onRaise]
    refine Sem.wp_mono _ Γ _ (fun _ _ _ q => q) (fun e p s q => ?_) p s h
    rw [Sem.wp_bind']
    exact q
  have leaveF : ∀ (env : Env) (m : Sem Fin), wp (model prog w) Γ m (finQ (model prog w) Γ R (fun f _ s => R (.ok f) s)) (botE (model prog w) Γ (.gen env) R) p s →
      wp (model prog w) Γ (m.onRaise (leaving env)) (Sem.finPost (model prog w) Γ R) (fun e _ s => R (.error e) s) p s := fun env m h => by
    rw [← finPost_eq, Sem.wp_onRaise]
    refine Sem.wp_mono _ Γ _ (fun _ _ _ q => q) (fun e p s q => ?_) p s h
    unfold leaving
    rw [Sem.wp_bind']
    exact q
  cases c with
  | func body env =>
    show wp (model prog w) Γ (point >>= fun _ => (execs body env).onRaise (leaving env) >>= fun f => match f with
      | .ret v => ret v
      | _ => ret .none) _ _ p s
    have e : (fun f : Flow => match f with
      | .ret v => ret v
      | _ => ret .none) = fun f => pure (Fin.done (convB (.fn env) f)) := by funext f; cases f <;> rfl
    rw [e, Sem.wp_bind']
    show wp (model prog w) Γ ((execs body env).onRaise (leaving env) >>= _) _ _ p s
    refine leave env _ _ ?_
    exact wp_run hY (L := []) (B := .fn env) h
  | block stmts env => exact note env _ (wp_run hY (L := []) (B := .blk env) h)
  | handlers e hs env =>
    refine note env _ ?_
    have h' : wp (model prog w) Γ (doneT Y (Y.handleWith e env hs)) (finQ (model prog w) Γ R (botQ (.blk env) R)) (botE (model prog w) Γ (.blk env) R) p s := h
    rw [wp_doneT hY, hY.handleWith] at h'
    exact h'
  | whileLoop t b o env => exact noteF env _ (hY.whileTurn ▸ h)
  | forLoop t it b o env => exact noteF env _ (hY.forTurn ▸ h)
  | compLoop e d it acc env =>
    show wp (model prog w) Γ (if (Code.compLoop e d it acc env).isFrame then (compTurn e d it acc env).onRaise (leaving env) else (compTurn e d it acc env).onRaise (fun x => do noteFrame x env; theTreesLotGoes x)) _ _ p s
    have h' : MeanR (model prog w) Γ (hndOf (.compLoop e d it acc env)) R (Y.compTurn e d it acc env) p s := h
    rw [hY.compTurn] at h'
    unfold hndOf at h'
    cases q : (Code.compLoop e d it acc env).isFrame with
    | true => rw [if_pos rfl]; simp only [q] at h'; exact leaveF env _ h'
    | false => rw [if_neg (by simp)]; simp only [q] at h'; exact noteF env _ h'
  | _ => exact plain h
end Mine
end
section
open PySem PySem.W PySem.W.X
open Sem (wp)
set_option maxRecDepth 100000
set_option linter.unusedVariables false
namespace Mine
section
variable {M : Model} {Γ : Ctx}
theorem field_iff {a : Addr} {i : Nat} {o : Obj} {vs : Array Value} {x : Value} {Q : Value → Pos → Shared → Prop} {E : VQ} {p : Pos} {s : Shared} (ho : s.heap.get? a = some o) (hd : o.data = .fields vs) (hx : vs[i]? = some x) :
    wp M Γ (field (.ref a) i) Q E p s ↔ Q x p s := by
  unfold field fieldsOf
  rw [Sem.wp_bind', Sem.wp_bind']
  show wp M Γ (load a) _ _ p s ↔ _
  rw [Sem.wp_load_of M Γ _ p s ho]
  rw [hd]
  show wp M Γ (match vs[i]? with | some x => pure x | none => unsupported "internal:no-such-field") Q E p s ↔ _
  rw [hx]
  exact Iff.rfl
theorem frameOf_of {env env' : Env} {es : List Env} {f : Addr} {K : Value → Pos → Shared → Prop} {E : VQ} {p : Pos} {s : Shared} (hf : env.frame = some f) (hf' : env'.frame = some f) (he : envsAt ((Γ.code, p) :: Γ.below) = env' :: es)
    (h : wp M Γ (readyFrames (env' :: es)) (fun _ p s => K (.ref f) p s) E p s) : wp M Γ (frameOf env) K E p s := by
  unfold frameOf frameEnvs
  rw [Sem.wp_bind', Sem.wp_bind']
  show wp M Γ (Sem.stack pure) _ _ p s
  rw [Sem.wp_stack]
  show wp M Γ (do
    match ← frameObject (((((Γ.code, p) :: Γ.below).filter (·.1.isFrame)).filterMap (·.1.env?)).dropWhile (·.frame != env.frame)) with
    | some f => pure f
    | none => unsupported "internal:frame-not-on-the-stack") K E p s
  have he' : (((Γ.code, p) :: Γ.below).filter (·.1.isFrame)).filterMap (·.1.env?) = env' :: es := he
  rw [he']
  have hd : (env' :: es).dropWhile (·.frame != env.frame) = env' :: es := by
    rw [List.dropWhile_cons, hf, hf']
    simp
  rw [hd]
  unfold frameObject
  rw [Sem.wp_bind', Sem.wp_bind']
  refine Sem.wp_mono M Γ _ (fun _ p s q => ?_) (fun _ _ _ q => q) p s h
  rw [hf']
  exact q
theorem envsAt_pos {c : Code} {p q : Pos} {l : List (Code × Pos)} : envsAt ((c, p) :: l) = envsAt ((c, q) :: l) := by
  unfold envsAt
  cases h : c.isFrame <;> simp [h, List.filterMap_cons]
variable {Y : Trees} (hY : Y.Ok)
include hY
theorem wp_noteN {e : Value} {f : Addr} {es : List Env} {Q : Unit → Pos → Shared → Prop} {E : VQ} {p : Pos} {s : Shared} :
    wp M Γ (noteN Y e f es) Q E p s = wp M Γ (field e 1) (fun head p s => wp M Γ (match head with
      | .none => (.pure () : Sem Unit)
      | _ => Sem.bind (field head 3) fun _ => setField head 3 .none) (fun _ p s => wp M Γ (readyFrames es) (fun _ p s =>
        wp M Γ (newFields "traceback" [head, .ref f, .none, rawInt f, .none, Z.cellQ 0 (Z.placeOf f (head != .none) ((Γ.code, p) :: Γ.below)), Z.cellQ 1 (Z.placeOf f (head != .none) ((Γ.code, p) :: Γ.below)), Z.cellQ 2 (Z.placeOf f (head != .none) ((Γ.code, p) :: Γ.below)), Z.cellQ 3 (Z.placeOf f (head != .none) ((Γ.code, p) :: Γ.below)), Z.cellQ 4 (Z.placeOf f (head != .none) ((Γ.code, p) :: Γ.below)), Z.cellQ 5 (Z.placeOf f (head != .none) ((Γ.code, p) :: Γ.below))])
          (fun t p s => wp M Γ (setField e 1 t) Q E p s) E p s) E p s) E p s) E p s := by
  unfold noteN
  simp only [hY.bind, hY.cell, Sem.wp_bind, Sem.wp_stack]
  all_goals rfl
omit hY in
theorem note_S {a b f : Addr} {oe ot : Obj} {vs ts : Array Value} {env : Env} {Q : Unit → Pos → Shared → Prop} {E : VQ} {p : Pos} {s : Shared} (hf : env.frame = some f)
    (he : s.heap.get? a = some oe) (hd : oe.data = .fields vs) (h1 : vs[1]? = some (.ref b)) (ht : s.heap.get? b = some ot) (htd : ot.data = .fields ts) (h3 : ts[3]? = some (rawInt f)) (h : Q () p s) :
    wp M Γ (noteFrame (.ref a) env) Q E p s := by
  unfold noteFrame
  simp only [hf]
  rw [Sem.wp_bind', field_iff he hd h1]
  rw [if_pos (show (Value.ref b != Value.none) = true from by simp)]
  rw [Sem.wp_bind', field_iff ht htd h3]
  rw [if_pos (show (rawInt f == rawInt f) = true from by simp)]
  exact h
theorem note_N {a f : Addr} {oe : Obj} {vs : Array Value} {env env' : Env} {es : List Env} {Q : Unit → Pos → Shared → Prop} {E : VQ} {p : Pos} {s : Shared} (hf : env.frame = some f) (hf' : env'.frame = some f)
    (hes : envsAt ((Γ.code, p) :: Γ.below) = env' :: es)
    (he : s.heap.get? a = some oe) (hd : oe.data = .fields vs) (h1 : vs[1]? = some .none) (h : wp M Γ (noteN Y (.ref a) f (env' :: es)) Q E p s) :
    wp M Γ (noteFrame (.ref a) env) Q E p s := by
  rw [wp_noteN hY, field_iff he hd h1] at h
  rw [Z.noteFrameQ_eq]
  unfold Z.noteFrameQ
  simp only [hf]
  rw [Sem.wp_bind', field_iff he hd h1]
  have h' : wp M Γ (readyFrames (env' :: es)) _ E p s := h
  rw [if_neg (show ¬ ((Value.none != Value.none) = true) from by simp)]
  rw [Sem.wp_bind']
  refine frameOf_of hf hf' hes ?_
  refine Sem.wp_mono M Γ _ (fun _ p s q => ?_) (fun _ _ _ q => q) p s h'
  rw [Sem.wp_bind']
  show wp M Γ (newFields _ _ >>= _) Q E p s
  rw [Sem.wp_bind']
  exact q
theorem note_H {a b f : Addr} {oe ot : Obj} {vs ts : Array Value} {env env' : Env} {es : List Env} {Q : Unit → Pos → Shared → Prop} {E : VQ} {p : Pos} {s : Shared} (hf : env.frame = some f) (hf' : env'.frame = some f)
    (hes : envsAt ((Γ.code, p) :: Γ.below) = env' :: es)
    (he : s.heap.get? a = some oe) (hd : oe.data = .fields vs) (h1 : vs[1]? = some (.ref b)) (ht : s.heap.get? b = some ot) (htd : ot.data = .fields ts) (h3 : ts[3]? = some .none)
    (h : wp M Γ (noteN Y (.ref a) f (env' :: es)) Q E p s) :
    wp M Γ (noteFrame (.ref a) env) Q E p s := by
  rw [wp_noteN hY, field_iff he hd h1] at h
  rw [Z.noteFrameQ_eq]
  unfold Z.noteFrameQ
  simp only [hf]
  rw [Sem.wp_bind', field_iff he hd h1]
  rw [if_pos (show (Value.ref b != Value.none) = true from by simp)]
  rw [Sem.wp_bind', field_iff ht htd h3]
  rw [if_neg (show ¬ ((Value.none == rawInt f) = true) from by simp [rawInt])]
  rw [Sem.wp_bind']
  have h2 : wp M Γ (Sem.bind (field (.ref b) 3) fun _ => setField (.ref b) 3 .none) _ E p s := h
  rw [Sem.wp_bind, field_iff ht htd h3] at h2
  refine Sem.wp_mono M Γ _ (fun _ p s q => ?_) (fun _ _ _ q => q) p s h2
  rw [Sem.wp_bind']
  refine frameOf_of hf hf' (envsAt_pos.trans hes) ?_
  refine Sem.wp_mono M Γ _ (fun _ p s q => ?_) (fun _ _ _ q => q) p s q
  rw [Sem.wp_bind']
  show wp M Γ (newFields _ _ >>= _) Q E p s
  rw [Sem.wp_bind']
  exact q
end
end Mine
end
section
open PySem PySem.W PySem.W.X PySem.Calls PyProof.Rows
open Sem (wp)
set_option maxRecDepth 100000
set_option linter.unusedVariables false
namespace Mine
theorem plain_get : plainId "dict.get" = true := by decide +kernel
theorem plain_contains : plainId "dict.__contains__" = true := by decide +kernel
theorem plain_getitem : plainId "dict.__getitem__" = true := by decide +kernel
theorem plain_tin : plainId "tuple.__contains__" = true := by decide +kernel
theorem plain_leq : plainId "list.__eq__" = true := by decide +kernel
theorem plain_linit : plainId "list.__init__" = true := by decide +kernel
theorem plain_liadd : plainId "list.__iadd__" = true := by decide +kernel
section
variable {prog : Program} {w : World} {A : Around} {E : Value → Shared → Prop} {s : Shared}
theorem codeAny_of_in1 {id : String} {args : Args} {b : Builtin} {R : Result → Shared → Prop} (hp : plainId id = true) (hb : entryFor table id = some b)
    (h : wpAny (model prog w) A.in1 (b args) (fun fin s' => match fin with | .done f => R (.ok f) s' | .again c' => c'.quiet = true ∧ codeAny (model prog w) A c' R s') (fun e s' => R (.error e) s') s) :
    codeAny (model prog w) A (.builtin id args) R s := by
  refine codeAny_builtin hb ?_
  rw [Around.under_plainId hp]
  exact h
theorem findS_eq (x : Str) : ∀ l : List DictEntry, findS x l = (l.find? fun e => e.key.isStr x).map (·.val)
  | [] => rfl
  | e :: l => by
    unfold findS
    rw [List.find?_cons]
    cases h : e.key.isStr x with
    | true => rfl
    | false => exact findS_eq x l
theorem find_val {p : DictEntry → Bool} (es : Array DictEntry) : (es.toList.find? p).map (·.val) = match es.findIdx? p with
    | some i => es[i]?.map (·.val)
    | none => none := by
  obtain ⟨l⟩ := es
  simp only [List.findIdx?_toArray, List.getElem?_toArray]
  induction l with
  | nil => rfl
  | cons e l ih =>
    rw [List.find?_cons, List.findIdx?_cons]
    cases he : p e with
    | true => rfl
    | false =>
      simp only [Bool.false_eq_true, if_false]
      rw [ih]
      cases List.findIdx? p l <;> rfl
theorem allStr_spec : ∀ l : List DictEntry, allStr l = true → ∀ e ∈ l, ∃ x t, e.key = .str x t
  | [], _, _, h => nomatch h
  | e :: l, h, e', he => by
    unfold allStr at h
    split at h
    · rename_i x t hk
      cases he with
      | head => exact ⟨x, t, hk⟩
      | tail _ hm => exact allStr_spec l h e' hm
    · cases h
theorem wpAny_dictFind_str {d : Addr} {o : Obj} {es : Array DictEntry} {ep : Nat} {x : Str} {t : Tok} {hh : Int} {Q : Option Nat → Shared → Prop} (ho : s.heap.get? d = some o) (hd : o.data = .dict es ep)
    (hall : allStr es.toList = true) (h : Q (es.findIdx? fun e => e.key.isStr x) s) : wpAny (model prog w) A (dictFind d (.str x t) hh) Q E s := by
  unfold dictFind
  try with_reducible refine wpAny_holding ?_
  refine wpAny_bind (wpAny_dictEntries ho hd ?_)
  dsimp only
  have ha : (es.all fun e => isExactStrKey e.key) = true := by
    rw [Array.all_eq_true]
    intro i hi
    obtain ⟨y, u, hk⟩ := allStr_spec _ hall es[i] (by simp)
    rw [hk]; rfl
  rw [if_pos ha]
  unfold foundByValue
  cases hf : es.findIdx? (fun e => e.key.isStr x) with
  | none => rw [hf] at h; exact wpAny_pure h
  | some i =>
    rw [hf] at h
    have hi := Array.findIdx?_eq_some_iff_getElem.mp hf
    obtain ⟨hlt, hp, _⟩ := hi
    obtain ⟨y, u, hk⟩ := allStr_spec _ hall es[i] (by simp)
    have hyx : y = x := by
      rw [hk] at hp
      simpa [Value.isStr] using hp
    subst hyx
    have hg : es[i]? = some es[i] := Array.getElem?_eq_getElem hlt
    dsimp only
    rw [hg]
    refine wpAny_bind (wpAny_dictEpoch ho hd ?_)
    refine wpAny_bind ?_
    rw [hk]
    refine wpAny_eqBool_str ?_
    refine wpAny_bind (wpAny_dictEpoch ho hd ?_)
    rw [if_neg (by simp)]
    rw [if_pos (by simp)]
    exact wpAny_bind (wpAny_rule (wpAny_pure h))
theorem wpAny_dictGet_str {d : Addr} {o : Obj} {es : Array DictEntry} {ep : Nat} {x : Str} {t : Tok} {Q : Option Value → Shared → Prop} (ho : s.heap.get? d = some o) (hd : o.data = .dict es ep)
    (hall : allStr es.toList = true) (h : Q (findS x es.toList) { s with toks := s.toks + 1 }) : wpAny (model prog w) A (dictGet d (.str x t)) Q E s := by
  unfold dictGet
  try with_reducible refine wpAny_holding ?_
  refine wpAny_bind (wpAny_pyHash_str ?_)
  refine wpAny_bind (wpAny_dictFind_str (s := { s with toks := s.toks + 1 }) ho hd hall ?_)
  rw [findS_eq, find_val] at h
  cases hf : es.findIdx? (fun e => e.key.isStr x) with
  | none => rw [hf] at h; exact wpAny_pure h
  | some i => rw [hf] at h; exact wpAny_bind (wpAny_dictEntries (s := { s with toks := s.toks + 1 }) ho hd (wpAny_pure h))
theorem allInt_spec : ∀ l : List DictEntry, allInt l = true → ∀ e ∈ l, ∃ k t, e.key = .int k t ∧ e.hash = hashInt k
  | [], _, _, h => nomatch h
  | e :: l, h, e', he => by
    unfold allInt at h
    split at h
    · rename_i k t hk
      split at h
      · rename_i hh
        cases he with
        | head => exact ⟨k, t, hk, of_decide_eq_true hh⟩
        | tail _ hm => exact allInt_spec l h e' hm
      · cases h
    · cases h
theorem findI_eq (k : Int) : ∀ l : List DictEntry, allInt l = true → findI k l = (l.find? fun e => Value.isInt k e.key).map (·.val)
  | [], _ => rfl
  | e :: l, h => by
    obtain ⟨j, t, hk, hh⟩ := allInt_spec _ h e (.head _)
    have hl : allInt l = true := by
      unfold allInt at h
      rw [hk] at h
      dsimp only at h
      rw [decide_eq_true hh] at h
      exact h
    unfold findI
    rw [List.find?_cons, hk]
    dsimp only
    have e1 : Value.isInt k (.int j t) = decide (j = k) := by
      unfold Value.isInt
      by_cases q : j = k <;> simp [q]
    rw [e1]
    by_cases q : j = k
    · rw [decide_eq_true q]; rfl
    · rw [decide_eq_false q]; exact findI_eq k l hl
theorem wpAny_dictGet_int {d : Addr} {o : Obj} {es : Array DictEntry} {ep : Nat} {k : Int} {t : Tok} {Q : Option Value → Shared → Prop} (ho : s.heap.get? d = some o) (hd : o.data = .dict es ep)
    (hall : allInt es.toList = true) (h : Q (findI k es.toList) { s with toks := s.toks + 1 }) : wpAny (model prog w) A (dictGet d (.int k t)) Q E s := by
  unfold dictGet
  try with_reducible refine wpAny_holding ?_
  refine wpAny_bind (wpAny_pyHash_int ?_)
  have hk : IntKeys es := fun e he => by
    obtain ⟨j, u, h1, h2⟩ := allInt_spec _ hall e (by simpa using he)
    exact ⟨j, u, h1, h2⟩
  refine wpAny_bind (wpAny_dictFind_int (s := { s with toks := s.toks + 1 }) ho hd hk ?_)
  rw [findI_eq k _ hall, find_val] at h
  cases hf : es.findIdx? (fun e => Value.isInt k e.key) with
  | none => rw [hf] at h; exact wpAny_pure h
  | some i => rw [hf] at h; exact wpAny_bind (wpAny_dictEntries (s := { s with toks := s.toks + 1 }) ho hd (wpAny_pure h))
/-- the three look-ups of a dict -/
theorem look_get {d : Addr} {key : Value} {r : Option Value} {R : Result → Shared → Prop} (hd : (d == sysModules) = false) (hR : R (rtn (r.getD .none)) { s with toks := s.toks + 1 })
    (hg : ∀ (A : Around) (E : Value → Shared → Prop) (Q : Option Value → Shared → Prop), Q r { s with toks := s.toks + 1 } → wpAny (model prog w) A (dictGet d key) Q E s) :
    codeAny (model prog w) A (.builtin "dict.get" ⟨[.ref d, key], []⟩) R s := by
  refine codeAny_of_in1 plain_get F.entry_dict_get ?_
  show wpAny _ _ (dictGet d key >>= _) _ _ s
  refine wpAny_bind (hg _ _ _ ?_)
  cases r with
  | some v => exact wpAny_pure hR
  | none =>
    show wpAny _ _ (Builtin.Dict.missed d key >>= _) _ _ _
    exact wpAny_bind (wpAny_missed_other hd (wpAny_pure hR))
theorem look_contains {d : Addr} {key : Value} {r : Option Value} {R : Result → Shared → Prop} (hd : (d == sysModules) = false) (hR : R (rtn (.bool r.isSome)) { s with toks := s.toks + 1 })
    (hg : ∀ (A : Around) (E : Value → Shared → Prop) (Q : Option Value → Shared → Prop), Q r { s with toks := s.toks + 1 } → wpAny (model prog w) A (dictGet d key) Q E s) :
    codeAny (model prog w) A (.builtin "dict.__contains__" ⟨[.ref d, key], []⟩) R s := by
  refine codeAny_of_in1 plain_contains F.entry_dict_contains ?_
  show wpAny _ _ (dictGet d key >>= _) _ _ s
  refine wpAny_bind (hg _ _ _ ?_)
  cases r with
  | some v => exact wpAny_pure hR
  | none =>
    show wpAny _ _ (Builtin.Dict.pendingKey? d key >>= _) _ _ _
    exact wpAny_bind (wpAny_pendingKey_other hd (wpAny_pure hR))
theorem look_item {d : Addr} {key v : Value} {R : Result → Shared → Prop} (hR : R (rtn v) { s with toks := s.toks + 1 })
    (hg : ∀ (A : Around) (E : Value → Shared → Prop) (Q : Option Value → Shared → Prop), Q (some v) { s with toks := s.toks + 1 } → wpAny (model prog w) A (dictGet d key) Q E s) :
    codeAny (model prog w) A (.builtin "dict.__getitem__" ⟨[.ref d, key], []⟩) R s := by
  refine codeAny_of_in1 plain_getitem F.entry_dict_getitem ?_
  show wpAny _ _ (dictGet d key >>= _) _ _ s
  refine wpAny_bind (hg _ _ _ ?_)
  exact wpAny_pure hR
theorem strsOf_spec : ∀ (l : List Value) (ys : List Str), strsOf l = some ys → StrsAre l ys
  | [], _, h => by cases h; exact .nil
  | v :: l, ys, h => by
    unfold strsOf at h
    split at h
    · rename_i x t
      split at h
      · rename_i r hr
        cases h
        exact .cons x t (strsOf_spec l r hr)
      · cases h
    · cases h
theorem anyS_eq (x : Str) : ∀ l : List Str, anyS x l = l.any (· == x)
  | [] => rfl
  | y :: l => by
    unfold anyS
    rw [List.any_cons]
    by_cases h : y = x
    · rw [decide_eq_true h]; simp [h]
    · rw [decide_eq_false h]
      show anyS x l = _
      rw [anyS_eq x l]
      simp [h]
theorem look_tin {t : Addr} {o : Obj} {items : Array Value} {n : Nat} {x : Str} {u : Tok} {ys : List Str} {R : Result → Shared → Prop} (ho : s.heap.get? t = some o) (hc : o.cls = .type "tuple") (hd : o.data = .seq items n)
    (hs : strsOf items.toList = some ys) (hR : R (rtn (.bool (anyS x ys))) s) : codeAny (model prog w) A (.builtin "tuple.__contains__" ⟨[.ref t, .str x u], []⟩) R s := by
  refine codeAny_of_in1 plain_tin F.entry_tuple_contains ?_
  refine tuple_contains_strs ⟨o, ho, hc, n, hd⟩ (strsOf_spec _ _ hs) ?_
  rw [anyS_eq] at hR
  exact hR
theorem strsAre_len : ∀ {l : List Value} {ys : List Str}, StrsAre l ys → l.length = ys.length
  | _, _, .nil => rfl
  | _, _, .cons _ _ h => by rw [List.length_cons, List.length_cons, strsAre_len h]
theorem strsAre_get : ∀ {l : List Value} {ys : List Str}, StrsAre l ys → ∀ (j : Nat) (h : j < l.length) (h' : j < ys.length), ∃ t, l[j] = .str ys[j] t
  | _, _, .cons y t h, 0, _, _ => ⟨t, rfl⟩
  | _, _, .cons y t h, j + 1, q, q' => strsAre_get h j (by simpa using q) (by simpa using q')
theorem eqSS_len : ∀ {xs ys : List Str} {b : Bool}, eqSS xs ys = some b → xs.length = ys.length
  | [], [], _, _ => rfl
  | [], _ :: _, _, h => by cases h
  | _ :: _, [], _, h => by cases h
  | x :: xs, y :: ys, b, h => by
    unfold eqSS at h
    dsimp only at h
    split at h
    · rename_i b' hb
      rw [List.length_cons, List.length_cons, eqSS_len hb]
    · cases h
theorem eqSS_all : ∀ {xs ys : List Str} {b : Bool}, eqSS xs ys = some b → b = (List.range xs.length).all fun j => decide (xs[j]? = ys[j]?)
  | [], [], _, h => by cases h; rfl
  | [], _ :: _, _, h => by cases h
  | _ :: _, [], _, h => by cases h
  | x :: xs, y :: ys, b, h => by
    unfold eqSS at h
    dsimp only at h
    rw [List.length_cons, List.range_succ_eq_map, List.all_cons, List.all_map]
    split at h
    · rename_i b' hb
      have ih := eqSS_all hb
      have e : ((fun j => decide ((x :: xs)[j]? = (y :: ys)[j]?)) ∘ Nat.succ) = fun j => decide (xs[j]? = ys[j]?) := by funext j; simp
      rw [e, ← ih]
      by_cases q : x = y
      · rw [decide_eq_true q] at h; cases h; simp [q]
      · rw [decide_eq_false q] at h; cases h; simp [q]
    · cases h
theorem look_leq {l b : Addr} {o o2 : Obj} {items items2 : Array Value} {n n2 : Nat} {xs ys : List Str} {r : Bool} {R : Result → Shared → Prop} (ho : s.heap.get? l = some o) (hc : o.cls = .type "list") (hd : o.data = .seq items n)
    (ho2 : s.heap.get? b = some o2) (hc2 : o2.cls = .type "list") (hd2 : o2.data = .seq items2 n2) (hs : strsOf items.toList = some xs) (hs2 : strsOf items2.toList = some ys) (he : eqSS xs ys = some r)
    (hR : R (rtn (.bool r)) s) : codeAny (model prog w) A (.builtin "list.__eq__" ⟨[.ref l, .ref b], []⟩) R s := by
  refine codeAny_of_in1 plain_leq F.entry_list_eq ?_
  obtain ⟨c, dd, dt, sl⟩ := o
  obtain ⟨c2, dd2, dt2, sl2⟩ := o2
  dsimp only at hc hd hc2 hd2
  subst hc hd hc2 hd2
  have h1 := strsOf_spec _ _ hs
  have h2 := strsOf_spec _ _ hs2
  have l1 := strsAre_len h1
  have l2 := strsAre_len h2
  have l3 := eqSS_len he
  have l1' : items.size = xs.length := by rw [← l1]; simp
  have l2' : items2.size = ys.length := by rw [← l2]; simp
  refine PySem.SeqAt.list_eqAt l b items items2 n n2 dd dd2 sl sl2 (by rw [l1', l2', l3]) (fun j => decide (xs[j]? = ys[j]?)) prog w A R s ⟨ho, ho2, fun j q q2 => ?_, ?_⟩
  · obtain ⟨t, e1⟩ := strsAre_get h1 j (by simpa using q) (by omega)
    obtain ⟨t2, e2⟩ := strsAre_get h2 j (by simpa using q2) (by omega)
    have e1' : items[j] = .str xs[j] t := by simpa using e1
    have e2' : items2[j] = .str ys[j] t2 := by simpa using e2
    rw [e1', e2']
    have := (eqGives_str xs[j] ys[j] t t2).at A.in1 s
    have hx : xs[j]? = some xs[j] := List.getElem?_eq_getElem _
    have hy : ys[j]? = some ys[j] := List.getElem?_eq_getElem _
    rw [hx, hy]
    have e3 : decide (some xs[j] = some ys[j]) = (xs[j] == ys[j]) := by
      rw [Bool.eq_iff_iff]; simp
    rw [e3]
    exact this
  · rw [l1', ← eqSS_all he]
    exact hR
theorem look_linit {S it : Addr} {o : Obj} {items : Array Value} {n : Nat} {R : Result → Shared → Prop} (hne : it ≠ S) (hS : s.heap.get? S = some { cls := .type "list", data := .seq #[] })
    (ho : s.heap.get? it = some o) (hc : o.cls = .type "list") (hd : o.data = .seq items n) (hsz : items.size ≤ 1000)
    (hR : R (rtn .none) { s with heap := (s.heap.update S (Obj.mapSeq (fun _ => (#[] : Array Value)))).update S (Obj.mapSeq (· ++ items)) }) :
    codeAny (model prog w) A (.builtin "list.__init__" ⟨[.ref S, .ref it], []⟩) R s :=
  codeAny_of_in1 plain_linit F.entry_list_init (wpAny_list_init_seq S it (.inl rfl) hne hS ho hc hd hR (by unfold sizeLine; omega))
theorem look_liadd {S it : Addr} {oS o : Obj} {xs items : Array Value} {c n : Nat} {R : Result → Shared → Prop} (hS : s.heap.get? S = some oS) (hSd : oS.data = .seq xs c)
    (ho : s.heap.get? it = some o) (hc : o.cls = .type "list") (hd : o.data = .seq items n) (hsz : xs.size + items.size ≤ 1000)
    (hR : R (rtn (.ref S)) { s with heap := s.heap.update S (Obj.mapSeq (· ++ items)) }) :
    codeAny (model prog w) A (.builtin "list.__iadd__" ⟨[.ref S, .ref it], []⟩) R s := by
  refine codeAny_of_in1 plain_liadd F.entry_list_iadd ?_
  show wpAny _ _ (Builtin.List.listExtendWith (.ref S) (.ref it) (.ref S)) _ _ s
  unfold Builtin.List.listExtendWith
  refine wpAny_bind (wpAny_typeOf ⟨o, ho, hc⟩ ?_)
  have h1 : (Builtin.List.listSameRef (.ref S) (.ref it) || Value.type "list" == Value.type "list" || Value.type "list" == Value.type "tuple") = true := by simp
  simp only [h1, if_true]
  refine wpAny_bind ?_
  unfold Builtin.List.listItems
  refine wpAny_bind (wpAny_seqItems ho hd (wpAny_pure ?_))
  refine wpAny_bind ?_
  refine wpAny_bind (wpAny_seqItems hS hSd (wpAny_pure ?_))
  have h2 : (!xs.isEmpty && Builtin.List.listTooLong (xs.size + items.size)) = false := by
    have : Builtin.List.listTooLong (xs.size + items.size) = false := by
      unfold Builtin.List.listTooLong sizeLine
      simp
      omega
    rw [this, Bool.and_false]
  rw [h2, if_neg (by simp)]
  show wpAny _ A.in1 (updateSeq S (· ++ items) >>= fun _ => ret (.ref S)) _ _ s
  refine wpAny_bind (wpAny_updateSeq hS hSd ?_ (by unfold sizeLine; omega) (by unfold sizeLine; simp; omega))
  exact wpAny_pure hR
end
end Mine
end
section
open PySem PySem.W PySem.W.X PySem.Calls PyProof.Rows
open Sem (wp)
set_option maxRecDepth 100000
set_option linter.unusedVariables false
namespace Mine
section
variable {prog : Program} {w : World} {A : Around} {E : Value → Shared → Prop} {s : Shared}
theorem iter_list {it : Addr} {Q : Value → Shared → Prop} (hT : s.TypeIs (.ref it) "list_iterator") (h : Q (.ref it) s) : wpAny (model prog w) A (pyIter (.ref it)) Q E s := by
  refine wpAny_pyIter_slot hT slot_listiter_iter (wpAny_call_entry slot_listiter_iter hT entry_listiter_iter ?_ (args_listiter_iter _))
  show wpAny _ _ (ret (.ref it)) _ _ s
  exact wpAny_pure ⟨_, rfl, "list_iterator", _, hT, slot_listiter_next.lookup, h⟩
theorem iter_range {it : Addr} {Q : Value → Shared → Prop} (hT : s.TypeIs (.ref it) "range_iterator") (h : Q (.ref it) s) : wpAny (model prog w) A (pyIter (.ref it)) Q E s := by
  refine wpAny_pyIter_slot hT F.slot_range_iterator_iter (wpAny_call_entry F.slot_range_iterator_iter hT F.entry_range_iterator_iter ?_ (F.args_range_iterator_iter_1 _))
  show wpAny _ _ (ret (.ref it)) _ _ s
  exact wpAny_pure ⟨_, rfl, "range_iterator", _, hT, F.slot_range_iterator_next.lookup, h⟩
theorem iter_tuple {it : Addr} {Q : Value → Shared → Prop} (hT : s.TypeIs (.ref it) "tuple_iterator") (h : Q (.ref it) s) : wpAny (model prog w) A (pyIter (.ref it)) Q E s := by
  refine wpAny_pyIter_slot hT F.slot_tuple_iterator_iter (wpAny_call_entry F.slot_tuple_iterator_iter hT F.entry_tuple_iterator_iter ?_ (F.args_tuple_iterator_iter_1 _))
  show wpAny _ _ (ret (.ref it)) _ _ s
  exact wpAny_pure ⟨_, rfl, "tuple_iterator", _, hT, F.slot_tuple_iterator_next.lookup, h⟩
theorem iter_key {it : Addr} {Q : Value → Shared → Prop} (hT : s.TypeIs (.ref it) "dict_keyiterator") (h : Q (.ref it) s) : wpAny (model prog w) A (pyIter (.ref it)) Q E s := by
  refine wpAny_pyIter_slot hT F.slot_dict_keyiterator_iter (wpAny_call_entry F.slot_dict_keyiterator_iter hT F.entry_dict_keyiterator_iter ?_ (F.args_dict_keyiterator_iter_1 _))
  show wpAny _ _ (ret (.ref it)) _ _ s
  exact wpAny_pure ⟨_, rfl, "dict_keyiterator", _, hT, F.slot_dict_keyiterator_next.lookup, h⟩
theorem isIter_spec {Y : Trees} (hY : Y.Ok) {T : BT} {j : Nat} (h : isIter Y T j = true) : ∃ o, T.get j = some o ∧ (o.cls = .type "list_iterator" ∨ o.cls = .type "range_iterator" ∨ o.cls = .type "tuple_iterator" ∨ o.cls = .type "dict_keyiterator") := by
  unfold isIter at h
  split at h
  · rename_i o ho
    refine ⟨o, ho, ?_⟩
    split at h
    · rename_i c hc
      simp only [hY.eqS] at h
      rw [hc]
      split at h
      · rename_i q; exact .inl (by rw [of_decide_eq_true q])
      · split at h
        · rename_i q; exact .inr (.inl (by rw [of_decide_eq_true q]))
        · split at h
          · rename_i q; exact .inr (.inr (.inl (by rw [of_decide_eq_true q])))
          · exact .inr (.inr (.inr (by rw [of_decide_eq_true h])))
    · cases h
  · cases h
theorem iter_any {it : Addr} {o : Obj} {Q : Value → Shared → Prop} (ho : s.heap.get? it = some o) (hc : o.cls = .type "list_iterator" ∨ o.cls = .type "range_iterator" ∨ o.cls = .type "tuple_iterator" ∨ o.cls = .type "dict_keyiterator") (h : Q (.ref it) s) : wpAny (model prog w) A (pyIter (.ref it)) Q E s := by
  rcases hc with hc | hc | hc | hc
  · exact iter_list ⟨o, ho, hc⟩ h
  · exact iter_range ⟨o, ho, hc⟩ h
  · exact iter_tuple ⟨o, ho, hc⟩ h
  · exact iter_key ⟨o, ho, hc⟩ h
end
section
variable {M : Model} {Γ : Ctx}
theorem compTurn_pos {e : Expr} {d : Nat} {it acc : Value} {env : Env} {Q : Fin → Pos → Shared → Prop} {E : VQ} {p p' : Pos} {s : Shared} (hp : plainComp e d = true) :
    wp M Γ (compTurn e d it acc env) Q E p s = wp M Γ (compTurn e d it acc env) Q E p' s := by
  unfold plainComp at hp
  cases e with
  | ListComp elt gens x y =>
    dsimp only at hp
    cases hg : gens[d]? with
    | none => rw [hg] at hp; cases hp
    | some g =>
      unfold compTurn
      dsimp only
      simp only [hg, Sem.wp_bind']
      rfl
  | DictComp k v gens x y =>
    dsimp only at hp
    cases hg : gens[d]? with
    | none => rw [hg] at hp; cases hp
    | some g =>
      unfold compTurn
      dsimp only
      simp only [hg, Sem.wp_bind']
      rfl
  | _ => cases hp
end
end Mine
end
section
open PySem PySem.W PySem.W.X PySem.Calls PyProof.Rows
open Sem (wp)
set_option maxRecDepth 100000
set_option linter.unusedVariables false
namespace Mine
def aroundOf (Γ : Ctx) : Around := ⟨Γ.handled, frameCount Γ.below + Γ.code.weight, none, none, Γ.units⟩
theorem in_around (Γ : Ctx) : Γ.In (aroundOf Γ) := ⟨rfl, Nat.le_refl _, (fun _ h => by cases h), (fun _ h => by cases h), Nat.le_refl _⟩
def belowOf (Γ : Ctx) : Around := ⟨Γ.handled, frameCount Γ.below, none, none, unitsOf Γ.below⟩
theorem below_around (Γ : Ctx) : Γ.Below (belowOf Γ) := ⟨rfl, Nat.le_refl _, (fun _ h => by cases h), (fun _ h => by cases h), Nat.le_refl _⟩
section
variable {prog : Program} {w : World} {Γ : Ctx}
theorem plainComp_spec {e : Expr} {d : Nat} (hp : plainComp e d = true) : (((clausesOf e)[d]?).elim false (·.is_async != 0)) = false ∧ (∀ it acc env, (Code.compStart e d it acc env).isFrame = false) := by
  unfold plainComp at hp
  cases e with
  | ListComp elt gens x y =>
    dsimp only at hp
    refine ⟨?_, fun _ _ _ => rfl⟩
    unfold clausesOf
    dsimp only
    split at hp
    · rename_i g hg
      rw [hg]
      show (g.is_async != 0) = false
      rw [of_decide_eq_true hp]
      rfl
    · cases hp
  | DictComp k v gens x y =>
    dsimp only at hp
    refine ⟨?_, fun _ _ _ => rfl⟩
    unfold clausesOf
    dsimp only
    split at hp
    · rename_i g hg
      rw [hg]
      show (g.is_async != 0) = false
      rw [of_decide_eq_true hp]
      rfl
    · cases hp
  | _ => cases hp
theorem compStart_sound {Y : Trees} (hY : Y.Ok) {e : Expr} {d : Nat} {a : Addr} {acc : Value} {env : Env} {R : Result → Shared → Prop} {p : Pos} {s : Shared} {o : Obj}
    (hΓ : Γ.code = .compStart e d (.ref a) acc env) (hp : plainComp e d = true) (ho : s.heap.get? a = some o)
    (hc : o.cls = .type "list_iterator" ∨ o.cls = .type "range_iterator" ∨ o.cls = .type "tuple_iterator" ∨ o.cls = .type "dict_keyiterator")
    (h : MeanR (model prog w) (Γ.goto (.compLoop e d (.ref a) acc env)) (hndOf (.compLoop e d (.ref a) acc env)) R (Y.compTurn e d (.ref a) acc env) p s) : wpCode (model prog w) Γ R p s := by
  obtain ⟨h1, h2⟩ := plainComp_spec hp
  have fin : ∀ p', Sem.finPost (model prog w) Γ R (.again (.compLoop e d (.ref a) acc env)) p' s := fun p' => by
    refine ⟨rfl, enter_mean hY rfl ?_⟩
    unfold MeanR at h ⊢
    rw [hY.compTurn] at h
    show wp (model prog w) _ (Y.compTurn e d (.ref a) acc env) _ _ p' s
    rw [hY.compTurn, compTurn_pos (p' := p) hp]
    exact h
  rw [wpCode_iff_wp, hΓ]
  show wp (model prog w) Γ (if (Code.compStart e d (.ref a) acc env).isFrame then (compStart e d (.ref a) acc env).onRaise (leaving env) else (compStart e d (.ref a) acc env).onRaise (fun x => do noteFrame x env; standAt theWindowsPlace)) _ _ p s
  rw [if_neg (by rw [h2]; simp), Sem.wp_onRaise]
  unfold compStart
  rw [if_neg (by rw [h1]; simp)]
  rw [Sem.wp_bind']
  show wp (model prog w) Γ (if w.params.followText "comprehension-iter-twice" = true then again (.compLoop e d (.ref a) acc env) else _) _ _ p s
  by_cases q : w.params.followText "comprehension-iter-twice" = true
  · rw [if_pos q]
    exact fin p
  · rw [if_neg q]
    have key : ∀ p', wp (model prog w) Γ (pyIter (.ref a) >>= fun it => again (.compLoop e d it acc env)) (Sem.finPost (model prog w) Γ R) (fun e_1 p s => wp (model prog w) Γ (do noteFrame e_1 env; standAt theWindowsPlace) (fun _ p'' s'' => R (.error e_1) s'') (fun e _ s' => R (.error e) s') p s) p' s := fun p' => by
      rw [Sem.wp_bind']
      have := iter_any (prog := prog) (w := w) (A := aroundOf Γ) (E := fun _ _ => False) (s := s) (Q := fun v s' => v = .ref a ∧ s' = s) ho hc ⟨rfl, rfl⟩
      refine Sem.wp_mono _ Γ _ (fun v p'' s'' q => ?_) (fun _ _ _ q => q.elim) p' s (this Γ p' (in_around Γ))
      obtain ⟨rfl, rfl⟩ := q
      exact fin p''
    rw [Sem.wp_bind']
    show wp (model prog w) Γ (do if let some g := (clausesOf e)[d]? then standAt g.iter.pos
                                 again (.compLoop e d (← pyIter (.ref a)) acc env)) _ _ p s
    cases (clausesOf e)[d]? with
    | none => exact key p
    | some g => exact key _
end
end Mine
end
section
open PySem PySem.W PySem.W.X PySem.Calls PyProof.Rows
open Sem (wp)
set_option maxRecDepth 100000
set_option linter.unusedVariables false
namespace Mine
/-- what a run's end says of the state it set out from -/
def Goes (V : Cfg) (R₀ : Result → Shared → Prop) (la lb : List Ob) (X : Prop) : Out → Prop
  | .more Γ p H κ t T m i ch _ la' lb' => la' = lb' → (∀ h, Rep V h T m ch → Mean V.M R₀ Γ p H κ t (sh V h i)) → la = lb ∧ X
  | .done r T m i ch _ la' lb' => la' = lb' → (∀ h, Rep V h T m ch → R₀ r (sh V h i)) → la = lb ∧ X
  | .bad _ => True
theorem Goes.mono {V : Cfg} {R₀ : Result → Shared → Prop} {la lb la' lb' : List Ob} {X X' : Prop} {o : Out} (h : Goes V R₀ la' lb' X' o) (f : la' = lb' → X' → la = lb ∧ X) : Goes V R₀ la lb X o := by
  cases o with
  | more Γ p H κ t T m i ch ce la₂ lb₂ => exact fun e q => let z := h e q; f z.1 z.2
  | done r T m i ch ce la₂ lb₂ => exact fun e q => let z := h e q; f z.1 z.2
  | bad n => trivial
def Hom (V : Cfg) (R₀ : Result → Shared → Prop) (ih : SimE) : Prop := ∀ Γ p H κ t T m i ch ce la lb,
  Goes V R₀ la lb (∀ h, Rep V h T m ch → Mean V.M R₀ Γ p H κ t (sh V h i)) (ih Γ p H κ t T m i ch ce la lb)
section
variable {V : Cfg} {Y : Trees} {R₀ : Result → Shared → Prop} {ih : SimE}
theorem finish_sound (hi : Hom V R₀ ih) {r : Result} {κ : KC} {T : BT} {m i : Nat} {ch : Ch} {ce : List Nat} {la lb : List Ob} :
    Goes V R₀ la lb (∀ h, Rep V h T m ch → post V.M R₀ κ r (sh V h i)) (finish ih r κ T m i ch ce la lb) := by
  cases κ with
  | base => exact fun e q => ⟨e, q⟩
  | ret Γ p H k κ => exact (hi Γ p H κ (k r) T m i ch ce la lb)
theorem cons_inj {a b : Ob} {la lb : List Ob} (h : a :: la = b :: lb) : a = b ∧ la = lb := by cases h; exact ⟨rfl, rfl⟩
theorem n_inj {a b : Nat} (h : Ob.n a = Ob.n b) : a = b := by cases h; rfl
theorem v_inj {a b : Value} (h : Ob.v a = Ob.v b) : a = b := by cases h; rfl
theorem t_inj {a b : Sem Fin} (h : Ob.t a = Ob.t b) : a = b := by cases h; rfl
theorem fieldsAt_spec {T : BT} {j : Nat} {l : List Value} (h : fieldsAt T j = some l) : ∃ o vs, T.get j = some o ∧ o.data = .fields vs ∧ vs.toList = l := by
  unfold fieldsAt at h
  split at h
  · rename_i o ho
    split at h
    · rename_i vs hv
      cases h
      exact ⟨o, vs, ho, hv, rfl⟩
    · cases h
  · cases h
theorem arr_get {vs : Array Value} {l : List Value} {n : Nat} (h : vs.toList = l) : vs[n]? = l[n]? := by
  rw [← h]; simp
theorem note_ref (hY : Y.Ok) (hi : Hom V R₀ ih) {Γ : Ctx} {p : Pos} {H : Hnd} {κ : KC} {a : Addr} {env : Env} {K : Sem Fin} {T : BT} {m i : Nat} {ch : Ch} {ce : List Nat} {la lb : List Ob} {f : Addr} (hf : env.frame = some f) :
    Goes V R₀ la lb (∀ h, Rep V h T m ch → wp V.M Γ (noteFrame (.ref a) env) (fun _ p s => MeanR V.M Γ H (post V.M R₀ κ) K p s) (lfQE V.M Γ H.B (post V.M R₀ κ) H.L).2 p (sh V h i))
      (match ce with
      | 0 :: je :: jh :: ce => match fieldsAt T je with
        | some (_ :: .ref b :: _) => match fieldsAt T jh with
          | some (_ :: _ :: _ :: v :: _) => ih Γ p H κ K T m i ch ce (.n a :: .n b :: .v v :: la) (.n (V.loc je) :: .n (V.loc jh) :: .v (rawInt f) :: lb)
          | _ => .bad 61
        | _ => .bad 62
      | 1 :: je :: ce => match fieldsAt T je with
        | some (_ :: .none :: _) => match envsAt ((Γ.code, p) :: Γ.below) with
          | env' :: es => match env'.frame with
            | some f' => ih Γ p H κ (Y.bind _ _ (noteN Y (.ref a) f (env' :: es)) fun _ => K) T m i ch ce (.n a :: .n f' :: la) (.n (V.loc je) :: .n f :: lb)
            | none => .bad 63
          | [] => .bad 64
        | _ => .bad 65
      | 2 :: je :: jh :: ce => match fieldsAt T je with
        | some (_ :: .ref b :: _) => match fieldsAt T jh with
          | some (_ :: _ :: _ :: .none :: _) => match envsAt ((Γ.code, p) :: Γ.below) with
            | env' :: es => match env'.frame with
              | some f' => ih Γ p H κ (Y.bind _ _ (noteN Y (.ref a) f (env' :: es)) fun _ => K) T m i ch ce (.n a :: .n b :: .n f' :: la) (.n (V.loc je) :: .n (V.loc jh) :: .n f :: lb)
              | none => .bad 66
            | [] => .bad 67
          | _ => .bad 68
        | _ => .bad 69
      | _ => .bad 70) := by
  split
  · rename_i je jh ce
    split
    rotate_left
    · trivial
    rename_i x0 b xr h1
    split
    rotate_left
    · trivial
    rename_i y0 y1 y2 v yr h2
    refine (hi ..).mono fun q M => ?_
    obtain ⟨q1, q⟩ := cons_inj q
    obtain ⟨q2, q⟩ := cons_inj q
    obtain ⟨q3, q⟩ := cons_inj q
    refine ⟨q, fun h D => ?_⟩
    obtain ⟨oe, vs, ge, de, le⟩ := fieldsAt_spec h1
    obtain ⟨ot, ts, gt, dt, lt⟩ := fieldsAt_spec h2
    rw [n_inj q1]
    refine note_S (b := b) (oe := oe) (ot := ot) (vs := vs) (ts := ts) hf (D.own _ _ ge).2 de ?_ ?_ dt ?_ ?_
    · rw [arr_get le]; rfl
    · rw [n_inj q2]; exact (D.own _ _ gt).2
    · rw [arr_get lt, ← v_inj q3]; rfl
    · exact M h D
  · rename_i je ce
    split
    rotate_left
    · trivial
    rename_i x0 xr h1
    split
    rotate_left
    · trivial
    rename_i env' es hes
    split
    rotate_left
    · trivial
    rename_i f' hf'
    refine (hi ..).mono fun q M => ?_
    obtain ⟨q1, q⟩ := cons_inj q
    obtain ⟨q2, q⟩ := cons_inj q
    refine ⟨q, fun h D => ?_⟩
    obtain ⟨oe, vs, ge, de, le⟩ := fieldsAt_spec h1
    have z := M h D
    unfold Mean MeanR at z
    rw [hY.bind, Sem.wp_bind] at z
    rw [n_inj q1] at z ⊢
    rw [n_inj q2] at hf'
    refine note_N hY (oe := oe) (vs := vs) hf hf' hes (D.own _ _ ge).2 de ?_ z
    rw [arr_get le]; rfl
  · rename_i je jh ce
    split
    rotate_left
    · trivial
    rename_i x0 b xr h1
    split
    rotate_left
    · trivial
    rename_i y0 y1 y2 yr h2
    split
    rotate_left
    · trivial
    rename_i env' es hes
    split
    rotate_left
    · trivial
    rename_i f' hf'
    refine (hi ..).mono fun q M => ?_
    obtain ⟨q1, q⟩ := cons_inj q
    obtain ⟨q2, q⟩ := cons_inj q
    obtain ⟨q3, q⟩ := cons_inj q
    refine ⟨q, fun h D => ?_⟩
    obtain ⟨oe, vs, ge, de, le⟩ := fieldsAt_spec h1
    obtain ⟨ot, ts, gt, dt, lt⟩ := fieldsAt_spec h2
    have z := M h D
    unfold Mean MeanR at z
    rw [hY.bind, Sem.wp_bind] at z
    rw [n_inj q1] at z ⊢
    rw [n_inj q3] at hf'
    refine note_H hY (b := b) (oe := oe) (ot := ot) (vs := vs) (ts := ts) hf hf' hes (D.own _ _ ge).2 de ?_ ?_ dt ?_ z
    · rw [arr_get le]; rfl
    · rw [n_inj q2]; exact (D.own _ _ gt).2
    · rw [arr_get lt]; rfl
  · trivial
theorem note_sound (hY : Y.Ok) (hi : Hom V R₀ ih) {Γ : Ctx} {p : Pos} {H : Hnd} {κ : KC} {e : Value} {env : Env} {K : Sem Fin} {T : BT} {m i : Nat} {ch : Ch} {ce : List Nat} {la lb : List Ob} :
    Goes V R₀ la lb (∀ h, Rep V h T m ch → wp V.M Γ (noteFrame e env) (fun _ p s => MeanR V.M Γ H (post V.M R₀ κ) K p s) (lfQE V.M Γ H.B (post V.M R₀ κ) H.L).2 p (sh V h i))
      (noteE V Y ih Γ p H κ e env K T m i ch ce la lb) := by
  unfold noteE
  cases hf : env.frame with
  | none => exact trivial
  | some f =>
  cases e with
  | ref a =>
   dsimp only
   exact note_ref hY hi hf
  | _ => exact trivial
theorem raise_sound (hY : Y.Ok) (hi : Hom V R₀ ih) {Γ : Ctx} {p : Pos} {H : Hnd} {κ : KC} {e : Value} {T : BT} {m i : Nat} {ch : Ch} {ce : List Nat} {la lb : List Ob} :
    Goes V R₀ la lb (∀ h, Rep V h T m ch → Mean V.M R₀ Γ p H κ (.raise e) (sh V h i)) (raiseE V Y ih Γ p H κ e T m i ch ce la lb) := by
  obtain ⟨L, B⟩ := H
  cases L with
  | nil =>
    cases B with
    | plain => exact finish_sound hi
    | fn env =>
      refine (note_sound hY hi).mono fun q M => ⟨q, fun h D => ?_⟩
      have z := M h D
      unfold MeanR at z
      simp only [hY.bind, Sem.wp_bind, hY.setFlight, Sem.wp_raise] at z
      exact z
    | gen env =>
      refine (note_sound hY hi).mono fun q M => ⟨q, fun h D => ?_⟩
      have z := M h D
      unfold MeanR at z
      simp only [hY.bind, Sem.wp_bind, hY.setFlight, Sem.wp_raise] at z
      exact z
    | blk env =>
      refine (note_sound hY hi).mono fun q M => ⟨q, fun h D => ?_⟩
      have z := M h D
      unfold MeanR at z
      simp only [hY.bind, Sem.wp_bind, hY.lotGoes, Sem.wp_raise] at z
      exact z
  | cons l L =>
    cases l with
    | seq rest env => exact hi ..
    | tryA hs o env =>
      refine (note_sound hY hi).mono fun q M => ⟨q, fun h D => ?_⟩
      have z := M h D
      show wp V.M Γ (noteFrame e env) _ _ p (sh V h i)
      refine Sem.wp_mono V.M Γ _ (fun _ p s q => ?_) (fun _ _ _ q => q) _ _ z
      unfold MeanR at q
      cases hs with
      | nil => exact q
      | cons x hs =>
        unfold exceptT at q
        rw [hY.bind, Sem.wp_bind, hY.setFlight, hY.handleBy] at q
        simp only [wp_doneT hY] at q
        show wp V.M Γ (setFlight e none >>= fun _ => handleBy e env (x :: hs)) _ _ p s
        rw [Sem.wp_bind']
        exact q
    | tryB fin env =>
      refine (note_sound hY hi).mono fun q M => ⟨q, fun h D => ?_⟩
      have z := M h D
      unfold MeanR at z
      simp only [hY.bind, Sem.wp_bind, hY.setFlight, wp_doneT hY, hY.finErr] at z
      exact z
theorem done_sound (hY : Y.Ok) (hi : Hom V R₀ ih) {Γ : Ctx} {p : Pos} {H : Hnd} {κ : KC} {f : Flow} {T : BT} {m i : Nat} {ch : Ch} {ce : List Nat} {la lb : List Ob} :
    Goes V R₀ la lb (∀ h, Rep V h T m ch → Mean V.M R₀ Γ p H κ (.pure (.done f)) (sh V h i)) (doneE Y ih Γ p H κ f T m i ch ce la lb) := by
  obtain ⟨L, B⟩ := H
  cases L with
  | nil => exact finish_sound hi
  | cons l L =>
    cases l with
    | seq rest env =>
      cases f with
      | next =>
        refine (hi ..).mono fun q M => ⟨q, fun h D => ?_⟩
        show wp V.M Γ (execs rest env) _ _ p _
        exact wp_run hY (M h D)
      | brk => exact hi ..
      | cont => exact hi ..
      | ret v => exact hi ..
    | tryA hs o env =>
      cases f with
      | next =>
        refine (hi ..).mono fun q M => ⟨q, fun h D => ?_⟩
        have z := M h D
        unfold Mean MeanR at z
        rw [wp_doneT hY, hY.execs] at z
        exact z
      | brk => exact hi ..
      | cont => exact hi ..
      | ret v => exact hi ..
    | tryB fin env =>
      refine (hi ..).mono fun q M => ⟨q, fun h D => ?_⟩
      have z := M h D
      unfold Mean MeanR at z
      rw [wp_doneT hY, hY.finOk] at z
      exact z
end
end Mine
end
section
open PySem PySem.W PySem.W.X PySem.Calls PyProof.Rows
open Sem (wp)
set_option maxRecDepth 100000
set_option linter.unusedVariables false
set_option linter.unusedSectionVars false
namespace Mine
/-- what a code that is not walked gives -/
def HkOk (V : Cfg) (id : String) (args : Args) (T : BT) (r : HR) : Prop :=
  r.a.length = r.b.length ∧ (r.a = r.b → ∀ h m i ch, Rep V h T m ch → ∃ h', Rep V h' r.T m ch ∧ ∀ A R, R r.r (sh V h' (i + r.di)) → codeAny V.M A (.builtin id args) R (sh V h i))
section
variable {V : Cfg} {Y : Trees} (O : V.Ok) (hY : Y.Ok)
include O in
theorem loc_ne (j : Nat) : (V.loc j == sysModules) = false := by
  have h := O.ne j
  simpa using h
include hY in
theorem dictLook_spec {T : BT} {j : Nat} {key : Value} {r : Option Value} (h : dictLook Y T j key = some r) :
    ∃ o, T.get j = some o ∧ ∀ (d : Addr) (s : Shared) (A : Around) (E : Value → Shared → Prop) (Q : Option Value → Shared → Prop), s.heap.get? d = some o → Q r { s with toks := s.toks + 1 } → wpAny V.M A (dictGet d key) Q E s := by
  unfold dictLook at h
  cases ho : T.get j with
  | none => rw [ho] at h; cases h
  | some o =>
    rw [ho] at h
    refine ⟨o, rfl, fun d s A E Q hs hQ => ?_⟩
    dsimp only at h
    split at h
    · split at h
      · split at h
        · rename_i es ep hd
          split at h
          · rename_i x t
            split at h
            · rename_i ha
              cases h
              exact wpAny_dictGet_str hs hd ha hQ
            · cases h
          · rename_i k t
            split at h
            · rename_i ha
              cases h
              exact wpAny_dictGet_int hs hd ha hQ
            · cases h
          · cases h
        · cases h
      · cases h
    · cases h
theorem hkGet_spec {T : BT} {ce : List Nat} {pos : List Value} {f : Option Value → Option Value} {r : HR} (h : hkGet V Y T ce pos f = some r) :
    ∃ a key j ce' x v, pos = [.ref a, key] ∧ dictLook Y T j key = some x ∧ f x = some v ∧ r = ⟨rtn v, T, 1, ce', [.n a], [.n (V.loc j)]⟩ := by
  unfold hkGet at h
  split at h
  · rename_i a key
    split at h
    · rename_i j ce'
      cases hd : dictLook Y T j key with
      | none => rw [hd] at h; cases h
      | some x =>
        rw [hd] at h
        dsimp only at h
        cases hf : f x with
        | none => rw [hf] at h; cases h
        | some v =>
          rw [hf] at h
          cases h
          exact ⟨a, key, j, ce', x, v, rfl, hd, hf, rfl⟩
    · cases h
  · cases h
include O hY in
theorem hkGet_ok {T : BT} {ce : List Nat} {pos : List Value} {f : Option Value → Option Value} {r : HR} {id : String} (h : hkGet V Y T ce pos f = some r)
    (hk : ∀ (d : Addr) (key : Value) (x : Option Value) (v : Value) (A : Around) (R : Result → Shared → Prop) (s : Shared), f x = some v → (d == sysModules) = false → R (rtn v) { s with toks := s.toks + 1 } →
      (∀ (A : Around) (E : Value → Shared → Prop) (Q : Option Value → Shared → Prop), Q x { s with toks := s.toks + 1 } → wpAny V.M A (dictGet d key) Q E s) → codeAny V.M A (.builtin id ⟨[.ref d, key], []⟩) R s) :
    HkOk V id ⟨pos, []⟩ T r := by
  obtain ⟨a, key, j, ce', x, v, rfl, hd, hf, rfl⟩ := hkGet_spec h
  refine ⟨rfl, fun e h m i ch D => ⟨h, D, fun A R hR => ?_⟩⟩
  obtain ⟨e1, _⟩ := cons_inj e
  have e1 := n_inj e1
  subst e1
  obtain ⟨o, ho, hg⟩ := dictLook_spec (V := V) hY hd
  refine hk _ key x v A R _ hf (loc_ne O j) hR fun A E Q hQ => hg _ _ A E Q (D.own _ _ ho).2 hQ
include hY in
theorem seqAt_spec {T : BT} {j : Nat} {cls : String} {l : List Value} (h : seqAt Y T j cls = some l) : ∃ o vs n, T.get j = some o ∧ o.cls = .type cls ∧ o.data = .seq vs n ∧ vs.toList = l := by
  unfold seqAt at h
  cases ho : T.get j with
  | none => rw [ho] at h; cases h
  | some o =>
    rw [ho] at h
    dsimp only at h
    split at h
    · rename_i c hc
      rw [hY.eqS] at h
      split at h
      · rename_i q
        split at h
        · rename_i vs n hd
          cases h
          exact ⟨o, vs, n, rfl, by rw [hc, of_decide_eq_true q], hd, rfl⟩
        · cases h
      · cases h
    · cases h
include O hY in
theorem hkIn_ok {T : BT} {ce : List Nat} {pos : List Value} {r : HR} (h : hkIn V Y T ce pos = some r) : HkOk V "tuple.__contains__" ⟨pos, []⟩ T r := by
  unfold hkIn at h
  split at h
  · rename_i a x t
    split at h
    · rename_i j ce'
      cases hq : seqAt Y T j "tuple" with
      | none => rw [hq] at h; cases h
      | some vs =>
        rw [hq] at h
        dsimp only at h
        cases hs : strsOf vs with
        | none => rw [hs] at h; cases h
        | some ys =>
          rw [hs] at h
          cases h
          refine ⟨rfl, fun e h m i ch D => ⟨h, D, fun A R hR => ?_⟩⟩
          have e1 := n_inj (cons_inj e).1
          subst e1
          obtain ⟨o, ws, n, ho, hc, hd, hl⟩ := seqAt_spec hY hq
          subst hl
          exact look_tin (D.own _ _ ho).2 hc hd hs hR
    · cases h
  · cases h
include O hY in
theorem hkEq_ok {T : BT} {ce : List Nat} {pos : List Value} {r : HR} (h : hkEq V Y T ce pos = some r) : HkOk V "list.__eq__" ⟨pos, []⟩ T r := by
  unfold hkEq at h
  split at h
  · rename_i a b
    split at h
    · rename_i j j' ce'
      cases hq : seqAt Y T j "list" with
      | none => rw [hq] at h; cases h
      | some vs =>
      cases hq2 : seqAt Y T j' "list" with
      | none => rw [hq, hq2] at h; cases h
      | some ws =>
      cases hs : strsOf vs with
      | none => rw [hq, hq2] at h; dsimp only at h; rw [hs] at h; cases h
      | some xs =>
      cases hs2 : strsOf ws with
      | none => rw [hq, hq2] at h; dsimp only at h; rw [hs, hs2] at h; cases h
      | some ys =>
      cases he : eqSS xs ys with
      | none => rw [hq, hq2] at h; dsimp only at h; rw [hs, hs2] at h; dsimp only at h; rw [he] at h; cases h
      | some b =>
        rw [hq, hq2] at h; dsimp only at h; rw [hs, hs2] at h; dsimp only at h; rw [he] at h
        cases h
        refine ⟨rfl, fun e h m i ch D => ⟨h, D, fun A R hR => ?_⟩⟩
        obtain ⟨e1, e3⟩ := cons_inj e
        have e1 := n_inj e1
        subst e1
        have e2 := n_inj (cons_inj e3).1
        subst e2
        obtain ⟨o, us, n, ho, hc, hd, hl⟩ := seqAt_spec hY hq
        obtain ⟨o2, us2, n2, ho2, hc2, hd2, hl2⟩ := seqAt_spec hY hq2
        subst hl hl2
        exact look_leq (D.own _ _ ho).2 hc hd (D.own _ _ ho2).2 hc2 hd2 hs hs2 he hR
    · cases h
  · cases h
include hY in
theorem emptyAt_spec {T : BT} {j : Nat} (h : emptyAt Y T j = true) : T.get j = some { cls := .type "list", data := .seq #[] } := by
  unfold emptyAt at h
  split at h
  · rename_i c hc
    rw [hY.eqS] at h
    rw [hc, of_decide_eq_true h]
  · cases h
theorem toArray_eq {vs : Array Value} {l : List Value} (h : vs.toList = l) : l.toArray = vs := by rw [← h]
include O hY in
theorem hkExt_ok {T : BT} {ce : List Nat} {pos : List Value} {r : HR} {init : Bool} (h : hkExt V Y T ce pos init = some r) :
    HkOk V (if init then "list.__init__" else "list.__iadd__") ⟨pos, []⟩ T r := by
  unfold hkExt at h
  split at h
  · rename_i a b
    split at h
    · rename_i j j' ce'
      split at h
      · cases h
      rename_i hne
      have hne : j ≠ j' := fun e => by rw [e, Nat.beq_refl] at hne; cases hne
      split at h
      rotate_left
      · cases h
      rename_i hemp
      cases hq : seqAt Y T j "list" with
      | none => rw [hq] at h; cases h
      | some vs =>
      cases hq2 : seqAt Y T j' "list" with
      | none => rw [hq, hq2] at h; cases h
      | some ws =>
      rw [hq, hq2] at h
      dsimp only at h
      split at h
      rotate_left
      · cases h
      rename_i hsz
      have hsz := Nat.le_of_ble_eq_true hsz
      obtain ⟨o, us, n, ho, hc, hd, hl⟩ := seqAt_spec hY hq
      obtain ⟨o2, us2, n2, ho2, hc2, hd2, hl2⟩ := seqAt_spec hY hq2
      have hl3 := toArray_eq hl2
      subst hl hl2
      have hloc : V.loc j' ≠ V.loc j := fun e => hne (O.inj e).symm
      cases init with
      | true =>
        cases h
        refine ⟨rfl, fun e h m i ch D => ?_⟩
        obtain ⟨e1, e3⟩ := cons_inj e
        have e1 := n_inj e1
        subst e1
        have e2 := n_inj (cons_inj e3).1
        subst e2
        have hS := emptyAt_spec hY hemp
        rw [ho] at hS
        cases hS
        have D1 := D.update O (f := Obj.mapSeq fun _ => #[]) ho rfl
        have ho' : (T.set j (Obj.mapSeq fun _ => #[])).get j = some (Obj.mapSeq (fun _ => #[]) { cls := .type "list", data := .seq #[] }) := by
          rw [BT.get_set, if_pos rfl, ho]; rfl
        have D2 := D1.update O (f := Obj.mapSeq (· ++ us2)) ho' rfl
        rw [hl3]
        exact ⟨_, D2, fun A R hR => look_linit hloc (D.own _ _ ho).2 (D.own _ _ ho2).2 hc2 hd2 (by simp at hsz; omega) hR⟩
      | false =>
        cases h
        refine ⟨rfl, fun e h m i ch D => ?_⟩
        obtain ⟨e1, e3⟩ := cons_inj e
        have e1 := n_inj e1
        subst e1
        have e2 := n_inj (cons_inj e3).1
        subst e2
        have hfr : (Obj.mapSeq (· ++ us2) o).isFreed = false := by
          obtain ⟨c, d, dt, sl⟩ := o
          dsimp only at hd
          subst hd
          rfl
        have D1 := D.update O (f := Obj.mapSeq (· ++ us2)) ho hfr
        rw [hl3]
        exact ⟨_, D1, fun A R hR => look_liadd (D.own _ _ ho).2 hd (D.own _ _ ho2).2 hc2 hd2 (by simp at hsz; omega) hR⟩
    · cases h
  · cases h
include O hY in
theorem hookB_ok {x : Nat} {id : String} {args : Args} {T : BT} {ce : List Nat} {r : HR} (h : hookB V Y x id args T ce = some r) : HkOk V id args T r := by
  obtain ⟨pos, kw⟩ := args
  unfold hookB at h
  cases kw with
  | cons a b => cases h
  | nil =>
    dsimp only at h
    split at h
    · rw [hY.eqS] at h
      split at h
      · rename_i q
        rw [of_decide_eq_true q]
        refine hkGet_ok O hY h fun d key x v A R s hf hd hR hg => ?_
        cases hf
        exact look_get hd hR hg
      · cases h
    · rw [hY.eqS] at h
      split at h
      · rename_i q
        rw [of_decide_eq_true q]
        refine hkGet_ok O hY h fun d key x v A R s hf hd hR hg => ?_
        cases hf
        exact look_contains hd hR hg
      · cases h
    · rw [hY.eqS] at h
      split at h
      · rename_i q
        rw [of_decide_eq_true q]
        refine hkGet_ok O hY h fun d key x v A R s hf hd hR hg => ?_
        cases hf
        exact look_item hR hg
      · cases h
    · rw [hY.eqS] at h
      split at h
      · rename_i q
        rw [of_decide_eq_true q]
        exact hkIn_ok O hY h
      · cases h
    · rw [hY.eqS] at h
      split at h
      · rename_i q
        rw [of_decide_eq_true q]
        exact hkEq_ok O hY h
      · cases h
    · rw [hY.eqS] at h
      split at h
      · rename_i q
        rw [of_decide_eq_true q]
        exact hkExt_ok O hY h
      · cases h
    · rw [hY.eqS] at h
      split at h
      · rename_i q
        rw [of_decide_eq_true q]
        exact hkExt_ok O hY h
      · cases h
    · cases h
end
end Mine
end
section
open PySem PySem.W PySem.W.X PySem.Calls PyProof.Rows
open Sem (wp)
set_option maxRecDepth 100000
set_option linter.unusedVariables false
set_option linter.unusedSectionVars false
namespace Mine
theorem plain_mul : plainId "int.__mul__" = true := by decide +kernel
theorem IntMulOk.of_right {a b : Int} (h : Builtin.Int.intBits b ≤ 64) : IntMulOk a b := by
  have h' : ¬ (Builtin.Int.intBits b > shortFactorBits) := Nat.not_lt.mpr h
  unfold IntMulOk; rw [decide_eq_false h']; simp
theorem look_mul {prog : Program} {w : World} {A : Around} {s : Shared} {a b : Int} {t u : Tok} {R : Result → Shared → Prop} (hm : IntMulOk a b) (hR : R (rtn (.int (a * b) s.toks)) { s with toks := s.toks + 1 }) :
    codeAny (model prog w) A (.builtin "int.__mul__" ⟨[.int a t, .int b u], []⟩) R s := by
  refine codeAny_of_in1 plain_mul F.entry_int_mul ?_
  exact AutoIntG1.int___mul___int_int_0 a t b u hm prog w A R s hR
theorem app_inj {a b la lb : List Ob} (hl : a.length = b.length) (h : a ++ la = b ++ lb) : a = b ∧ la = lb := List.append_inj h hl
theorem plain_mod : plainId "int.__mod__" = true := by decide +kernel
theorem plain_div : plainId "int.__floordiv__" = true := by decide +kernel
theorem look_mod {prog : Program} {w : World} {A : Around} {s : Shared} {a b : Nat} {t u : Tok} {R : Result → Shared → Prop} (hb : b ≠ 0) (hR : R (rtn (.int (.ofNat (a % b)) s.toks)) { s with toks := s.toks + 1 }) :
    codeAny (model prog w) A (.builtin "int.__mod__" ⟨[.int (.ofNat a) t, .int (.ofNat b) u], []⟩) R s := by
  refine codeAny_of_in1 plain_mod F.entry_int_mod ?_
  have e : Int.fmod (.ofNat a) (.ofNat b) = .ofNat (a % b) := by
    show Int.fmod (a : Int) (b : Int) = ((a % b : Nat) : Int)
    rw [Int.fmod_eq_emod_of_nonneg _ (Int.natCast_nonneg b)]
    rfl
  refine AutoIntG6.int___mod___int_int_1 (.ofNat a) t (.ofNat b) u ?_ prog w A R s ?_
  · simp; omega
  · rw [e]; exact hR
theorem look_div {prog : Program} {w : World} {A : Around} {s : Shared} {a b : Nat} {t u : Tok} {R : Result → Shared → Prop} (hb : b ≠ 0) (hp : Builtin.divisionGoesByPylong (.ofNat a) (.ofNat b) = false) (hR : R (rtn (.int (.ofNat (a / b)) s.toks)) { s with toks := s.toks + 1 }) :
    codeAny (model prog w) A (.builtin "int.__floordiv__" ⟨[.int (.ofNat a) t, .int (.ofNat b) u], []⟩) R s := by
  refine codeAny_of_in1 plain_div F.entry_int_floordiv ?_
  have e : Int.fdiv (.ofNat a) (.ofNat b) = .ofNat (a / b) := by
    show Int.fdiv (a : Int) (b : Int) = ((a / b : Nat) : Int)
    rw [Int.fdiv_eq_ediv_of_nonneg _ (Int.natCast_nonneg b)]
    rfl
  refine AutoIntG4.int___floordiv___int_int_1 (.ofNat a) t (.ofNat b) u ?_ ?_ prog w A R s ?_
  · simp; omega
  · rw [hp]; simp
  · rw [e]; exact hR
theorem l_inj {a b : List Value} (h : Ob.l a = Ob.l b) : a = b := by cases h; rfl
theorem Rep.congr {V : Cfg} {h : Heap} {T T' : BT} {m : Nat} {ch : Ch} (D : Rep V h T m ch) (k : ∀ i o, T'.get i = some o → T.get i = some o) : Rep V h T' m ch :=
  ⟨D.size, fun i o e => D.own i o (k i o e), D.keep, D.ch⟩
theorem plain_pop : plainId "list.pop" = true := by decide +kernel
theorem pop_obj (x : Value) (rest : List Value) (n : Nat) : Obj.mapSeq (fun xs => xs.eraseIdxIfInBounds 0) { cls := .type "list", data := .seq ⟨x :: rest⟩ n } = { cls := .type "list", data := .seq ⟨rest⟩ (n + 1) } := by
  have e : (⟨x :: rest⟩ : Array Value).eraseIdxIfInBounds 0 = ⟨rest⟩ := by
    apply Array.ext'
    simp [Array.eraseIdxIfInBounds]
  unfold Obj.mapSeq
  dsimp only
  rw [e]
  have q : ((⟨rest⟩ : Array Value).size == (⟨x :: rest⟩ : Array Value).size) = false := by
    simp
  rw [q]
  rfl
theorem look_pop {prog : Program} {w : World} {A : Around} {s : Shared} {l : Addr} {x : Value} {rest : List Value} {n : Nat} {u : Tok} {R : Result → Shared → Prop} (hz : rest.length ≤ 63)
    (ho : s.heap.get? l = some { cls := .type "list", data := .seq ⟨x :: rest⟩ n }) (hR : R (rtn x) { s with heap := s.heap.update l (Obj.mapSeq fun xs => xs.eraseIdxIfInBounds 0) }) :
    codeAny (model prog w) A (.builtin "list.pop" ⟨[.ref l, .int 0 u], []⟩) R s := by
  refine codeAny_of_in1 plain_pop F.entry_list_pop ?_
  refine PySem.MeetsSeq.list_pop_at l ⟨x :: rest⟩ n 0 u 0 x (by decide) (seqIndex_of (by decide) ?_) rfl ?_ prog w A R s ⟨ho, hR⟩
  · simp
  · unfold sizeLine; simp; omega
section
variable {V : Cfg} {Y : Trees} {R₀ : Result → Shared → Prop} {ih : SimE} (O : V.Ok) (hY : Y.Ok) (hi : Hom V R₀ ih)
include O hY hi
theorem pop_sound {Γ : Ctx} {p : Pos} {κ : KC} {id : String} {args : Args} {T : BT} {m i : Nat} {ch : Ch} {ce : List Nat} {la lb : List Ob} (hΓ : Γ.code = .builtin id args) :
    Goes V R₀ la lb (∀ h, Rep V h T m ch → wpCode V.M Γ (post V.M R₀ κ) p (sh V h i)) (hookP V Y ih κ id args T m i ch ce la lb) := by
  unfold hookP
  rw [hY.eqS]
  cases hq : decide (id = "list.pop") with
  | false => exact trivial
  | true =>
    have hq := of_decide_eq_true hq
    subst hq
    dsimp only
    split
    · rename_i a z u
      cases hz : decide (z = 0) with
      | false => exact trivial
      | true =>
        have hz := of_decide_eq_true hz
        subst hz
        dsimp only
        cases ce with
        | nil => exact trivial
        | cons j ce =>
          dsimp only
          split
          · rename_i c x rest n ho
            rw [hY.eqS]
            cases hc : decide (c = "list") with
            | false => exact trivial
            | true =>
              have hc := of_decide_eq_true hc
              subst hc
              dsimp only
              refine (finish_sound hi).mono fun q M => ?_
              obtain ⟨q1, q2⟩ := cons_inj q
              obtain ⟨q3, q4⟩ := cons_inj q2
              refine ⟨q4, fun h D => ?_⟩
              have e1 := n_inj q1
              have e2 := l_inj q3
              have hl : rest.length ≤ 63 := by rw [e2]; simp; omega
              have ho' : h.get? a = some { cls := .type "list", data := .seq ⟨x :: rest⟩ n } := by rw [e1]; exact (D.own _ _ ho).2
              have D1 := D.update O (f := Obj.mapSeq fun xs => xs.eraseIdxIfInBounds 0) ho rfl
              have D2 : Rep V _ (T.set j fun _ => { cls := .type "list", data := .seq ⟨rest⟩ (n + 1) }) m ch := D1.congr fun i o e => by
                rw [BT.get_set] at e ⊢
                split at e
                · rename_i q
                  rw [if_pos q, ho]
                  rw [ho] at e
                  have e : (some _ : Option Obj) = some o := e
                  rw [← e]
                  exact congrArg some (pop_obj x rest n)
                · rename_i q
                  rw [if_neg q]
                  exact e
              refine look_pop (A := belowOf Γ) hl ho' ?_ Γ p hΓ (below_around Γ)
              have z := M _ D2
              rw [e1]
              exact z
          · exact trivial
    · exact trivial
omit O in
theorem div_sound {Γ : Ctx} {p : Pos} {κ : KC} {id : String} {args : Args} {T : BT} {m i : Nat} {ch : Ch} {ce : List Nat} {la lb : List Ob} (q : Bool) (hΓ : Γ.code = .builtin id args) :
    Goes V R₀ la lb (∀ h, Rep V h T m ch → wpCode V.M Γ (post V.M R₀ κ) p (sh V h i)) (hookD V Y ih κ q id args T m i ch ce la lb) := by
  unfold hookD
  rw [hY.eqS]
  split
  · rename_i hq
    have hq := of_decide_eq_true hq
    split
    · rename_i x t y u
      split
      · rename_i a
        split
        · rename_i b
          split
          · exact trivial
          · rename_i hb
            have hb : b ≠ 0 := fun e => by rw [e] at hb; cases hb
            cases q with
            | true =>
              dsimp only at hq ⊢
              subst hq
              split
              · exact trivial
              · rename_i hp
                refine (finish_sound hi).mono fun q M => ⟨q, fun h D => ?_⟩
                exact look_div (A := belowOf Γ) hb hp (M h D) Γ p hΓ (below_around Γ)
            | false =>
              dsimp only at hq ⊢
              subst hq
              refine (finish_sound hi).mono fun q M => ⟨q, fun h D => ?_⟩
              exact look_mod (A := belowOf Γ) hb (M h D) Γ p hΓ (below_around Γ)
        · exact trivial
      · exact trivial
    · exact trivial
  · exact trivial
theorem hook_sound {Γ : Ctx} {p : Pos} {κ : KC} {x : Nat} {c : Code} {T : BT} {m i : Nat} {ch : Ch} {ce : List Nat} {la lb : List Ob} (hΓ : Γ.code = c) :
    Goes V R₀ la lb (∀ h, Rep V h T m ch → wpCode V.M Γ (post V.M R₀ κ) p (sh V h i)) (hookE V Y ih Γ p κ x c T m i ch ce la lb) := by
  unfold hookE
  cases c with
  | builtin id args =>
    dsimp only
    cases hx : Nat.beq x 9 with
    | true =>
      dsimp only
      unfold hookM
      rw [hY.eqS]
      cases hq : decide (id = "int.__mul__") with
      | false => exact trivial
      | true =>
        have hq := of_decide_eq_true hq
        subst hq
        dsimp only
        split
        · rename_i a t b u
          cases hz : Nat.ble (Builtin.Int.intBits b) 64 with
          | false => exact trivial
          | true =>
            dsimp only
            refine (finish_sound hi).mono fun q M => ⟨q, fun h D => ?_⟩
            exact look_mul (IntMulOk.of_right (Nat.le_of_ble_eq_true hz)) (A := belowOf Γ) (M h D) Γ p hΓ (below_around Γ)
        · exact trivial
    | false =>
    dsimp only
    cases hx : Nat.beq x 10 with
    | true => exact pop_sound O hY hi hΓ
    | false =>
    dsimp only
    cases hx : Nat.beq x 11 with
    | true => exact div_sound hY hi false hΓ
    | false =>
    dsimp only
    cases hx : Nat.beq x 12 with
    | true => exact div_sound hY hi true hΓ
    | false =>
    dsimp only
    cases hb : hookB V Y x id args T ce with
    | none => exact trivial
    | some r =>
      dsimp only
      obtain ⟨hl, hk⟩ := hookB_ok O hY hb
      refine (finish_sound hi).mono fun q M => ?_
      obtain ⟨q1, q2⟩ := app_inj hl q
      refine ⟨q2, fun h D => ?_⟩
      obtain ⟨h', D', hc⟩ := hk q1 h m i ch D
      exact hc (belowOf Γ) _ (M h' D') Γ p hΓ (below_around Γ)
  | compStart e d it acc env =>
    dsimp only
    unfold hookC
    cases it with
    | ref a =>
      dsimp only
      cases hp : plainComp e d with
      | false => exact trivial
      | true =>
        dsimp only
        cases ce with
        | nil => exact trivial
        | cons j ce =>
          dsimp only
          cases hI : isIter Y T j with
          | false => exact trivial
          | true =>
            dsimp only
            refine (hi ..).mono fun q M => ?_
            obtain ⟨q1, q2⟩ := cons_inj q
            refine ⟨q2, fun h D => ?_⟩
            obtain ⟨o, ho, hc⟩ := isIter_spec hY hI
            have e1 := n_inj q1
            exact compStart_sound hY hΓ hp (by rw [e1]; exact (D.own _ _ ho).2) hc (M h D)
    | _ => exact trivial
  | _ => exact trivial
theorem enter_sound {Γ : Ctx} {p : Pos} {κ : KC} {c : Code} {T : BT} {m i : Nat} {ch : Ch} {ce : List Nat} {la lb : List Ob} (hΓ : Γ.code = c) :
    Goes V R₀ la lb (∀ h, Rep V h T m ch → wpCode V.M Γ (post V.M R₀ κ) p (sh V h i)) (enterE V Y ih Γ p κ c T m i ch ce la lb) := by
  unfold enterE
  cases ce with
  | nil => exact trivial
  | cons x ce =>
    cases x with
    | zero => exact (hi ..).mono fun q M => ⟨q, fun h D => enter_mean hY hΓ (M h D)⟩
    | succ x => exact hook_sound O hY hi hΓ
omit O hi in
theorem ask_eq (P : Params) (b : Bool) (hb : P.followText rowName = b) : parOf Y.eqS P b = P := by
  have e : ∀ f : String → Bool, f = P.followText → ({ P with followText := f } : Params) = P := by
    intro f hf
    subst hf
    rfl
  refine e _ ?_
  funext r
  rw [hY.eqS]
  by_cases q : r = rowName
  · rw [decide_eq_true q, q, hb]
  · rw [decide_eq_false q]
omit O hY hi in
theorem obs_inj {j : Nat} {a : Addr} {la lb : List Ob} (h : obA V j a la = obB V j lb) : la = lb ∧ ∀ i, j = i + 1 → a = V.loc i := by
  cases j with
  | zero => exact ⟨h, fun _ e => nomatch e⟩
  | succ j =>
    obtain ⟨h1, h2⟩ := cons_inj h
    exact ⟨h2, fun i e => by cases e; exact n_inj h1⟩
theorem step_sound : Hom V R₀ (stepE V Y ih) := by
  intro Γ p H κ t T m i ch ce la lb
  cases t with
  | pure fin =>
    cases fin with
    | done f => exact done_sound hY hi
    | again c =>
      show Goes V R₀ la lb _ ((match H.L with
        | [] => match c.quiet with
          | true => enterE V Y ih (Γ.goto c) p κ c
          | false => bad 5
        | _ :: _ => bad 11) T m i ch ce la lb)
      obtain ⟨L, B⟩ := H
      cases L with
      | cons l L => exact trivial
      | nil =>
        dsimp only
        cases hq : c.quiet with
        | false => exact trivial
        | true => exact (enter_sound O hY hi rfl).mono fun q M => ⟨q, fun h D => ⟨hq, M h D⟩⟩
  | raise e => exact raise_sound hY hi
  | rule x k => exact hi ..
  | «at» q k => exact hi ..
  | point x k => exact hi ..
  | ask k =>
    refine (hi ..).mono fun q M => ?_
    obtain ⟨q1, q2⟩ := cons_inj q
    refine ⟨q2, fun h D => ?_⟩
    have e1 := t_inj q1
    have z := M h D
    have : k ⟨V.prog, parOf Y.eqS V.w.params true⟩ = k ⟨V.prog, V.w.params⟩ := by
      cases hb : V.w.params.followText rowName with
      | true => rw [ask_eq hY _ _ hb]
      | false => rw [e1, ask_eq hY _ _ hb]
    rw [this] at z
    exact z
  | load a x k =>
    show Goes V R₀ la lb _ (match ce with
      | j :: ce => match lookE V T ch j a with
        | some o => ih Γ p H κ (k o) T m i ch ce (obA V j a la) (obB V j lb)
        | none => .bad 1
      | [] => .bad 50)
    cases ce with
    | nil => exact trivial
    | cons j ce =>
      dsimp only
      cases hl : lookE V T ch j a with
      | none => exact trivial
      | some o =>
        refine (hi ..).mono fun q M => ?_
        obtain ⟨q1, q2⟩ := obs_inj q
        refine ⟨q1, fun h D => ?_⟩
        exact ⟨o, D.lookE O hl q2, M h D⟩
  | loadIfAlive a k =>
    show Goes V R₀ la lb _ (match ce with
      | j :: ce => match lookE V T ch j a with
        | some o => ih Γ p H κ (k (some o)) T m i ch ce (obA V j a la) (obB V j lb)
        | none => .bad 1
      | [] => .bad 50)
    cases ce with
    | nil => exact trivial
    | cons j ce =>
      dsimp only
      cases hl : lookE V T ch j a with
      | none => exact trivial
      | some o =>
        refine (hi ..).mono fun q M => ?_
        obtain ⟨q1, q2⟩ := obs_inj q
        refine ⟨q1, fun h D => ?_⟩
        show wp V.M Γ (.loadIfAlive a k) _ _ p _
        rw [Sem.wp_loadIfAlive]
        have e : (sh V h i).heap.get? a = some o := D.lookE O hl q2
        rw [e]
        exact M h D
  | alloc o k =>
    show Goes V R₀ la lb _ (match o.isFreed with
      | true => .bad 2
      | false => match Nat.ble V.m₀ m with
        | true => match (T.ins m o).get m with
          | some _ => ih Γ p H κ (k (V.loc m)) (T.ins m o) (m + 1) i ch ce la lb
          | none => .bad 3
        | false => .bad 4)
    cases hf : o.isFreed with
    | true => exact trivial
    | false =>
      dsimp only
      cases hm : Nat.ble V.m₀ m with
      | false => exact trivial
      | true =>
        dsimp only
        cases hg : (T.ins m o).get m with
        | none => exact trivial
        | some o' =>
          refine (hi ..).mono fun q M => ⟨q, fun h D => ?_⟩
          have D' := D.alloc O hf (Nat.le_of_ble_eq_true hm) (by rw [hg]; rfl)
          have z := M _ D'
          show wp V.M Γ (.alloc o k) _ _ p _
          rw [Sem.wp_alloc]
          show wp V.M Γ (k h.objs.size) _ _ p _
          rw [D.size]
          exact z
  | update a x f k =>
    show Goes V R₀ la lb _ (match ce with
      | j :: ce => match j with
        | j + 1 => match T.get j with
          | some o => match (f o).isFreed with
            | true => .bad 6
            | false => ih Γ p H κ (k ()) (T.set j f) m i ch ce (.n a :: la) (.n (V.loc j) :: lb)
          | none => .bad 7
        | 0 => match nowTabE V ch a with
          | some vs => match tabOf (f (tableObj vs)) with
            | some vs' => match strip vs.toList vs'.toList with
              | some _ => ih Γ p H κ (k ()) T m i (chPut ch a vs') ce la lb
              | none => .bad 8
            | none => .bad 9
          | none => .bad 10
      | [] => .bad 51)
    cases ce with
    | nil => exact trivial
    | cons j ce =>
      cases j with
      | succ j =>
        dsimp only
        cases ho : T.get j with
        | none => exact trivial
        | some o =>
          dsimp only
          cases hf : (f o).isFreed with
          | true => exact trivial
          | false =>
            refine (hi ..).mono fun q M => ?_
            obtain ⟨q1, q2⟩ := cons_inj q
            refine ⟨q2, fun h D => ?_⟩
            have e1 := n_inj q1
            subst e1
            refine ⟨?_, M _ (D.update O ho hf)⟩
            have : (sh V h i).heap.get? (V.loc j) = some o := (D.own _ _ ho).2
            rw [this]; rfl
      | zero =>
        dsimp only
        cases h1 : nowTabE V ch a with
        | none => exact trivial
        | some vs =>
          dsimp only
          cases h2 : tabOf (f (tableObj vs)) with
          | none => exact trivial
          | some vs' =>
            dsimp only
            cases h3 : strip vs.toList vs'.toList with
            | none => exact trivial
            | some more =>
              refine (hi ..).mono fun q M => ⟨q, fun h D => ?_⟩
              obtain ⟨y1, y2⟩ := D.table O h1 (tabOf_eq h2) h3
              refine ⟨?_, M _ y2⟩
              have : (sh V h i).heap.get? a = _ := y1
              rw [this]; rfl
  | fresh k =>
    refine (hi ..).mono fun q M => ⟨q, fun h D => ?_⟩
    exact M h D
  | handled own k =>
    refine (hi ..).mono fun q M => ⟨q, fun h D => ?_⟩
    have z := M h D
    show wp V.M Γ (.handled own k) _ _ p _
    rw [Sem.wp_handled]
    cases own <;> exact z
  | stack k => exact hi ..
  | call c hd x y k =>
    exact (enter_sound O hY hi rfl).mono fun q M => ⟨q, fun h D => M h D⟩
  | _ => exact trivial
end
theorem sim_sound {V : Cfg} {Y : Trees} {R₀ : Result → Shared → Prop} (O : V.Ok) (hY : Y.Ok) : ∀ n, Hom V R₀ (simE V Y n)
  | 0 => fun Γ p H κ t T m i ch ce la lb => fun e q => ⟨e, q⟩
  | n + 1 => step_sound O hY (sim_sound O hY n)
end Mine
end
section
open PySem PySem.W PySem.W.X PySem.Calls PyProof.Rows
open Sem (wp)
set_option maxRecDepth 100000
set_option linter.unusedVariables false
set_option linter.unusedSectionVars false
namespace Mine
def Sat (V : Cfg) (R₀ : Result → Shared → Prop) : Out → Prop
  | .more Γ p H κ t T m i ch _ la lb => la = lb ∧ ∀ h, Rep V h T m ch → Mean V.M R₀ Γ p H κ t (sh V h i)
  | .done r T m i ch _ la lb => la = lb ∧ ∀ h, Rep V h T m ch → R₀ r (sh V h i)
  | .bad _ => False
theorem Sat.goes {V : Cfg} {R₀ : Result → Shared → Prop} {la lb : List Ob} {X : Prop} {o : Out} (h : Goes V R₀ la lb X o) (q : Sat V R₀ o) : la = lb ∧ X := by
  cases o with
  | more Γ p H κ t T m i ch ce la₂ lb₂ => exact h q.1 q.2
  | done r T m i ch ce la₂ lb₂ => exact h q.1 q.2
  | bad n => exact q.elim
theorem loop_sound {V : Cfg} {Y : Trees} {R₀ : Result → Shared → Prop} (O : V.Ok) (hY : Y.Ok) (seg : Nat) : ∀ (n : Nat) (o : Out) (A B : List (List Ob)),
    (loopE V Y seg n o A B).la = (loopE V Y seg n o A B).lb → Sat V R₀ (loopE V Y seg n o A B).out → A = B ∧ Sat V R₀ o
  | 0, o, A, B, e, q => ⟨e, q⟩
  | n + 1, o, A, B, e, q => by
    cases o with
    | more Γ p H κ t T m i ch ce la lb =>
      obtain ⟨e1, q1⟩ := loop_sound O hY seg n (simE V Y seg Γ p H κ t T m i ch ce [] []) (la :: A) (lb :: B) e q
      obtain ⟨_, q2⟩ := Sat.goes (sim_sound O hY seg Γ p H κ t T m i ch ce [] []) q1
      cases e1
      exact ⟨rfl, rfl, q2⟩
    | done r T m i ch ce la lb =>
      have e : la :: A = lb :: B := e
      cases e
      exact ⟨rfl, rfl, q.2⟩
    | bad k => exact q.elim
end Mine
end
section
open PySem PySem.W PySem.W.X PySem.Calls PyProof.Rows PySem.Spec
open Sem (wp)
set_option maxRecDepth 100000
set_option linter.unusedVariables false
set_option linter.unusedSectionVars false
namespace Mine
/-- where the claim's call is made -/
abbrev ΓC : PySem.Ctx := ⟨.builtin "claim.caller" {}, none, none, [], none⟩
/-- the thread that makes the call ends, told at that one place -/
theorem ends_at {prog : Program} {w : World} {t : Sem Fin} {s : Shared} {R : Result → Shared → Prop} (hz : s.asleep)
    (h : wp (model prog w) ΓC t (fun fin _ s' => ∃ f, fin = .done f ∧ R (.ok f) s' ∧ AllBare s'.gens) (fun e _ s' => R (.error e) s' ∧ AllBare s'.gens) default s) :
    ∃ n r s' s'', runN (denote table) prog w n s ⟨t, .builtin "claim.caller" {}, default, []⟩ = .halted (outcomeOf r) s' ∧
      schedN (denote table) prog w n (.single s ⟨t, .builtin "claim.caller" {}, default, []⟩) = .halted (outcomeOf r) s' ∧ s'.forget = s''.forget ∧ R r s'' := by
  have h2 : wp (model prog w) ΓC t (Sem.finPost (model prog w) ΓC fun r s' => R r s' ∧ leftWithCleanup s'.gens = false) (fun e _ s' => R (.error e) s' ∧ leftWithCleanup s'.gens = false) default s := by
    refine Sem.wp_mono _ _ _ (fun fin p s' q => ?_) (fun e p s' q => ⟨q.1, leftWithCleanup_false_of_bare q.2⟩) _ _ h
    obtain ⟨f, rfl, q1, q2⟩ := q
    exact ⟨q1, leftWithCleanup_false_of_bare q2⟩
  obtain ⟨n, r, s₁, s₂, a, b, c, d⟩ := wp_halts_full (M := model prog w) hz h2
  exact ⟨n, r, s₂, s₁, b, a, c, d⟩
theorem from_at {c : ClaimW} {tree : List Value → Sem Fin} {w : World} {s : Shared} {free : Addr → Prop} {gens : Prop} {kept : Heap → Prop} (hz : s.asleep) (hgens : s.gens = #[])
    (hspec : ∀ args, c.pre args = true → WData.layableAll args = true → ∀ ord : List DictEntry → List DictEntry, (∀ l, (ord l).Perm l) →
      ∃ vs s₁, layAllW c.records (classAt s.heap) w.params ord args s = some (vs, s₁) ∧
        wp (model c.prog w) ΓC (tree vs) (fun fin _ s' => ∃ f, fin = .done f ∧ (c.Ends s args vs s₁ (.ok f) s' ∧ s'.os = s.os ∧ kept s'.heap) ∧ AllBare s'.gens)
          (fun e _ s' => (c.Ends s args vs s₁ (.error e) s' ∧ s'.os = s.os ∧ kept s'.heap) ∧ AllBare s'.gens) default s₁) :
    c.CallFrom (fun vs => ⟨tree vs, .builtin "claim.caller" {}, default, []⟩) w free gens kept s := by
  intro args hpre hlay ord hord
  obtain ⟨vs, s₁, laid, h⟩ := hspec args hpre hlay ord hord
  have rest := layAllW_rest _ _ _ laid
  obtain ⟨n, r, s', s'', ran, sched, same, fin, os, kp⟩ := ends_at (R := fun r s' => c.Ends s args vs s₁ r s' ∧ s'.os = s.os ∧ kept s'.heap) (Shared.asleep_of_life rest.2.2.2 hz) h
  obtain ⟨eh, _, _, eo, _⟩ := Shared.forget_eq same
  have fin := ClaimW.Ends.congr eh fin
  rw [← eh] at kp
  rw [← eo] at os
  have life : s'.heap.life = s.heap.life := (runN_life _ _ _ ran).trans rest.2.2.2
  refine ⟨vs, s₁, laid, n, _, s', sched, ?_, (fun _ i x hx => by rw [hgens] at hx; simp at hx), kp, by rw [life], Shared.rest_eq os⟩
  rcases fin with ⟨v, rfl, d1, d2, d3, d4, d5⟩ | ⟨e, ob, cls, rfl, d1, d2, d3, d4, d5⟩
  · exact .inl ⟨v, rfl, d1, d2, d3, fun b o y _ => d4 b o y, d5⟩
  · exact .inr ⟨e, ob, cls, rfl, d1, d2, d3, d4, fun b o y _ => d5 b o y⟩
end Mine
end
section
open PySem PySem.W PySem.W.X PySem.Calls
open PySem.W.Fast
set_option maxRecDepth 100000
namespace Mine
/-- the trees that the kernel is quick with -/
noncomputable def Y1 : Trees where
  bind := @R.bindR
  eqS := fun a b => @decide (a = b) (S.strDecS a b)
  code := PySem.W.Fast.tw11892475500146522536 PySem.W.Fast.tw14364793385576792824
  execs := PySem.W.Fast.tw12563942051412417395
  handleWith := PySem.W.Fast.tw11471732733879165300
  whileTurn := PySem.W.Fast.tw12362719219628433562
  forTurn := PySem.W.Fast.tw15207555903498437823
  compTurn := PySem.W.Fast.tw1180062409338748621
  setFlight := PySem.W.Fast.tw5670386056902412789
  lotGoes := PySem.W.Fast.tw1623429502029203251
  handleBy := PySem.W.Fast.tw14206642085496868694
  finOk := fun fin env f => R.bindR (PySem.W.Fast.tw9046067596548197636 (.block fin env) env none) fun g => match g with
    | .next => .pure f
    | f' => .rule "try.finally-overrides-flow" fun _ => .pure f'
  finErr := fun fin env e => R.bindR (PySem.W.Fast.tw9046067596548197636 (.block fin env) env (some e)) fun g => match g with
    | .next => @PySem.W.Fast.tw4601389910855378106 Flow "try.finally" e env
    | f' => .rule "try.finally-swallows-exception" fun _ => R.bindR (PySem.W.Fast.tw5670386056902412789 e none) fun _ => .pure f'
  cell := fun i f hn acts => Z.cellQ i (Z.placeOf f hn acts)
theorem Y1_ok : Y1.Ok where
  bind := fun α β m f => by show R.bindR m f = _; rw [← R.bindR_eq]
  eqS := fun a b => by
    show @decide (a = b) (S.strDecS a b) = _
    congr
  code := by
    show PySem.W.Fast.tw11892475500146522536 PySem.W.Fast.tw14364793385576792824 = _
    rw [← te11892475500146522536, ← te14364793385576792824, table_eq_tree]
  execs := te12563942051412417395.symm
  handleWith := te11471732733879165300.symm
  whileTurn := te12362719219628433562.symm
  forTurn := te15207555903498437823.symm
  compTurn := te1180062409338748621.symm
  setFlight := te5670386056902412789.symm
  lotGoes := te1623429502029203251.symm
  handleBy := te14206642085496868694.symm
  finOk := fun fin env f => by
    show R.bindR (PySem.W.Fast.tw9046067596548197636 (.block fin env) env none) _ = _
    rw [← R.bindR_eq, ← te9046067596548197636]
    show Sem.bind _ _ = Sem.bind _ _
    congr 1
  finErr := fun fin env e => by
    show R.bindR (PySem.W.Fast.tw9046067596548197636 (.block fin env) env (some e)) _ = _
    rw [← R.bindR_eq, ← te9046067596548197636, ← te4601389910855378106, ← te5670386056902412789]
    show Sem.bind _ _ = Sem.bind _ _
    congr 1
  cell := fun i f hn acts => rfl
end Mine
end
section
open PySem PySem.W PySem.W.X
set_option maxRecDepth 100000
set_option linter.unusedVariables false
namespace Mine
noncomputable def getK (t : KT) : Nat → Option Obj := @KT.rec (fun _ => Nat → Option Obj) (fun _ => none)
  (fun v _ _ hl hr i => @Bool.rec (fun _ => Option Obj) (@Bool.rec (fun _ => Option Obj) (hr (Nat.sub (Nat.div i 2) 1)) (hl (Nat.div i 2)) (Nat.beq (Nat.mod i 2) 1)) v (Nat.beq i 0)) t
noncomputable def getB (t : BT) : Nat → Option Obj := @BT.rec (fun _ => Nat → Option Obj) (fun _ => none)
  (fun v _ _ hl hr i => @Bool.rec (fun _ => Option Obj) (@Bool.rec (fun _ => Option Obj) (hr (Nat.sub (Nat.div i 2) 1)) (hl (Nat.div i 2)) (Nat.beq (Nat.mod i 2) 1)) (some v) (Nat.beq i 0)) t
/-- put a new object in, then go on with the tree -/
noncomputable def insB (o : Obj) (C : Type) (b : C) (t : BT) : Nat → (BT → C) → C := @BT.rec (fun _ => Nat → (BT → C) → C)
  (fun i k => @Bool.rec (fun _ => C) b (k (.node o .nil .nil)) (Nat.beq i 0))
  (fun v l r hl hr i k => @Bool.rec (fun _ => C) (@Bool.rec (fun _ => C) (hr (Nat.sub (Nat.div i 2) 1) fun r => k (.node v l r)) (hl (Nat.div i 2) fun l => k (.node v l r)) (Nat.beq (Nat.mod i 2) 1)) (k (.node o l r)) (Nat.beq i 0)) t
/-- change an object, then go on with the tree -/
noncomputable def updB (f : Obj → Obj) (C : Type) (b6 b7 : C) (t : BT) : Nat → (BT → C) → C := @BT.rec (fun _ => Nat → (BT → C) → C)
  (fun _ _ => b7)
  (fun v l r hl hr i k => @Bool.rec (fun _ => C) (@Bool.rec (fun _ => C) (hr (Nat.sub (Nat.div i 2) 1) fun r => k (.node v l r)) (hl (Nat.div i 2) fun l => k (.node v l r)) (Nat.beq (Nat.mod i 2) 1)) (@Bool.rec (fun _ => C) (k (.node (f v) l r)) b6 (f v).isFreed) (Nat.beq i 0)) t
noncomputable def chLookR (ch : Ch) : Addr → Option (Array Value) := @List.rec (Nat × Array Value) (fun _ => Addr → Option (Array Value)) (fun _ => none)
  (fun p _ h a => @Bool.rec (fun _ => Option (Array Value)) (h a) (some p.2) (Nat.beq p.1 a)) ch
abbrev Hd := Ctx → Pos → Hnd → KC → Rest
noncomputable def fLoad0 (V : Cfg) (ih : Sem Fin → Rest) (a : Addr) (k : Obj → Sem Fin) : Rest := fun T m i ch ce la lb =>
  @Option.rec (Array Value) (fun _ => Out) (@Option.rec Obj (fun _ => Out) (.bad 1) (fun o => ih (k o) T m i ch ce la lb) (getK V.kt a)) (fun vs => ih (k (tableObj vs)) T m i ch ce la lb) (chLookR ch a)
noncomputable def fLoad1 (V : Cfg) (ih : Sem Fin → Rest) (a : Addr) (k : Obj → Sem Fin) (j : Nat) : Rest := fun T m i ch ce la lb =>
  @Option.rec Obj (fun _ => Out) (.bad 1) (fun o => ih (k o) T m i ch ce (.n a :: la) (.n (V.loc j) :: lb)) (getB T j)
noncomputable def hLoad (V : Cfg) (ih : Sem Fin → Rest) (a : Addr) (_ : Option Value) (k : Obj → Sem Fin) (_ : Obj → Rest) : Rest := fun T m i ch ce la lb =>
  @List.rec Nat (fun _ => Out) (.bad 50) (fun j ce _ => @Nat.rec (fun _ => Out) (fLoad0 V ih a k T m i ch ce la lb) (fun j _ => fLoad1 V ih a k j T m i ch ce la lb) j) ce
noncomputable def hLoadA (V : Cfg) (ih : Sem Fin → Rest) (a : Addr) (k : Option Obj → Sem Fin) (_ : Option Obj → Rest) : Rest := fun T m i ch ce la lb =>
  @List.rec Nat (fun _ => Out) (.bad 50) (fun j ce _ => @Nat.rec (fun _ => Out) (fLoad0 V ih a (fun o => k (some o)) T m i ch ce la lb) (fun j _ => fLoad1 V ih a (fun o => k (some o)) j T m i ch ce la lb) j) ce
noncomputable def hAlloc (V : Cfg) (ih : Sem Fin → Rest) (o : Obj) (k : Addr → Sem Fin) (_ : Addr → Rest) : Rest := fun T m i ch ce la lb =>
  @Bool.rec (fun _ => Out) (@Bool.rec (fun _ => Out) (.bad 4) (insB o Out (.bad 3) T m fun T => ih (k (V.loc m)) T (Nat.succ m) i ch ce la lb) (Nat.ble V.m₀ m)) (.bad 2) o.isFreed
noncomputable def fUpd0 (V : Cfg) (ih : Sem Fin → Rest) (a : Addr) (f : Obj → Obj) (k : Unit → Sem Fin) : Rest := fun T m i ch ce la lb => match nowTabE V ch a with
          | some vs => match tabOf (f (tableObj vs)) with
            | some vs' => match strip vs.toList vs'.toList with
              | some _ => ih (k ()) T m i (chPut ch a vs') ce la lb
              | none => .bad 8
            | none => .bad 9
          | none => .bad 10
noncomputable def hUpd (V : Cfg) (ih : Sem Fin → Rest) (a : Addr) (_ : Option Value) (f : Obj → Obj) (k : Unit → Sem Fin) (_ : Unit → Rest) : Rest := fun T m i ch ce la lb =>
  @List.rec Nat (fun _ => Out) (.bad 51) (fun j ce _ => @Nat.rec (fun _ => Out) (fUpd0 V ih a f k T m i ch ce la lb) (fun j _ => updB f Out (.bad 6) (.bad 7) T j fun T => ih (k ()) T m i ch ce (.n a :: la) (.n (V.loc j) :: lb)) j) ce
noncomputable def enterF (V : Cfg) (Y : Trees) (ih : SimE) (Γ : Ctx) (p : Pos) (κ : KC) (c : Code) : Rest := fun T m i ch ce la lb =>
  @List.rec Nat (fun _ => Out) (.bad 80) (fun x ce _ => @Nat.rec (fun _ => Out) (ih Γ p (hndOf c) κ (inner Y c) T m i ch ce la lb) (fun x' _ => hookE V Y ih Γ p κ (Nat.succ x') c T m i ch ce la lb) x) ce
noncomputable def fAgain (V : Cfg) (Y : Trees) (ih : SimE) (Γ : Ctx) (p : Pos) (H : Hnd) (κ : KC) (c : Code) : Rest := match H.L with
      | [] => match c.quiet with
        | true => enterF V Y ih (Γ.goto c) p κ c
        | false => bad 5
      | _ :: _ => bad 11
noncomputable def hPure (V : Cfg) (Y : Trees) (ih : SimE) (Γ : Ctx) (p : Pos) (H : Hnd) (κ : KC) (fin : Fin) : Rest :=
  @PySem.Fin.rec (fun _ => Rest) (fun f => doneE Y ih Γ p H κ f) (fun c => fAgain V Y ih Γ p H κ c) fin
def hBad (n : Nat) : Rest := fun _ _ _ _ _ _ _ => .bad n
noncomputable def hAsk (V : Cfg) (Y : Trees) (ih : Sem Fin → Rest) (k : Setting → Sem Fin) (_ : Setting → Rest) : Rest := fun T m i ch ce la lb =>
  ih (k ⟨V.prog, parOf Y.eqS V.w.params true⟩) T m i ch ce (.t (k ⟨V.prog, parOf Y.eqS V.w.params true⟩) :: la) (.t (k ⟨V.prog, parOf Y.eqS V.w.params false⟩) :: lb)
noncomputable def stepF (V : Cfg) (Y : Trees) (ih : SimE) (Γ : Ctx) (p : Pos) (H : Hnd) (κ : KC) (t : Sem Fin) : Rest :=
  @Sem.rec Fin (fun _ => Rest)
    (pure := hPure V Y ih Γ p H κ)
    (raise := raiseE V Y ih Γ p H κ)
    (unsupported := fun _ => hBad 30)
    (finish := fun _ => hBad 30)
    (rule := fun _ k _ => ih Γ p H κ (k ()))
    («at» := fun q k _ => ih Γ q H κ (k ()))
    (load := hLoad V (ih Γ p H κ))
    (update := hUpd V (ih Γ p H κ))
    (alloc := hAlloc V (ih Γ p H κ))
    (loadIfAlive := hLoadA V (ih Γ p H κ))
    (point := fun _ k _ => ih Γ p H κ (k ()))
    (register := fun _ _ _ => hBad 30)
    (fresh := fun k _ T m i ch ce la lb => ih Γ p H κ (k (V.t₀ + i)) T m (i + 1) ch ce la lb)
    (ask := hAsk V Y (ih Γ p H κ))
    (choose := fun _ _ _ _ => hBad 30)
    (os := fun _ _ _ _ => hBad 30)
    (call := fun c hd _ _ k _ => enterF V Y ih (Γ.enter c hd p) p (.ret Γ p H k κ) c)
    (handled := fun own k _ => ih Γ p H κ (k (match own with | true => Γ.own | false => Γ.handled)))
    (newGen := fun _ _ _ => hBad 30)
    (genState := fun _ _ _ => hBad 30)
    (resume := fun _ _ _ _ _ => hBad 30)
    (yield := fun _ _ _ _ _ => hBad 30)
    (stack := fun k _ => ih Γ p H κ (k ((Γ.code, p) :: Γ.below)))
    (fork := fun _ _ _ => hBad 30)
    (thread := fun _ _ => hBad 30)
    (await := fun _ _ _ _ _ _ => hBad 30)
    t
noncomputable def simF (V : Cfg) (Y : Trees) (n : Nat) : SimE := @Nat.rec (fun _ => SimE) (fun Γ p H κ t T m i ch ce la lb => .more Γ p H κ t T m i ch ce la lb) (fun _ ih => stepF V Y ih) n
noncomputable def loopF (V : Cfg) (Y : Trees) (seg n : Nat) : Out → List (List Ob) → List (List Ob) → Res := @Nat.rec (fun _ => Out → List (List Ob) → List (List Ob) → Res) (fun o A B => ⟨o, A, B⟩)
  (fun _ ih o A B => match o with
    | .more Γ p H κ t T m i ch ce la lb => ih (simF V Y seg Γ p H κ t T m i ch ce [] []) (la :: A) (lb :: B)
    | .done r T m i ch ce la lb => ⟨.done r T m i ch ce [] [], la :: A, lb :: B⟩
    | .bad k => ⟨.bad k, A, B⟩) n
end Mine
end
section
open PySem PySem.W PySem.W.X
set_option maxRecDepth 100000
set_option linter.unusedVariables false
namespace Mine
theorem getK_eq (t : KT) : ∀ i, getK t i = t.get i := by
  induction t with
  | nil => intro i; rfl
  | node v l r hl hr =>
    intro i
    show @Bool.rec (fun _ => Option Obj) (@Bool.rec (fun _ => Option Obj) (getK r (i / 2 - 1)) (getK l (i / 2)) (Nat.beq (i % 2) 1)) v (Nat.beq i 0) = (match Nat.beq i 0 with | true => v | false => match Nat.beq (i % 2) 1 with | true => l.get (i / 2) | false => r.get (i / 2 - 1))
    rw [hl, hr]
    cases Nat.beq i 0 <;> cases Nat.beq (i % 2) 1 <;> rfl
theorem getB_eq (t : BT) : ∀ i, getB t i = t.get i := by
  induction t with
  | nil => intro i; rfl
  | node v l r hl hr =>
    intro i
    show @Bool.rec (fun _ => Option Obj) (@Bool.rec (fun _ => Option Obj) (getB r (i / 2 - 1)) (getB l (i / 2)) (Nat.beq (i % 2) 1)) (some v) (Nat.beq i 0) = (match Nat.beq i 0 with | true => some v | false => match Nat.beq (i % 2) 1 with | true => l.get (i / 2) | false => r.get (i / 2 - 1))
    rw [hl, hr]
    cases Nat.beq i 0 <;> cases Nat.beq (i % 2) 1 <;> rfl
theorem insB_eq (o : Obj) (C : Type) (b : C) (t : BT) : ∀ (i : Nat) (k : BT → C), insB o C b t i k = (match (t.ins i o).get i with | some _ => k (t.ins i o) | none => b) := by
  induction t with
  | nil =>
    intro i k
    show @Bool.rec (fun _ => C) b (k (.node o .nil .nil)) (Nat.beq i 0) = (match (match Nat.beq i 0 with | true => some o | false => match Nat.beq (i % 2) 1 with | true => BT.nil.get (i / 2) | false => BT.nil.get (i / 2 - 1)) with | some _ => k (.node o .nil .nil) | none => b)
    cases Nat.beq i 0
    · cases Nat.beq (i % 2) 1 <;> rfl
    · rfl
  | node v l r hl hr =>
    intro i k
    show @Bool.rec (fun _ => C) (@Bool.rec (fun _ => C) (insB o C b r (i / 2 - 1) fun r => k (.node v l r)) (insB o C b l (i / 2) fun l => k (.node v l r)) (Nat.beq (i % 2) 1)) (k (.node o l r)) (Nat.beq i 0) = _
    rw [hl, hr]
    have e : (BT.node v l r).ins i o = (match Nat.beq i 0 with | true => .node o l r | false => match Nat.beq (i % 2) 1 with | true => .node v (l.ins (i / 2) o) r | false => .node v l (r.ins (i / 2 - 1) o)) := rfl
    have g : ∀ v l r, (BT.node v l r).get i = (match Nat.beq i 0 with | true => some v | false => match Nat.beq (i % 2) 1 with | true => l.get (i / 2) | false => r.get (i / 2 - 1)) := fun _ _ _ => rfl
    rw [e]
    cases q : Nat.beq i 0
    · cases q2 : Nat.beq (i % 2) 1
      · dsimp only
        rw [g, q, q2]
      · dsimp only
        rw [g, q, q2]
    · dsimp only
      rw [g, q]
theorem updB_eq (f : Obj → Obj) (C : Type) (b6 b7 : C) (t : BT) : ∀ (i : Nat) (k : BT → C), updB f C b6 b7 t i k = (match t.get i with | some o => (match (f o).isFreed with | true => b6 | false => k (t.set i f)) | none => b7) := by
  induction t with
  | nil => intro i k; rfl
  | node v l r hl hr =>
    intro i k
    show @Bool.rec (fun _ => C) (@Bool.rec (fun _ => C) (updB f C b6 b7 r (i / 2 - 1) fun r => k (.node v l r)) (updB f C b6 b7 l (i / 2) fun l => k (.node v l r)) (Nat.beq (i % 2) 1)) (@Bool.rec (fun _ => C) (k (.node (f v) l r)) b6 (f v).isFreed) (Nat.beq i 0) = _
    rw [hl, hr]
    have e : (BT.node v l r).set i f = (match Nat.beq i 0 with | true => .node (f v) l r | false => match Nat.beq (i % 2) 1 with | true => .node v (l.set (i / 2) f) r | false => .node v l (r.set (i / 2 - 1) f)) := rfl
    have g : (BT.node v l r).get i = (match Nat.beq i 0 with | true => some v | false => match Nat.beq (i % 2) 1 with | true => l.get (i / 2) | false => r.get (i / 2 - 1)) := rfl
    rw [e, g]
    cases q : Nat.beq i 0
    · cases q2 : Nat.beq (i % 2) 1 <;> rfl
    · dsimp only
      cases (f v).isFreed <;> rfl
theorem chLookR_eq (ch : Ch) : ∀ a, chLookR ch a = chLook ch a := by
  induction ch with
  | nil => intro a; rfl
  | cons p l h =>
    intro a
    show @Bool.rec (fun _ => Option (Array Value)) (chLookR l a) (some p.2) (Nat.beq p.1 a) = (match Nat.beq p.1 a with | true => some p.2 | false => chLook l a)
    rw [h]
    cases Nat.beq p.1 a <;> rfl
theorem fLoad0_eq (V : Cfg) (ih : Sem Fin → Rest) (a : Addr) (k : Obj → Sem Fin) (T : BT) (m i : Nat) (ch : Ch) (ce : List Nat) (la lb : List Ob) :
    fLoad0 V ih a k T m i ch ce la lb = (match lookE V T ch 0 a with | some o => ih (k o) T m i ch ce la lb | none => .bad 1) := by
  unfold fLoad0 lookE
  rw [chLookR_eq, getK_eq]
  cases chLook ch a with
  | some vs => rfl
  | none => dsimp only; cases V.kt.get a <;> rfl
theorem fLoad1_eq (V : Cfg) (ih : Sem Fin → Rest) (a : Addr) (k : Obj → Sem Fin) (j : Nat) (T : BT) (m i : Nat) (ch : Ch) (ce : List Nat) (la lb : List Ob) :
    fLoad1 V ih a k j T m i ch ce la lb = (match lookE V T ch (j + 1) a with | some o => ih (k o) T m i ch ce (.n a :: la) (.n (V.loc j) :: lb) | none => .bad 1) := by
  unfold fLoad1 lookE
  rw [getB_eq]
  dsimp only
  cases T.get j <;> rfl
theorem enterF_eq : @enterF = @enterE := by
  funext V Y ih Γ p κ c T m i ch ce la lb
  cases ce with
  | nil => rfl
  | cons x ce => cases x <;> rfl
theorem stepF_eq : @stepF = @stepE := by
  funext V Y ih Γ p H κ t T m i ch ce la lb
  cases t with
  | pure fin =>
    cases fin with
    | done f => rfl
    | again c =>
      show fAgain V Y ih Γ p H κ c T m i ch ce la lb = (match H.L with
      | [] => match c.quiet with
        | true => enterE V Y ih (Γ.goto c) p κ c
        | false => bad 5
      | _ :: _ => bad 11) T m i ch ce la lb
      unfold fAgain
      rw [enterF_eq]
      all_goals rfl
  | raise e => rfl
  | rule x k => rfl
  | «at» q k => rfl
  | point x k => rfl
  | ask k => rfl
  | load a x k =>
    cases ce with
    | nil => rfl
    | cons j ce => cases j with
      | zero => exact fLoad0_eq ..
      | succ j => exact fLoad1_eq ..
  | loadIfAlive a k =>
    cases ce with
    | nil => rfl
    | cons j ce => cases j with
      | zero => exact fLoad0_eq ..
      | succ j => exact fLoad1_eq ..
  | alloc o k =>
    show hAlloc V (ih Γ p H κ) o k (fun _ => hBad 30) T m i ch ce la lb = (match o.isFreed with
    | true => .bad 2
    | false => match Nat.ble V.m₀ m with
      | true => match (T.ins m o).get m with
        | some _ => ih Γ p H κ (k (V.loc m)) (T.ins m o) (m + 1) i ch ce la lb
        | none => .bad 3
      | false => .bad 4)
    unfold hAlloc
    rw [insB_eq]
    cases o.isFreed with
    | true => rfl
    | false => cases Nat.ble V.m₀ m <;> rfl
  | update a x f k =>
    show hUpd V (ih Γ p H κ) a x f k (fun _ => hBad 30) T m i ch ce la lb = (match ce with
    | j :: ce => match j with
      | j + 1 => match T.get j with
        | some o => match (f o).isFreed with
          | true => .bad 6
          | false => ih Γ p H κ (k ()) (T.set j f) m i ch ce (.n a :: la) (.n (V.loc j) :: lb)
        | none => .bad 7
      | 0 => match nowTabE V ch a with
        | some vs => match tabOf (f (tableObj vs)) with
          | some vs' => match strip vs.toList vs'.toList with
            | some _ => ih Γ p H κ (k ()) T m i (chPut ch a vs') ce la lb
            | none => .bad 8
          | none => .bad 9
        | none => .bad 10
    | [] => .bad 51)
    cases ce with
    | nil => rfl
    | cons j ce => cases j with
      | zero => rfl
      | succ j => exact updB_eq ..
  | fresh k => rfl
  | handled own k => rfl
  | stack k => rfl
  | call c hd x y k =>
    show enterF V Y ih (Γ.enter c hd p) p (.ret Γ p H k κ) c T m i ch ce la lb = _
    rw [enterF_eq]
    rfl
  | _ => rfl
theorem simF_eq (V : Cfg) (Y : Trees) : ∀ n, simF V Y n = simE V Y n
  | 0 => rfl
  | n + 1 => by
    show stepF V Y (simF V Y n) = stepE V Y (simE V Y n)
    rw [simF_eq V Y n, stepF_eq]
theorem loopF_eq (V : Cfg) (Y : Trees) (seg : Nat) : ∀ n o A B, loopF V Y seg n o A B = loopE V Y seg n o A B
  | 0, _, _, _ => rfl
  | n + 1, o, A, B => by
    cases o with
    | more Γ p H κ t T m i ch ce la lb =>
      show loopF V Y seg n (simF V Y seg Γ p H κ t T m i ch ce [] []) (la :: A) (lb :: B) = loopE V Y seg n (simE V Y seg Γ p H κ t T m i ch ce [] []) (la :: A) (lb :: B)
      rw [loopF_eq V Y seg n, simF_eq]
    | _ => rfl
end Mine
end
section
open PySem PySem.W PySem.W.X PySem.Calls PyProof.Rows
open Sem (wp)
set_option maxRecDepth 100000
set_option linter.unusedVariables false
set_option linter.unusedSectionVars false
namespace Mine
/-- a call's own codes, from a wpAny of the call -/
theorem stop_call {M : Model} {Γ : Ctx} {A : Around} {f : Value} {vs : List Value} {Q : Value → Shared → Prop} {p : Pos} {s : Shared} (hin : Γ.In A)
    (h : wpAny M A (PySem.call f vs) Q (fun _ _ => False) s) : wpCode M (Γ.enter (.call f ⟨vs, []⟩) none p) (fun r s' => ∃ v, r = rtn v ∧ Q v s') p s := by
  have z := h Γ p hin
  unfold PySem.call runValue run at z
  rw [Sem.wp_bind'] at z
  refine wpCode_mono (fun r s' q => ?_) (Sem.wp_call (α := Flow) .. ▸ z)
  cases r with
  | error e => exact q.elim
  | ok f => cases f with
    | ret v => exact ⟨v, rfl, q⟩
    | next => exact q.elim
    | brk => exact q.elim
    | cont => exact q.elim
def ctxE : Out → Ctx
  | .more Γ _ _ _ _ _ _ _ _ _ _ _ => Γ
  | _ => ΓC
def posE : Out → Pos
  | .more _ p _ _ _ _ _ _ _ _ _ _ => p
  | _ => default
/-- the code that a run stands before, and what it is called with -/
def codeE : Out → Option (Code × Option Value × Option Value)
  | .more Γ _ _ _ t _ _ _ _ _ _ _ => match t with
    | .call c hd _ _ _ => some (c, hd, Γ.handled)
    | _ => none
  | _ => none
def TE : Out → BT
  | .more _ _ _ _ _ T _ _ _ _ _ _ => T
  | .done _ T _ _ _ _ _ _ => T
  | _ => .nil
def mE : Out → Nat
  | .more _ _ _ _ _ _ m _ _ _ _ _ => m
  | .done _ _ m _ _ _ _ _ => m
  | _ => 0
def iE : Out → Nat
  | .more _ _ _ _ _ _ _ i _ _ _ _ => i
  | .done _ _ _ i _ _ _ _ => i
  | _ => 0
def chE : Out → Ch
  | .more _ _ _ _ _ _ _ _ ch _ _ _ => ch
  | .done _ _ _ _ ch _ _ _ => ch
  | _ => []
def laE : Out → List Ob
  | .more _ _ _ _ _ _ _ _ _ _ la _ => la
  | .done _ _ _ _ _ _ la _ => la
  | _ => []
def lbE : Out → List Ob
  | .more _ _ _ _ _ _ _ _ _ _ _ lb => lb
  | .done _ _ _ _ _ _ _ lb => lb
  | _ => []
/-- the run goes on behind the call -/
def contE (o : Out) (r : Result) (T' : BT) (m' i' : Nat) (ce' : List Nat) : Out := match o with
  | .more Γ p H κ t T m i ch ce la lb => match t with
    | .call _ _ _ _ k => .more Γ p H κ (k r) T' m' i' ch ce' [] []
    | _ => .bad 90
  | _ => .bad 91
noncomputable def runF (V : Cfg) (Y : Trees) (n : Nat) (o : Out) : Out := match o with
  | .more Γ p H κ t T m i ch ce la lb => simF V Y n Γ p H κ t T m i ch ce la lb
  | o => o
theorem run_sound {V : Cfg} {Y : Trees} {R₀ : Result → Shared → Prop} (O : V.Ok) (hY : Y.Ok) (n : Nat) {o : Out} (h : Sat V R₀ (runF V Y n o)) : Sat V R₀ o := by
  cases o with
  | more Γ p H κ t T m i ch ce la lb =>
    have h : Sat V R₀ (simF V Y n Γ p H κ t T m i ch ce la lb) := h
    rw [simF_eq] at h
    exact Sat.goes (sim_sound O hY n Γ p H κ t T m i ch ce la lb) h
  | done r T m i ch ce la lb => exact h
  | bad k => exact h
/-- a run that stands before a call, whose contract is known -/
theorem stop_sound {V : Cfg} {R₀ : Result → Shared → Prop} {o : Out} {c : Code} {m : Nat} (e : (laE o, codeE o, mE o) = (lbE o, some (c, none, none), m))
    (C : ∀ (h : Heap) (Γ : PySem.Ctx) (p : Pos) (i : Nat), Γ.handled = none → Rep V h (TE o) m (chE o) → i = iE o → wpCode V.M (Γ.enter c none p) (fun r s' => ∃ V' T' m' i' ce', Sat V' R₀ (contE o r T' m' i' ce') ∧ V'.M = V.M ∧ Rep V' s'.heap T' m' (chE o) ∧ s' = sh V' s'.heap i') p (sh V h i)) : Sat V R₀ o := by
  cases o with
  | more Γ p H κ t T m₀ i ch ce la lb =>
    cases t with
    | call c' hd x y k =>
      have e1 : la = lb := congrArg (·.1) e
      have e2 : some (c', hd, Γ.handled) = some (c, none, none) := congrArg (·.2.1) e
      have e3 : m₀ = m := congrArg (·.2.2) e
      cases e1
      cases e3
      injection e2 with e2
      injection e2 with e4 e5
      injection e5 with e5 e6
      subst e4 e5
      refine ⟨rfl, fun h D => ?_⟩
      show wp V.M Γ (.call c' none x y k) _ _ p _
      rw [Sem.wp_call]
      refine wpCode_mono (fun r s' q => ?_) (C h Γ p i e6 D rfl)
      obtain ⟨V', T', m', i', ce', q1, q2, q3, q4⟩ := q
      have z := q1.2 s'.heap q3
      rw [← q4] at z
      unfold Mean at z
      rw [q2] at z
      exact z
    | _ => cases congrArg (·.2.1) e
  | done r T m i ch ce la lb => cases congrArg (·.2.1) e
  | bad k => cases congrArg (·.2.1) e
theorem Heap.get?_none_of_le {h : Heap} {a : Addr} (q : h.objs.size ≤ a) : h.get? a = none := by
  cases e : h.get? a with
  | none => rfl
  | some o => exact absurd (Heap.lt_size e) (Nat.not_lt_of_le q)
/-- the run's numbers anew: what is own so far keeps its places -/
def reb (V : Cfg) (m N t : Nat) : Cfg := { V with m₀ := m, old := V.loc, N := N, t₀ := t }
theorem reb_loc_lt {V : Cfg} {m N t i : Nat} (h : i < m) : (reb V m N t).loc i = V.loc i := by
  have e : Nat.blt i m = true := Nat.ble_eq_true_of_le h
  show (match Nat.blt i m with | true => V.loc i | false => N + (i - m)) = _
  rw [e]
theorem reb_loc_ge {V : Cfg} {m N t i : Nat} (h : m ≤ i) : (reb V m N t).loc i = N + (i - m) := by
  have e : Nat.blt i m = false := by
    cases q : Nat.blt i m with
    | false => rfl
    | true => have := blt_true q; omega
  show (match Nat.blt i m with | true => V.loc i | false => N + (i - m)) = _
  rw [e]
theorem Cfg.Ok.le {V : Cfg} (O : V.Ok) {i j : Nat} (h : i ≤ j) : V.loc i ≤ V.loc j := by
  rcases Nat.lt_or_ge i j with q | q
  · exact Nat.le_of_lt (O.mono _ _ q)
  · have : i = j := Nat.le_antisymm h q
    rw [this]; exact Nat.le_refl _
theorem reb_ok {V : Cfg} (O : V.Ok) {m N t : Nat} (hm : V.m₀ ≤ m) (h : V.loc m ≤ N) : (reb V m N t).Ok where
  size := O.size
  kt := O.kt
  tabs := O.tabs
  big := O.big
  up := by
    have e : V.n₁ ≤ V.loc m := by
      unfold Cfg.loc
      have q : Nat.blt m V.m₀ = false := by
        cases q : Nat.blt m V.m₀ with
        | false => rfl
        | true => have := blt_true q; omega
      rw [q]
      exact Nat.le_trans O.up (Nat.le_add_right _ _)
    exact Nat.le_trans e h
  apart := fun i => by
    rcases Nat.lt_or_ge i m with q | q
    · rw [reb_loc_lt q]; exact O.apart i
    · rw [reb_loc_ge q]
      refine Heap.get?_none_of_le ?_
      show V.h₀.objs.size ≤ _
      rw [O.size]
      have e : V.n₁ ≤ V.loc m := by
        unfold Cfg.loc
        have q : Nat.blt m V.m₀ = false := by
          cases q : Nat.blt m V.m₀ with
          | false => rfl
          | true => have := blt_true q; omega
        rw [q]
        exact Nat.le_trans O.up (Nat.le_add_right _ _)
      exact Nat.le_trans e (Nat.le_trans h (Nat.le_add_right _ _))
  ne := fun i => by
    rcases Nat.lt_or_ge i m with q | q
    · rw [reb_loc_lt q]; exact O.ne i
    · rw [reb_loc_ge q]
      have e : V.n₁ ≤ V.loc m := by
        unfold Cfg.loc
        have q : Nat.blt m V.m₀ = false := by
          cases q : Nat.blt m V.m₀ with
          | false => rfl
          | true => have := blt_true q; omega
        rw [q]
        exact Nat.le_trans O.up (Nat.le_add_right _ _)
      have b := O.big
      intro z
      have z : N + (i - m) = sysModules := z
      have w : V.n₁ ≤ sysModules := z ▸ Nat.le_trans e (Nat.le_trans h (Nat.le_add_right N (i - m)))
      exact absurd b (Nat.not_lt_of_le w)
  mono := fun i j hij => by
    rcases Nat.lt_or_ge j m with q | q
    · rw [reb_loc_lt q, reb_loc_lt (Nat.lt_trans hij q)]; exact O.mono i j hij
    · rw [reb_loc_ge q]
      rcases Nat.lt_or_ge i m with q2 | q2
      · rw [reb_loc_lt q2]
        exact Nat.lt_of_lt_of_le (O.mono _ _ q2) (Nat.le_trans h (Nat.le_add_right _ _))
      · rw [reb_loc_ge q2]; exact Nat.add_lt_add_left (by omega) N
/-- a heap that keeps all there is -/
theorem Rep.reb {V : Cfg} {h h' : Heap} {T : BT} {m t : Nat} {ch : Ch} (D : Rep V h T m ch) (k : ∀ b o, h.get? b = some o → h'.get? b = some o) : Rep (reb V m h'.objs.size t) h' T m ch where
  size := by rw [reb_loc_ge (Nat.le_refl _), Nat.sub_self, Nat.add_zero]
  own := fun i o e => ⟨(D.own i o e).1, by rw [reb_loc_lt (D.own i o e).1]; exact k _ _ (D.own i o e).2⟩
  keep := fun b o e q => k _ _ (D.keep b o e q)
  ch := fun a vs e => ⟨k _ _ (D.ch a vs e).1, (D.ch a vs e).2⟩
theorem Rep.grow {V : Cfg} (O : V.Ok) {h h' : Heap} {T : BT} {m : Nat} {ch : Ch} (D : Rep V h T m ch) (k : ∀ b o, h.get? b = some o → h'.get? b = some o) (hm : V.m₀ < m) (hg : (T.get (m - 1)).isSome = true) : V.loc m ≤ h'.objs.size := by
  obtain ⟨o, ho⟩ := Option.isSome_iff_exists.mp hg
  have z := Heap.lt_size (k _ _ (D.own _ _ ho).2)
  have e : m = (m - 1) + 1 := by omega
  rw [e, loc_step (by omega)]
  exact z
end Mine
end
section
open PySem PySem.W PySem.W.X PySem.Calls PyProof.Rows
open Sem (wp)
set_option maxRecDepth 100000
set_option linter.unusedVariables false
set_option linter.unusedSectionVars false
namespace Mine
/-- what the run is about: the world, the heap behind the top, its counters, the heap's tree, the script's items -/
structure Par where
  w : World
  h₀ : Heap
  d : Drawn
  t₀ : Nat
  os : OsState
  xs : Array Value
def scr (xs : Array Value) : Obj := { cls := .type "list", data := .seq xs }
def tabAt (kt : KT) (a : Nat) : Ch := match kt.get a with
  | some o => match o.data with
    | .fields vs => [(a, vs)]
    | _ => []
  | none => []
def cfg (kt : KT) (P : Par) (m₀ : Nat) (old : Nat → Addr) (N t₀ : Nat) : Cfg where
  prog := Challenge.pw_pq1416_01
  w := P.w
  h₀ := P.h₀
  n₁ := 1043
  kt := KT.put 40 kt 1042 (scr P.xs)
  tabs := tabAt kt 1024
  m₀ := m₀
  old := old
  N := N
  d := P.d
  t₀ := t₀
  os := P.os
  rest := []
abbrev V1 (kt : KT) (P : Par) : Cfg := cfg kt P 0 (fun _ => 0) 1043 P.t₀
def k0 : Result → Sem Fin := fun r => match r with
  | .ok f => match f with
    | .ret v => .pure (.done (.ret v))
    | _ => .unsupported "internal:call-without-return-value"
  | .error e => .raise e
def o0 (p : Pos) (ce : List Nat) : Out := .more ΓC p ⟨[], .plain⟩ .base (.call (.call (.ref 1041) ⟨[.ref 1042], []⟩) none false [] k0) .nil 0 0 [] ce [] []
structure Par.Ok (kt : KT) (P : Par) : Prop where
  size : P.h₀.objs.size = 1043
  kt : kt.Holds P.h₀ 1 0
  scr : P.h₀.get? 1042 = some (scr P.xs)
  tab : ∃ c ps, P.h₀.TableAt c 1024 ps
theorem tabAt_spec {kt : KT} {P : Par} (O : P.Ok kt) : ∀ a vs, chLook (tabAt kt 1024) a = some vs → ∃ c, P.h₀.TableAt c a vs := by
  intro a vs e
  obtain ⟨c, ps, hT⟩ := O.tab
  unfold tabAt at e
  split at e
  · rename_i o ho
    have z := kt_at O.kt ho
    rw [hT.2] at z
    cases z
    dsimp only at e
    unfold chLook at e
    split at e
    · rename_i q
      have : 1024 = a := Nat.eq_of_beq_eq_true q
      subst this
      cases e
      exact ⟨c, hT⟩
    · cases e
  · cases e
theorem cfg_low {kt : KT} {P : Par} {m₀ : Nat} {old : Nat → Addr} {N t₀ : Nat} (hN : 1043 ≤ N) (h1 : ∀ i, i < m₀ → 1043 ≤ old i ∧ old i < N) (i : Nat) : 1043 ≤ (cfg kt P m₀ old N t₀).loc i := by
  show 1043 ≤ Cfg.loc _ i
  unfold Cfg.loc
  split
  · rename_i q
    exact (h1 i (blt_true q)).1
  · exact Nat.le_trans hN (Nat.le_add_right _ _)
theorem cfg_ok {kt : KT} {P : Par} (O : P.Ok kt) {m₀ : Nat} {old : Nat → Addr} {N t₀ : Nat} (hN : 1043 ≤ N) (h1 : ∀ i, i < m₀ → 1043 ≤ old i ∧ old i < N) (h2 : ∀ i j, i < j → j < m₀ → old i < old j) : (cfg kt P m₀ old N t₀).Ok where
  size := O.size
  kt := KT.Holds.put 40 O.kt (by rw [Nat.one_mul, Nat.add_zero]; exact O.scr)
  tabs := tabAt_spec O
  big := by show sysModules < 1043; decide
  up := hN
  apart := fun i => Heap.get?_none_of_le (by
    show P.h₀.objs.size ≤ _
    rw [O.size]
    exact cfg_low hN h1 i)
  ne := fun i => by
    have z := cfg_low (kt := kt) (P := P) (t₀ := t₀) hN h1 i
    intro q
    rw [q] at z
    exact absurd z (by decide)
  mono := fun i j hij => by
    unfold Cfg.loc
    show (match Nat.blt i m₀ with | true => old i | false => N + (i - m₀)) < (match Nat.blt j m₀ with | true => old j | false => N + (j - m₀))
    cases qi : Nat.blt i m₀ with
    | true =>
      have := blt_true qi
      cases qj : Nat.blt j m₀ with
      | true => exact h2 i j hij (blt_true qj)
      | false => exact Nat.lt_of_lt_of_le (h1 i this).2 (Nat.le_add_right _ _)
    | false =>
      have q1 : ¬ i < m₀ := fun q => by
        have : Nat.blt i m₀ = true := Nat.ble_eq_true_of_le q
        rw [this] at qi; cases qi
      cases qj : Nat.blt j m₀ with
      | true => have := blt_true qj; omega
      | false => show N + (i - m₀) < N + (j - m₀); omega
/-- the claim's call, as a run's start -/
theorem start_sound {kt : KT} {P : Par} {R : Result → Shared → Prop} {ce : List Nat} {p : Pos} (hz : (V1 kt P).N = P.h₀.objs.size) (h : Sat (V1 kt P) R (o0 p ce)) :
    wp (model Challenge.pw_pq1416_01 P.w) ΓC (PySem.call (.ref 1041) [.ref 1042]) (fun v _ s => R (rtn v) s) (fun e _ s => R (.error e) s) p ⟨P.h₀, #[], P.d, P.t₀, P.os⟩ := by
  have D : Rep (V1 kt P) P.h₀ .nil 0 [] := ⟨hz.symm.trans rfl, (fun i o e => by cases e), (fun b o e _ => e), (fun a vs e => by cases e)⟩
  have z := h.2 P.h₀ D
  unfold Mean MeanR at z
  rw [Sem.wp_call] at z
  unfold PySem.call runValue run
  rw [Sem.wp_bind']
  show wp _ ΓC (.call _ none false [] _) _ _ p _
  rw [Sem.wp_call]
  refine wpCode_mono (fun r s' q => ?_) z
  cases r with
  | error e => exact q
  | ok f => cases f with
    | ret v => exact q
    | _ => exact q.elim
end Mine
end
section
open PySem PySem.W PySem.W.X PySem.Calls PyProof.Rows
open Sem (wp)
set_option maxRecDepth 100000
set_option linter.unusedVariables false
namespace Mine
/-- steps by the hundred, and the rest -/
noncomputable def runQ (V : Cfg) (Y : Trees) (q r : Nat) (o : Out) : Out := runF V Y r (loopF V Y 100 q o [] []).out
noncomputable def obsQ (V : Cfg) (Y : Trees) (q : Nat) (o : Out) : List (List Ob) × List (List Ob) := ((loopF V Y 100 q o [] []).la, (loopF V Y 100 q o [] []).lb)
theorem runQ_sound {V : Cfg} {Y : Trees} {R₀ : Result → Shared → Prop} (O : V.Ok) (hY : Y.Ok) {q r : Nat} {o : Out} (e : (obsQ V Y q o).1 = (obsQ V Y q o).2) (h : Sat V R₀ (runQ V Y q r o)) : Sat V R₀ o := by
  have z := run_sound O hY r h
  unfold obsQ at e
  dsimp only at e
  rw [loopF_eq] at e z
  exact (loop_sound O hY 100 q o [] [] e z).2
def lst (ys : Array Value) (e : Nat := 0) : Obj := { cls := .type "list", data := .seq ys e }
/-- what is told of a stop: the obligations, the call, its heap's size -/
def atE (o : Out) : List Ob × Option (Code × Option Value × Option Value) × Nat × Nat := (laE o, codeE o, mE o, iE o)
/-- a call by itself, what it is called with standing in the tree -/
def kEnds : Result → Sem Fin := fun r => match r with
  | .ok f => .pure (.done f)
  | .error e => .raise e
def subE (o : Out) (T : BT) (ce : List Nat) : Out := match codeE o with
  | some (c, _, _) => .more (ctxE o) (posE o) ⟨[], .plain⟩ .base (.call c none false [] kEnds) T (mE o) (iE o) (chE o) ce [] []
  | none => .bad 92
def src (V : Cfg) (j : Nat) (x y : Int) (tx ty : Nat) : Obj := lst #[.ref (V.loc j), .int x tx, .int y ty]
def withS (V : Cfg) (T : BT) (x y : Int) (tx ty : Nat) (zs : List Value) (e : Nat) : BT := (T.set 7 fun _ => src V 4 x y tx ty).set 4 fun _ => lst ⟨zs⟩ e
def restV (V : Cfg) (r : List Value) : Cfg := { V with rest := r }
/-- what the run does not know, stop by stop -/
structure S1 extends Par where
  p : Pos
  ys : Array Value
structure S2 extends S1 where
  N1 : Nat
  t1 : Nat
  e0 : Nat
structure S3 extends S2 where
  σ : Int
  tσ : Nat
  N3 : Nat
  t3 : Nat
/-- what a draw leaves -/
structure Tk where
  f : Nat
  tf : Nat
  a : Nat
  ta : Nat
  b : Nat
  tb : Nat
  zs : List Value
  e : Nat
  N : Nat
  t : Nat
/-- a letter -/
structure Sr where
  c : Str
  tc : Nat
  N : Nat
  t : Nat
structure S4 extends S3 where
  k0 : Tk
structure S5 extends S4 where
  r0 : Sr
structure S6 extends S5 where
  k1 : Tk
structure S7 extends S6 where
  r1 : Sr
structure S8 extends S7 where
  k2 : Tk
section
variable (kt : Params → KT)
noncomputable def U1 (s : S1) : Cfg := V1 (kt s.w.params) s.toPar
noncomputable def U2 (s : S2) : Cfg := reb (U1 kt s.toS1) 5 s.N1 s.t1
noncomputable def U3 (s : S3) : Cfg := reb (U2 kt s.toS2) 7 s.N3 s.t3
noncomputable def U4 (s : S4) : Cfg := reb (U3 kt s.toS3) 67 s.k0.N s.k0.t
noncomputable def U5 (s : S5) : Cfg := reb (U4 kt s.toS4) 67 s.r0.N s.r0.t
noncomputable def U6 (s : S6) : Cfg := reb (U5 kt s.toS5) 67 s.k1.N s.k1.t
noncomputable def U7 (s : S7) : Cfg := reb (U6 kt s.toS6) 67 s.r1.N s.r1.t
noncomputable def U8 (s : S8) : Cfg := reb (U7 kt s.toS7) 91 s.k2.N s.k2.t
/-- the certificates -/
structure Ce where
  (c0 c1 c2 c3 c4 c5 c6 c7 c8 : List Nat)
variable (C : Ce)
noncomputable def q0 (s : S1) : Out := runQ (U1 kt s) Y1 0 26 (o0 s.p C.c0)
noncomputable def r1 (s : S1) : Out := contE (q0 kt C s) (rtn (.ref ((U1 kt s).loc 3))) ((TE (q0 kt C s)).ins 3 (lst s.ys)) 4 (iE (q0 kt C s)) C.c1
noncomputable def q1 (s : S1) : Out := runQ (U1 kt s) Y1 0 2 (r1 kt C s)
noncomputable def r2 (s : S2) : Out := contE (q1 kt C s.toS1) (rtn (.ref ((U1 kt s.toS1).loc 4))) ((TE (q1 kt C s.toS1)).ins 4 (lst s.ys s.e0)) 5 0 C.c2
noncomputable def q2 (s : S2) : Out := runQ (U2 kt s) Y1 0 14 (r2 kt C s)
noncomputable def r3 (s : S2) : Out := contE (q2 kt C s) (rtn (.ref ((U2 kt s).loc 6))) ((TE (q2 kt C s)).ins 6 (lst s.ys)) 7 (iE (q2 kt C s)) C.c3
noncomputable def q3 (s : S2) : Out := runQ (U2 kt s) Y1 0 2 (r3 kt C s)
noncomputable def r4 (s : S3) : Out := contE (q3 kt C s.toS2) (rtn (.int s.σ s.tσ)) (TE (q3 kt C s.toS2)) 7 0 C.c4
noncomputable def q4 (s : S3) : Out := runQ (U3 kt s) Y1 31 78 (r4 kt C s)
/-- behind a draw -/
noncomputable def afterT (V : Cfg) (o : Out) (k : Tk) (m : Nat) (ce : List Nat) : Out := contE o (rtn (.int (.ofNat k.f) k.tf)) (withS V (TE o) (.ofNat k.a) (.ofNat k.b) k.ta k.tb k.zs k.e) m 0 ce
noncomputable def r5 (s : S4) : Out := afterT (U3 kt s.toS3) (q4 kt C s.toS3) s.k0 67 C.c5
noncomputable def q5 (s : S4) : Out := runQ (U4 kt s) Y1 0 2 (r5 kt C s)
noncomputable def r6 (s : S5) : Out := contE (q5 kt C s.toS4) (rtn (.str s.r0.c s.r0.tc)) (TE (q5 kt C s.toS4)) 67 0 C.c6
noncomputable def q6 (s : S5) : Out := runQ (U5 kt s) Y1 0 37 (r6 kt C s)
noncomputable def r7 (s : S6) : Out := afterT (U5 kt s.toS5) (q6 kt C s.toS5) s.k1 67 C.c7
noncomputable def q7 (s : S6) : Out := runQ (U6 kt s) Y1 0 2 (r7 kt C s)
noncomputable def r8 (s : S7) : Out := contE (q7 kt C s.toS6) (rtn (.str s.r1.c s.r1.tc)) (TE (q7 kt C s.toS6)) 67 0 C.c8
noncomputable def q8 (s : S7) : Out := runQ (U7 kt s) Y1 10 99 (r8 kt C s)
noncomputable def r9 (s : S8) (ce : List Nat) : Out := afterT (U7 kt s.toS7) (q8 kt C s.toS7) s.k2 91 ce
end
end Mine
end
section
open PySem PySem.W PySem.W.X PySem.Calls PyProof.Rows
open Sem (wp)
set_option maxRecDepth 100000
set_option linter.unusedVariables false
set_option linter.unusedSectionVars false
namespace Mine
/-- where a call's contract is told -/
def Con (V : Cfg) (R₀ : Result → Shared → Prop) (o : Out) (m : Nat) : Result → Shared → Prop := fun r s' => ∃ V' T' m' i' ce', Sat V' R₀ (contE o r T' m' i' ce') ∧ V'.M = V.M ∧ Rep V' s'.heap T' m' (chE o) ∧ s' = sh V' s'.heap i'
theorem stop_at {V : Cfg} {R₀ : Result → Shared → Prop} {o : Out} {c : Code} {m : Nat} (e : (laE o, codeE o, mE o) = (lbE o, some (c, none, none), m))
    (C : (ctxE o).handled = none → ∀ h, Rep V h (TE o) m (chE o) → wpCode V.M ((ctxE o).enter c none (posE o)) (Con V R₀ o m) (posE o) (sh V h (iE o))) : Sat V R₀ o := by
  cases o with
  | more Γ p H κ t T m₀ i ch ce la lb =>
    cases t with
    | call c' hd x y k =>
      have e1 : la = lb := congrArg (·.1) e
      have e2 : some (c', hd, Γ.handled) = some (c, none, none) := congrArg (·.2.1) e
      have e3 : m₀ = m := congrArg (·.2.2) e
      cases e1
      cases e3
      injection e2 with e2
      injection e2 with e4 e5
      injection e5 with e5 e6
      subst e4 e5
      refine ⟨rfl, fun h D => ?_⟩
      show wp V.M Γ (.call c' none x y k) _ _ p _
      rw [Sem.wp_call]
      refine wpCode_mono (fun r s' q => ?_) (C e6 h D)
      obtain ⟨V', T', m', i', ce', q1, q2, q3, q4⟩ := q
      have z := q1.2 s'.heap q3
      rw [← q4] at z
      unfold Mean at z
      rw [q2] at z
      exact z
    | _ => cases congrArg (·.2.1) e
  | done r T m i ch ce la lb => cases congrArg (·.2.1) e
  | bad k => cases congrArg (·.2.1) e
/-- the call by itself -/
theorem sub_sound {V : Cfg} {R : Result → Shared → Prop} {o : Out} {T : BT} {ce : List Nat} {c : Code} (ec : codeE o = some (c, none, none)) (q : Sat V R (subE o T ce)) {h : Heap} (D : Rep V h T (mE o) (chE o)) :
    wpCode V.M ((ctxE o).enter c none (posE o)) R (posE o) (sh V h (iE o)) := by
  unfold subE at q
  rw [ec] at q
  have z := q.2 h D
  unfold Mean MeanR at z
  rw [Sem.wp_call] at z
  refine wpCode_mono (fun r s' q => ?_) z
  cases r with
  | error e => exact q
  | ok f => exact q
/-- a call's contract by the library's rules -/
theorem con_any {V : Cfg} {o : Out} {f : Value} {vs : List Value} {Q : Value → Shared → Prop} {s : Shared} {R : Result → Shared → Prop} (hn : (ctxE o).handled = none)
    (h : ∀ A : Around, A.handled = none → wpAny V.M A (PySem.call f vs) Q (fun _ _ => False) s) (k : ∀ v s', Q v s' → R (rtn v) s') : wpCode V.M ((ctxE o).enter (.call f ⟨vs, []⟩) none (posE o)) R (posE o) s := by
  refine wpCode_mono (fun r s' q => ?_) (stop_call (below_around (ctxE o)).in (h _ ?_))
  · obtain ⟨v, rfl, hv⟩ := q
    exact k v s' hv
  · exact hn
noncomputable def gets (m : Nat) (T : BT) : List (Option Obj) := (List.range m).map fun j => getB T j
theorem gets_get {m : Nat} {T T' : BT} (e : gets m T = gets m T') {j : Nat} (hj : j < m) : T.get j = T'.get j := by
  have z := congrArg (·[j]?) e
  unfold gets at z
  simp only [List.getElem?_map, List.getElem?_range hj, Option.map_some, getB_eq] at z
  exact Option.some.inj z
/-- the numbers anew, what was own below m stays where it was -/
theorem Rep.reb' {V V₂ : Cfg} {h : Heap} {T T' : BT} {m m₂ t : Nat} {ch : Ch} (D : Rep V h T m₂ ch) (k : ∀ i o, T'.get i = some o → i < m ∧ T.get i = some o) (hv : ∀ i, i < m → V₂.loc i = V.loc i) (hn : V₂.h₀ = V.h₀) (hs : h.objs.size = V₂.loc m) : Rep V₂ h T' m ch where
  size := hs
  own := fun i o e => ⟨(k i o e).1, by rw [hv i (k i o e).1]; exact (D.own i o (k i o e).2).2⟩
  keep := fun b o e q => D.keep b o (hn ▸ e) q
  ch := fun a vs e => by
    obtain ⟨y, c, ps, more, ht, hv⟩ := D.ch a vs e
    exact ⟨y, c, ps, more, hn ▸ ht, hv⟩
end Mine
end
section
open PySem PySem.W PySem.W.X PySem.Calls PyProof.Rows
open Sem (wp)
set_option maxRecDepth 100000
set_option linter.unusedVariables false
set_option linter.unusedSectionVars false
namespace Mine
section
variable {prog : Program} {w : World} {A : Around} {s : Shared}
/-- the first forty of a list -/
theorem call_first {l sl : Addr} {items : Array Value} {t : Tok} {E : Value → Shared → Prop} {Q : Value → Shared → Prop} (hl : s.heap.get? l = some (lst items)) (hs : s.heap.get? sl = some { cls := .type "slice", data := .fields #[.none, .int 40 t, .none] })
    (hz : items.size ≤ 1000) (h : Q (.ref s.heap.objs.size) { s with heap := s.heap.push (lst (slicePick items none (some 40) none)) }) :
    wpAny (model prog w) A (PySem.call (.builtin "list.__getitem__") [.ref l, .ref sl]) Q E s := by
  have hT : s.TypeIs (.ref l) "list" := ⟨_, hl, rfl⟩
  have hS : s.TypeIs (.ref sl) "slice" := ⟨_, hs, rfl⟩
  refine wpAny_call_entry slot_list_getitem hT entry_list_getitem ?_ (args_list_getitem _ _)
  show wpAny _ _ (Builtin.List.listSubscript? (.ref sl) >>= _) _ _ s
  refine wpAny_bind ?_
  unfold Builtin.List.listSubscript?
  refine wpAny_bind (wpAny_specialOf hS slice_no_index ?_)
  refine wpAny_pure ?_
  show wpAny _ _ (typeOf (.ref sl) >>= _) _ _ s
  refine wpAny_bind (wpAny_typeOf hS ?_)
  rw [if_neg (by decide), listSliceParts_eq]
  refine wpAny_bind (wpAny_bind (wpAny_field hs rfl (x := .none) rfl (wpAny_bind (wpAny_listPart .none ?_))))
  rw [if_neg (by decide)]
  refine wpAny_bind (wpAny_field hs rfl (x := .none) rfl (wpAny_bind (wpAny_listPart .none ?_)))
  refine wpAny_bind (wpAny_field hs rfl (x := .int 40 t) rfl (wpAny_bind (wpAny_listPart (.int 40 t) (wpAny_pure ?_))))
  refine wpAny_bind (m := Builtin.List.listItems (.ref l)) ?_
  unfold Builtin.List.listItems
  refine wpAny_bind (wpAny_seqItems hl rfl (wpAny_pure ?_))
  refine wpAny_bind (wpAny_of_eq (sliceIndices_raw none (some 40) none items.size (by decide)) ?_)
  exact wpAny_bind (wpAny_newObj_type (wpAny_pure ⟨_, rfl, h⟩) (Nat.le_trans (slicePick_size_le items none (some 40) none) (Nat.le_trans hz (by decide))))
/-- the sum of a list of ints, of any size -/
theorem call_total {l : Addr} {items : Array Value} {E : Value → Shared → Prop} {Q : Value → Shared → Prop} (hh : A.handled = none) (hl : s.heap.get? l = some (lst items)) (hi : AllInts items)
    (h : ∀ σ h' tk t', (∀ b o, s.heap.get? b = some o → h'.get? b = some o) → Q (.int σ t') { s with heap := h', toks := tk }) :
    wpAny (model prog w) A (PySem.call (.builtin "sum") [.ref l]) Q E s := by
  obtain ⟨xs, rfl⟩ := hi.items
  have ht : s.heap.IsList l (intItems xs) := ⟨_, hl, rfl, _, rfl⟩
  have hne : l ≠ s.heap.objs.size := Nat.ne_of_lt (Heap.lt_size hl)
  have W := (Walks.list (prog := prog) (w := w) (A := A.in1) hh s.heap.objs.size l hne (intItems xs)).toS
  refine call_sum_walkAnyS (wpAny_pyIter_list ht ?_)
  refine ⟨s.heap.objs.size, _, _, _, _, _, _, numAt xs, rfl, W, ⟨⟨_, Heap.get?_push_size _ rfl, rfl, rfl⟩, ht.at fun o e => Heap.get?_push_of_some _ e⟩, fun b hb => ?_, fun i v hP => intItems_at hP, fun s' t' hm => ?_⟩
  · rcases List.mem_cons.mp hb with rfl | hb
    · exact Heap.lt_size (Heap.get?_push_size _ rfl)
    · obtain rfl := List.mem_singleton.mp hb
      exact Heap.lt_size (Heap.get?_push_of_some _ hl)
  · obtain ⟨h', g', d', tk', os'⟩ := s'
    have e1 : g' = s.gens := hm.gens
    have e2 : d' = s.drawn := hm.drawn
    have e3 : os' = s.os := hm.os
    subst e1 e2 e3
    exact h _ h' tk' t' fun b o e => hm.heap b o (fun hb => absurd (Heap.lt_size e) ((List.mem_singleton.mp hb) ▸ Nat.lt_irrefl _)) (Heap.get?_push_of_some _ e)
/-- a text's sign -/
theorem call_sign {x : Str} {t u : Tok} {f c : Nat} {E : Value → Shared → Prop} {Q : Value → Shared → Prop} (hf : f < 1000) (hc : (seqIndex? (.ofNat f) x.length).bind (x.cps[·]?) = some c)
    (h : Q (.str ⟨#[c]⟩ s.toks) { s with toks := s.toks + 1 }) : wpAny (model prog w) A (PySem.call (.builtin "str.__getitem__") [.str x t, .int (.ofNat f) u]) Q E s := by
  refine call_givesAt (P := fun _ => True) F.slot_str_getitem (typeIs_str s x t) F.entry_str_getitem (F.args_str_getitem_2 _ _) (gives_str_getitem x (.ofNat f) t u c ?_ hc).at trivial ⟨(by show 1 ≤ sizeLine; decide), h⟩
  rw [Bool.or_eq_false_iff]
  refine ⟨decide_eq_false ?_, decide_eq_false ?_⟩
  · show ¬ ((f : Int) < _); omega
  · show ¬ ((f : Int) ≥ _); omega
end
end Mine
end
section
open PySem PySem.W PySem.W.X PySem.Calls PyProof.Rows
open Sem (wp)
set_option maxRecDepth 100000
set_option linter.unusedVariables false
set_option linter.unusedSectionVars false
namespace Mine
section
variable {V : Cfg} {R₀ : Result → Shared → Prop} {o : Out} {m : Nat} {ce : List Nat} (O : V.Ok)
include O
theorem ins_rep {h : Heap} {T : BT} {ch : Ch} {x : Obj} (D : Rep V h T m ch) (hm : V.m₀ ≤ m) (hg : ((T.ins m x).get m).isSome = true) {h' : Heap} (k : ∀ b o, h.get? b = some o → h'.get? b = some o) (hx : h'.get? h.objs.size = some x) (t : Nat) :
    V.loc (m + 1) ≤ h'.objs.size ∧ Rep (reb V (m + 1) h'.objs.size t) h' (T.ins m x) (m + 1) ch := by
  have e := D.size
  refine ⟨?_, by rw [reb_loc_ge (Nat.le_refl _), Nat.sub_self, Nat.add_zero], fun i o' q => ?_, fun b o' q r => k _ _ (D.keep b o' q r), fun a vs q => ⟨k _ _ (D.ch a vs q).1, (D.ch a vs q).2⟩⟩
  · rw [loc_step hm, ← e]
    exact Heap.lt_size hx
  · rw [BT.get_ins x T m hg] at q
    by_cases hi : i = m
    · subst hi
      rw [if_pos rfl] at q
      cases q
      refine ⟨Nat.lt_succ_self _, ?_⟩
      rw [reb_loc_lt (Nat.lt_succ_self _), ← e]
      exact hx
    · rw [if_neg hi] at q
      have y := D.own i o' q
      refine ⟨Nat.lt_succ_of_lt y.1, ?_⟩
      rw [reb_loc_lt (Nat.lt_succ_of_lt y.1)]
      exact k _ _ y.2
theorem first_con {l : Addr} {j : Nat} {xs : Array Value} {t : Tok} (e : (laE o, codeE o, mE o) = (lbE o, some (.call (.builtin "list.__getitem__") ⟨[.ref l, .ref (V.loc j)], []⟩, none, none), m))
    (hj : (TE o).get j = some { cls := .type "slice", data := .fields #[.none, .int 40 t, .none] }) (hl : ∀ h, Rep V h (TE o) m (chE o) → h.get? l = some (lst xs)) (hz : xs.size ≤ 1000) (hm : V.m₀ ≤ m)
    (hg : (((TE o).ins m (lst (slicePick xs none (some 40) none))).get m).isSome = true)
    (q : Sat V R₀ (contE o (rtn (.ref (V.loc m))) ((TE o).ins m (lst (slicePick xs none (some 40) none))) (m + 1) (iE o) ce)) : Sat V R₀ o :=
  stop_at e fun hn h D => con_any hn (Q := fun v s' => v = .ref (V.loc m) ∧ s' = sh V (h.push (lst (slicePick xs none (some 40) none))) (iE o))
    (fun A _ => call_first (hl h D) ((D.own _ _ hj).2) hz ⟨congrArg Value.ref D.size, rfl⟩)
    (fun v s' hv => by
      obtain ⟨rfl, rfl⟩ := hv
      exact ⟨V, _, _, _, _, q, rfl, D.alloc O rfl hm hg, rfl⟩)
theorem copy_con {j : Nat} {ys : Array Value} (e : (laE o, codeE o, mE o) = (lbE o, some (.call (.type "list") ⟨[.ref (V.loc j)], []⟩, none, none), m))
    (hj : (TE o).get j = some (lst ys)) (hz : ys.size ≤ 1000) (hm : V.m₀ ≤ m) (hg : ∀ x, (((TE o).ins m x).get m).isSome = true)
    (q : ∀ N t c, V.loc (m + 1) ≤ N → Sat (reb V (m + 1) N t) R₀ (contE o (rtn (.ref (V.loc m))) ((TE o).ins m (lst ys c)) (m + 1) 0 ce)) : Sat V R₀ o :=
  stop_at e fun hn h D => con_any hn (Q := fun v s' => v = .ref (V.loc m) ∧ ∃ h' c, s' = sh V h' (iE o) ∧ (∀ b o, h.get? b = some o → h'.get? b = some o) ∧ h'.get? h.objs.size = some (lst ys c))
    (fun A _ => call_list_seq (hsz := Nat.le_trans hz (by decide)) (V.loc j) (.inl rfl) (D.own _ _ hj).2 rfl rfl fun h' c k hx => ⟨congrArg Value.ref D.size, h', c, rfl, k, hx⟩)
    (fun v s' hv => by
      obtain ⟨rfl, h', c, rfl, k, hx⟩ := hv
      obtain ⟨z1, z2⟩ := ins_rep O D hm (hg _) k hx (V.t₀ + iE o)
      exact ⟨_, _, _, _, _, q _ (V.t₀ + iE o) c z1, rfl, z2, rfl⟩)
theorem total_con {j : Nat} {ys : Array Value} (e : (laE o, codeE o, mE o) = (lbE o, some (.call (.builtin "sum") ⟨[.ref (V.loc j)], []⟩, none, none), m))
    (hj : (TE o).get j = some (lst ys)) (hi : AllInts ys) (hm : V.m₀ < m) (hg : ((TE o).get (m - 1)).isSome = true)
    (q : ∀ σ tσ N t, V.loc m ≤ N → Sat (reb V m N t) R₀ (contE o (rtn (.int σ tσ)) (TE o) m 0 ce)) : Sat V R₀ o :=
  stop_at e fun hn h D => con_any hn (Q := fun v s' => ∃ σ h' tk t', v = .int σ t' ∧ s' = { sh V h (iE o) with heap := h', toks := tk } ∧ (∀ b o, h.get? b = some o → h'.get? b = some o))
    (fun A hA => call_total hA (D.own _ _ hj).2 hi fun σ h' tk t' k => ⟨σ, h', tk, t', rfl, rfl, k⟩)
    (fun v s' hv => by
      obtain ⟨σ, h', tk, t', rfl, rfl, k⟩ := hv
      exact ⟨_, _, _, _, _, q σ t' _ tk (D.grow O k hm hg), rfl, D.reb k, rfl⟩)
theorem sign_con {x : Str} {t u : Tok} {f c : Nat} (e : (laE o, codeE o, mE o) = (lbE o, some (.call (.builtin "str.__getitem__") ⟨[.str x t, .int (.ofNat f) u], []⟩, none, none), m))
    (hf : f < 1000) (hc : (seqIndex? (.ofNat f) x.length).bind (x.cps[·]?) = some c)
    (q : ∀ tc N t, V.loc m ≤ N → Sat (reb V m N t) R₀ (contE o (rtn (.str ⟨#[c]⟩ tc)) (TE o) m 0 ce)) : Sat V R₀ o :=
  stop_at e fun hn h D => con_any hn (Q := fun v s' => ∃ tc, v = .str ⟨#[c]⟩ tc ∧ s' = sh V h (iE o + 1))
    (fun A hA => call_sign hf hc ⟨_, rfl, rfl⟩)
    (fun v s' hv => by
      obtain ⟨tc, rfl, rfl⟩ := hv
      exact ⟨_, _, _, _, _, q tc h.objs.size (V.t₀ + (iE o + 1)) (Nat.le_of_eq D.size.symm), rfl, D.reb (t := V.t₀ + (iE o + 1)) fun _ _ e => e, rfl⟩)
end
def resE : Out → Option Result
  | .done r .. => some r
  | _ => none
theorem restV_ok {V : Cfg} (O : V.Ok) (r : List Value) : (restV V r).Ok := ⟨O.size, O.kt, O.tabs, O.big, O.up, O.apart, O.ne, O.mono⟩
theorem rest_rep {V : Cfg} {r : List Value} {h : Heap} {T : BT} {m : Nat} {ch : Ch} (D : Rep V h T m ch) : Rep (restV V r) h T m ch := ⟨D.size, D.own, D.keep, D.ch⟩
theorem rest_rep' {V : Cfg} {r : List Value} {h : Heap} {T : BT} {m : Nat} {ch : Ch} (D : Rep (restV V r) h T m ch) : Rep V h T m ch := ⟨D.size, D.own, D.keep, D.ch⟩
theorem withS_get {V : Cfg} {T : BT} {x y : Int} {tx ty : Nat} {zs : List Value} {e i : Nat} {o : Obj} (h : (withS V T x y tx ty zs e).get i = some o) : ∃ o', T.get i = some o' := by
  unfold withS at h
  rw [BT.get_set] at h
  split at h
  · rename_i q
    subst q
    rw [BT.get_set, if_neg (by decide)] at h
    cases q : T.get 4 with
    | none => rw [q] at h; cases h
    | some o' => exact ⟨o', rfl⟩
  · rw [BT.get_set] at h
    split at h
    · rename_i q
      subst q
      cases q : T.get 7 with
      | none => rw [q] at h; cases h
      | some o' => exact ⟨o', rfl⟩
    · exact ⟨o, h⟩
theorem withS_same {V : Cfg} {T : BT} {x y : Int} {tx ty : Nat} {zs : List Value} {e i : Nat} {o : Obj} (h7 : T.get 7 = some (src V 4 x y tx ty)) (h4 : T.get 4 = some (lst ⟨zs⟩ e)) (h : (withS V T x y tx ty zs e).get i = some o) : T.get i = some o := by
  unfold withS at h
  rw [BT.get_set] at h
  split at h
  · rename_i q
    subst q
    rw [BT.get_set, if_neg (by decide), h4] at h
    rw [h4]; exact h
  · rw [BT.get_set] at h
    split at h
    · rename_i q
      subst q
      rw [h7] at h
      rw [h7]; exact h
    · exact h
/-- a draw, by a run of its own -/
theorem take_con {V : Cfg} {R₀ : Result → Shared → Prop} {o : Out} {m : Nat} {cs : List Nat} (O : V.Ok) {c : Code} (e : (laE o, codeE o, mE o) = (lbE o, some (c, none, none), m))
    {x y : Int} {tx ty : Nat} {zs : List Value} {ep : Nat} (h7 : (TE o).get 7 = some (src V 4 x y tx ty)) (h4 : (TE o).get 4 = some (lst ⟨zs⟩ ep)) (r : List Value) (n : Nat) (k : Tk)
    {o' : Out} (eo : o' = runQ (restV V r) Y1 0 n (subE o (withS V (TE o) x y tx ty zs ep) cs))
    (F : (laE o', resE o', gets m (TE o'), chE o', Nat.ble m (mE o')) = (lbE o', some (rtn (.int (.ofNat k.f) k.tf)), gets m (withS V (TE o) (.ofNat k.a) (.ofNat k.b) k.ta k.tb k.zs k.e), chE o, true))
    (q : ∀ N t, V.loc m ≤ N → ∃ ce, Sat (reb V m N t) R₀ (afterT V o { k with N := N, t := t } m ce)) : Sat V R₀ o := by
  refine stop_at e fun hn h D => ?_
  have e2 : codeE o = some (c, none, none) := congrArg (·.2.1) e
  have e3 : mE o = m := congrArg (·.2.2) e
  have D₁ : Rep (restV V r) h (withS V (TE o) x y tx ty zs ep) (mE o) (chE o) := by
    rw [e3]
    exact (rest_rep D).congr fun i o' z => withS_same h7 h4 z
  refine sub_sound (V := restV V r) (ce := cs) e2 ?_ D₁
  refine runQ_sound (restV_ok O r) Y1_ok (q := 0) (r := n) rfl ?_
  rw [← eo]
  cases o' with
  | more Γ p H κ t T m i ch ce la lb => cases congrArg (·.2.1) F
  | bad k => cases congrArg (·.2.1) F
  | done r' T' m' i' ch' ce' la lb =>
    have F1 : la = lb := congrArg (·.1) F
    have F2 : some r' = some (rtn (.int (.ofNat k.f) k.tf)) := congrArg (·.2.1) F
    have F3 : gets m T' = gets m (withS V (TE o) (.ofNat k.a) (.ofNat k.b) k.ta k.tb k.zs k.e) := congrArg (·.2.2.1) F
    have F4 : ch' = chE o := congrArg (·.2.2.2.1) F
    have F5 : Nat.ble m m' = true := congrArg (·.2.2.2.2) F
    injection F2 with F2
    subst F2 F4
    refine ⟨F1, fun h' D' => ?_⟩
    have D' := rest_rep' D'
    have hN : V.loc m ≤ h'.objs.size := by rw [D'.size]; exact O.le (Nat.le_of_ble_eq_true F5)
    obtain ⟨ce, q⟩ := q h'.objs.size (V.t₀ + i') hN
    refine ⟨_, _, _, _, _, q, rfl, ?_, rfl⟩
    refine D'.reb' (t := 0) (fun i ob z => ?_) (fun i hi => reb_loc_lt hi) rfl (by rw [reb_loc_ge (Nat.le_refl _), Nat.sub_self, Nat.add_zero])
    obtain ⟨ob', z'⟩ := withS_get z
    have hi := (D.own _ _ z').1
    exact ⟨hi, (gets_get F3 hi).trans z⟩
end Mine
end
section
open PySem PySem.W PySem.W.X PySem.Calls PyProof.Rows
open Sem (wp)
set_option maxRecDepth 100000
set_option linter.unusedVariables false
set_option linter.unusedSectionVars false
namespace Mine
def seqTok (T : BT) (j k : Nat) : Nat := match T.get j with
  | some o => match o.data with
    | .seq vs _ => match vs.toList.drop k with
      | .int _ t :: _ => t
      | _ => 0
    | .fields vs => match vs.toList.drop k with
      | .int _ t :: _ => t
      | _ => 0
    | _ => 0
  | none => 0
def resTok : Out → Nat
  | .done (.ok (.ret (.int _ t))) .. => t
  | _ => 0
def codeTok (o : Out) : Nat := match codeE o with
  | some (.call _ ⟨_ :: .int _ t :: _, _⟩, _, _) => t
  | _ => 0
def codeTok0 (o : Out) : Nat := match codeE o with
  | some (.call _ ⟨.str _ t :: _, _⟩, _, _) => t
  | _ => 0
noncomputable def runK (V : Cfg) (o : Out) (x : Int) (b tx ty : Nat) (zs : List Value) (e : Nat) (r : List Value) (cs : List Nat) : Out := runQ (restV V r) Y1 0 400 (subE o (withS V (TE o) x (.ofNat b) tx ty zs e) cs)
def nextB (b : Nat) : Nat := b * 40014 % 2147483563
def tkOf (o' : Out) (x M b : Nat) (zs : List Value) (e : Nat) : Tk := ⟨x % M, resTok o', x / M, seqTok (TE o') 7 1, b, seqTok (TE o') 7 2, zs, e, 0, 0⟩
abbrev FT : Type := List Ob × Option Result × List (Option Obj) × Ch × Bool
noncomputable def lhsF (o' : Out) (m : Nat) : FT := (laE o', resE o', gets m (TE o'), chE o', Nat.ble m (mE o'))
noncomputable def rhsF (V : Cfg) (o o' : Out) (m : Nat) (k : Tk) : FT := (lbE o', some (rtn (.int (.ofNat k.f) k.tf)), gets m (withS V (TE o) (.ofNat k.a) (.ofNat k.b) k.ta k.tb k.zs k.e), chE o, true)
/-- the four ways through a draw -/
noncomputable def lhsT (V : Cfg) (o : Out) (m M : Nat) (cA cB cC cD : List Nat) (b n tn ta tb e : Nat) (r zs : List Value) : FT × FT × FT × FT :=
  (lhsF (runK V o (.ofNat 0) b ta tb [] e [] cA) m, lhsF (runK V o (.ofNat 0) b ta tb (.int (.ofNat n) tn :: r.take 63) e r cB) m,
   lhsF (runK V o (.ofNat 0) b ta tb (.int (.negSucc n) tn :: r.take 63) e r cC) m, lhsF (runK V o (.ofNat (n + 1)) b ta tb zs e [] cD) m)
noncomputable def rhsT (V : Cfg) (o : Out) (m M : Nat) (cA cB cC cD : List Nat) (b n tn ta tb e : Nat) (r zs : List Value) : FT × FT × FT × FT :=
  (rhsF V o (runK V o (.ofNat 0) b ta tb [] e [] cA) m (tkOf (runK V o (.ofNat 0) b ta tb [] e [] cA) (nextB b / 11) M (nextB b) [] e),
   rhsF V o (runK V o (.ofNat 0) b ta tb (.int (.ofNat n) tn :: r.take 63) e r cB) m (tkOf (runK V o (.ofNat 0) b ta tb (.int (.ofNat n) tn :: r.take 63) e r cB) n M (nextB b) (r.take 63) (e + 1)),
   rhsF V o (runK V o (.ofNat 0) b ta tb (.int (.negSucc n) tn :: r.take 63) e r cC) m (tkOf (runK V o (.ofNat 0) b ta tb (.int (.negSucc n) tn :: r.take 63) e r cC) (n + 1) M (nextB b) (r.take 63) (e + 1)),
   rhsF V o (runK V o (.ofNat (n + 1)) b ta tb zs e [] cD) m (tkOf (runK V o (.ofNat (n + 1)) b ta tb zs e [] cD) (n + 1) M b zs e))
def Ints (zs : List Value) : Prop := ∀ v ∈ zs, ∃ z t, v = .int z t
/-- a draw, whatever it finds -/
theorem draw {V : Cfg} {R₀ : Result → Shared → Prop} {o : Out} {m M : Nat} {cA cB cC cD : List Nat} (O : V.Ok) (hM : 0 < M) {c : Code} (e : (laE o, codeE o, mE o) = (lbE o, some (c, none, none), m))
    {a b ta tb : Nat} {zs : List Value} {ep : Nat} (h7 : (TE o).get 7 = some (src V 4 (.ofNat a) (.ofNat b) ta tb)) (h4 : (TE o).get 4 = some (lst ⟨zs⟩ ep)) (hz : Ints zs) (hl : zs.length ≤ 63)
    (F : ∀ b n tn ta tb e r zs, lhsT V o m M cA cB cC cD b n tn ta tb e r zs = rhsT V o m M cA cB cC cD b n tn ta tb e r zs)
    (q : ∀ k : Tk, k.f < M → Ints k.zs → k.zs.length ≤ 63 → V.loc m ≤ k.N → ∃ ce, Sat (reb V m k.N k.t) R₀ (afterT V o k m ce)) : Sat V R₀ o := by
  have key : ∀ (x b : Nat) (zs : List Value) (ep : Nat) (o' : Out), Ints zs → zs.length ≤ 63 → ∀ N t, V.loc m ≤ N → ∃ ce, Sat (reb V m N t) R₀ (afterT V o { tkOf o' x M b zs ep with N := N, t := t } m ce) :=
    fun x b zs ep o' h1 h2 N t h3 => q { tkOf o' x M b zs ep with N := N, t := t } (Nat.mod_lt _ hM) h1 h2 h3
  cases a with
  | succ n =>
    have f := congrArg (·.2.2.2) (F b n 0 ta tb ep [] zs)
    exact take_con O e h7 h4 [] 400 _ rfl f (key _ _ _ _ _ hz hl)
  | zero =>
    cases zs with
    | nil =>
      have f := congrArg (·.1) (F b 0 0 ta tb ep [] [])
      exact take_con O e h7 h4 [] 400 _ rfl f (key _ _ _ _ _ (fun v h => nomatch h) (Nat.zero_le _))
    | cons v r =>
      obtain ⟨z, t, rfl⟩ := hz v (List.mem_cons_self ..)
      have hr : r.length ≤ 63 := by simp at hl; omega
      have er : r.take 63 = r := List.take_of_length_le hr
      have hi : Ints r := fun v h => hz v (List.mem_cons_of_mem _ h)
      cases z with
      | ofNat n =>
        have f := congrArg (·.2.1) (F b n t ta tb ep r [])
        have h4' : (TE o).get 4 = some (lst ⟨.int (.ofNat n) t :: r.take 63⟩ ep) := by rw [er]; exact h4
        exact take_con O e h7 h4' r 400 _ rfl f (key _ _ _ _ _ (by rw [er]; exact hi) (by rw [er]; exact hr))
      | negSucc n =>
        have f := congrArg (·.2.2.1) (F b n t ta tb ep r [])
        have h4' : (TE o).get 4 = some (lst ⟨.int (.negSucc n) t :: r.take 63⟩ ep) := by rw [er]; exact h4
        exact take_con O e h7 h4' r 400 _ rfl f (key _ _ _ _ _ (by rw [er]; exact hi) (by rw [er]; exact hr))
end Mine
end
section
open PySem PySem.W PySem.W.X PySem.Calls PyProof.Rows
open Sem (wp)
set_option maxRecDepth 100000
set_option linter.unusedVariables false
set_option linter.unusedSectionVars false
namespace Mine
abbrev TL : Type := List Ob × Option (Code × Option Value × Option Value) × Nat
def stopL (o : Out) : TL := (laE o, codeE o, mE o)
def stopR (o : Out) (c : Code) (m : Nat) : TL := (lbE o, some (c, none, none), m)
def codeOf (o : Out) : Code := match codeE o with
  | some (c, _, _) => c
  | none => .builtin "none" ⟨[], []⟩
def sliceAt (T : BT) (j : Nat) : Obj := { cls := .type "slice", data := .fields #[.none, .int 40 (seqTok T j 1), .none] }
def callB (id : String) (vs : List Value) : Code := .call (.builtin id) ⟨vs, []⟩
/-- the certificates of the draws -/
structure Cd where
  (a4 b4 c4 d4 a6 b6 c6 d6 a8 b8 c8 d8 : List Nat)
def doneTrue : Out → Bool
  | .done (.ok (.ret (.bool b))) .. => b
  | _ => false
noncomputable def tailL (V : Cfg) (n : Nat) (o : Out) : List (List Ob) × List Ob × Bool := ((loopF V Y1 100 n o [] []).la, laE (loopF V Y1 100 n o [] []).out, doneTrue (loopF V Y1 100 n o [] []).out)
noncomputable def tailR (V : Cfg) (n : Nat) (o : Out) : List (List Ob) × List Ob × Bool := ((loopF V Y1 100 n o [] []).lb, lbE (loopF V Y1 100 n o [] []).out, true)
/-- what the kernel says of the runs -/
structure Facts (kt : Params → KT) (C : Ce) (D : Cd) : Prop where
  f0 : ∀ s : S1, (stopL (q0 kt C s), (TE (q0 kt C s)).get 2) = (stopR (q0 kt C s) (callB "list.__getitem__" [.ref 1042, .ref ((U1 kt s).loc 2)]) 3, some (sliceAt (TE (q0 kt C s)) 2))
  h0 : ∀ s : S1, chLook (chE (q0 kt C s)) 1042 = none
  g0 : ∀ (s : S1) (x : Obj), (((TE (q0 kt C s)).ins 3 x).get 3).isSome = true
  f1 : ∀ s : S1, (stopL (q1 kt C s), (TE (q1 kt C s)).get 3) = (stopR (q1 kt C s) (.call (.type "list") ⟨[.ref ((U1 kt s).loc 3)], []⟩) 4, some (lst s.ys))
  g1 : ∀ (s : S1) (x : Obj), (((TE (q1 kt C s)).ins 4 x).get 4).isSome = true
  f2 : ∀ s : S2, (stopL (q2 kt C s), (TE (q2 kt C s)).get 5) = (stopR (q2 kt C s) (callB "list.__getitem__" [.ref 1042, .ref ((U2 kt s).loc 5)]) 6, some (sliceAt (TE (q2 kt C s)) 5))
  h2 : ∀ s : S2, chLook (chE (q2 kt C s)) 1042 = none
  g2 : ∀ (s : S2) (x : Obj), (((TE (q2 kt C s)).ins 6 x).get 6).isSome = true
  f3 : ∀ s : S2, (stopL (q3 kt C s), (TE (q3 kt C s)).get 6) = (stopR (q3 kt C s) (callB "sum" [.ref ((U2 kt s).loc 6)]) 7, some (lst s.ys))
  f4 : ∀ s : S3, ((obsQ (U3 kt s) Y1 31 (r4 kt C s)).1, stopL (q4 kt C s), (TE (q4 kt C s)).get 7, (TE (q4 kt C s)).get 4) =
    ((obsQ (U3 kt s) Y1 31 (r4 kt C s)).2, stopR (q4 kt C s) (codeOf (q4 kt C s)) 67, some (src (U3 kt s) 4 0 (1 + Int.fmod s.σ 9973) (seqTok (TE (q4 kt C s)) 7 1) (seqTok (TE (q4 kt C s)) 7 2)), some (lst s.ys s.e0))
  t4 : ∀ (s : S3) b n tn ta tb e r zs, lhsT (U3 kt s) (q4 kt C s) 67 2 D.a4 D.b4 D.c4 D.d4 b n tn ta tb e r zs = rhsT (U3 kt s) (q4 kt C s) 67 2 D.a4 D.b4 D.c4 D.d4 b n tn ta tb e r zs
  f5 : ∀ s : S4, stopL (q5 kt C s) = stopR (q5 kt C s) (callB "str.__getitem__" [.str ⟨#[97, 98]⟩ (codeTok0 (q5 kt C s)), .int (.ofNat s.k0.f) s.k0.tf]) 67
  f6 : ∀ s : S5, (stopL (q6 kt C s), (TE (q6 kt C s)).get 7, (TE (q6 kt C s)).get 4) =
    (stopR (q6 kt C s) (codeOf (q6 kt C s)) 67, some (src (U5 kt s) 4 (.ofNat s.k0.a) (.ofNat s.k0.b) s.k0.ta s.k0.tb), some (lst ⟨s.k0.zs⟩ s.k0.e))
  t6 : ∀ (s : S5) b n tn ta tb e r zs, lhsT (U5 kt s) (q6 kt C s) 67 2 D.a6 D.b6 D.c6 D.d6 b n tn ta tb e r zs = rhsT (U5 kt s) (q6 kt C s) 67 2 D.a6 D.b6 D.c6 D.d6 b n tn ta tb e r zs
  f7 : ∀ s : S6, stopL (q7 kt C s) = stopR (q7 kt C s) (callB "str.__getitem__" [.str ⟨#[97, 98]⟩ (codeTok0 (q7 kt C s)), .int (.ofNat s.k1.f) s.k1.tf]) 67
  f8 : ∀ s : S7, ((obsQ (U7 kt s) Y1 10 (r8 kt C s)).1, stopL (q8 kt C s), (TE (q8 kt C s)).get 7, (TE (q8 kt C s)).get 4) =
    ((obsQ (U7 kt s) Y1 10 (r8 kt C s)).2, stopR (q8 kt C s) (codeOf (q8 kt C s)) 91, some (src (U7 kt s) 4 (.ofNat s.k1.a) (.ofNat s.k1.b) s.k1.ta s.k1.tb), some (lst ⟨s.k1.zs⟩ s.k1.e))
  t8 : ∀ (s : S7) b n tn ta tb e r zs, lhsT (U7 kt s) (q8 kt C s) 91 11 D.a8 D.b8 D.c8 D.d8 b n tn ta tb e r zs = rhsT (U7 kt s) (q8 kt C s) 91 11 D.a8 D.b8 D.c8 D.d8 b n tn ta tb e r zs
/-- the last part's end -/
def EndOk (P : Par) (R₀ : Result → Shared → Prop) : Prop := ∀ (V : Cfg) h T m ch i, V.Ok → V.h₀ = P.h₀ → V.d = P.d → V.os = P.os → Rep V h T m ch → R₀ (rtn (.bool true)) (sh V h i)
theorem tail_sat {P : Par} {R₀ : Result → Shared → Prop} (hR : EndOk P R₀) {V : Cfg} (O : V.Ok) (h1 : V.h₀ = P.h₀) (h2 : V.d = P.d) (h3 : V.os = P.os) {n : Nat} {o : Out} (e : tailL V n o = tailR V n o) : Sat V R₀ o := by
  unfold tailL tailR at e
  have e1 := congrArg (·.1) e
  have e2 := congrArg (·.2.1) e
  have e3 : doneTrue (loopF V Y1 100 n o [] []).out = true := congrArg (·.2.2) e
  dsimp only at e1 e2
  rw [loopF_eq] at e1 e2 e3
  refine (loop_sound O Y1_ok 100 n o [] [] e1 ?_).2
  revert e2 e3
  generalize (loopE V Y1 100 n o [] []).out = x
  intro e2 e3
  cases x with
  | more Γ p H κ t T m i ch ce la lb => cases e3
  | bad k => cases e3
  | done r T m i ch ce la lb =>
    refine ⟨e2, fun h D => ?_⟩
    unfold doneTrue at e3
    split at e3
    · rename_i b _ _ _ _ _ _ _ q
      cases q
      subst e3
      exact hR V h T m ch i O h1 h2 h3 D
    · cases e3
/-- a way that the first letter decides -/
def TailA (kt : Params → KT) (C : Ce) (w x n : Nat) (ce : List Nat) : Prop := ∀ (s : S4) (tc N t : Nat) (k1 : Tk) (r1 : Sr) (k2 : Tk),
  tailL (U8 kt ⟨⟨⟨⟨s, ⟨⟨#[x]⟩, tc, N, t⟩⟩, k1⟩, r1⟩, { k2 with f := w }⟩) n (r9 kt C ⟨⟨⟨⟨s, ⟨⟨#[x]⟩, tc, N, t⟩⟩, k1⟩, r1⟩, { k2 with f := w }⟩ ce) =
  tailR (U8 kt ⟨⟨⟨⟨s, ⟨⟨#[x]⟩, tc, N, t⟩⟩, k1⟩, r1⟩, { k2 with f := w }⟩) n (r9 kt C ⟨⟨⟨⟨s, ⟨⟨#[x]⟩, tc, N, t⟩⟩, k1⟩, r1⟩, { k2 with f := w }⟩ ce)
/-- a way that the second letter decides -/
def TailB (kt : Params → KT) (C : Ce) (w x n : Nat) (ce : List Nat) : Prop := ∀ (s : S6) (tc N t : Nat) (k2 : Tk),
  tailL (U8 kt ⟨⟨s, ⟨⟨#[x]⟩, tc, N, t⟩⟩, { k2 with f := w }⟩) n (r9 kt C ⟨⟨s, ⟨⟨#[x]⟩, tc, N, t⟩⟩, { k2 with f := w }⟩ ce) =
  tailR (U8 kt ⟨⟨s, ⟨⟨#[x]⟩, tc, N, t⟩⟩, { k2 with f := w }⟩) n (r9 kt C ⟨⟨s, ⟨⟨#[x]⟩, tc, N, t⟩⟩, { k2 with f := w }⟩ ce)
/-- a way that no letter decides -/
def TailC (kt : Params → KT) (C : Ce) (w n : Nat) (ce : List Nat) : Prop := ∀ (s : S7) (k2 : Tk),
  tailL (U8 kt ⟨s, { k2 with f := w }⟩) n (r9 kt C ⟨s, { k2 with f := w }⟩ ce) = tailR (U8 kt ⟨s, { k2 with f := w }⟩) n (r9 kt C ⟨s, { k2 with f := w }⟩ ce)
end Mine
end
section
open PySem PySem.W PySem.W.X PySem.Calls PyProof.Rows
open Sem (wp)
set_option maxRecDepth 100000
set_option linter.unusedVariables false
set_option linter.unusedSectionVars false
namespace Mine
structure Tails (kt : Params → KT) (C : Ce) (cx : Nat → Nat → List Nat) (n : Nat) : Prop where
  a : ∀ w x, w ∈ [0, 3, 5] → x ∈ [97, 98] → TailA kt C w x n (cx w x)
  b : ∀ w x, w ∈ [1, 2, 4] → x ∈ [97, 98] → TailB kt C w x n (cx w x)
  c : ∀ w, w ∈ [6, 7, 8, 9, 10] → TailC kt C w n (cx w 0)
theorem letter {f : Nat} (h : f < 2) : ∃ c, (c = 97 ∨ c = 98) ∧ (seqIndex? (.ofNat f) (⟨#[97, 98]⟩ : Str).length).bind ((⟨#[97, 98]⟩ : Str).cps[·]?) = some c := by
  match f, h with
  | 0, _ => exact ⟨97, .inl rfl, by decide⟩
  | 1, _ => exact ⟨98, .inr rfl, by decide⟩
theorem ints_first {xs : Array Value} (h : AllInts xs) : AllInts (slicePick xs none (some 40) none) := by
  intro v hv
  unfold slicePick at hv
  rw [List.mem_toArray, List.mem_filterMap] at hv
  obtain ⟨j, _, hj⟩ := hv
  exact h v (Array.mem_of_getElem? hj)
theorem start_rep {kt : Params → KT} {P : Par} (O : P.Ok (kt P.w.params)) {V : Cfg} (hV : V.h₀ = P.h₀) {h : Heap} {T : BT} {m : Nat} {ch : Ch} (D : Rep V h T m ch) (hc : chLook ch 1042 = none) : h.get? 1042 = some (lst P.xs) := D.keep _ _ (by rw [hV]; exact O.scr) hc
section
variable {kt : Params → KT} {C : Ce} {D : Cd} {cx : Nat → Nat → List Nat} {nx : Nat} {R₀ : Result → Shared → Prop}
theorem split2 {α β : Type} {a a' : α} {b b' : β} (h : (a, b) = (a', b')) : a = a' ∧ b = b' := by cases h; exact ⟨rfl, rfl⟩
/-- from the third draw on -/
theorem chain8 (T : Tails kt C cx nx) (s : S8) (O : (U8 kt s).Ok) (hR : EndOk s.toPar R₀) (hw : s.k2.f < 11) (h0 : ∃ x, (x = 97 ∨ x = 98) ∧ s.r0.c = ⟨#[x]⟩) (h1 : ∃ x, (x = 97 ∨ x = 98) ∧ s.r1.c = ⟨#[x]⟩) :
    ∃ ce, Sat (U8 kt s) R₀ (r9 kt C s ce) := by
  obtain ⟨x, hx, ex⟩ := h0
  obtain ⟨y, hy, ey⟩ := h1
  have hx : x ∈ [97, 98] := by rcases hx with rfl | rfl <;> simp
  have hy : y ∈ [97, 98] := by rcases hy with rfl | rfl <;> simp
  obtain ⟨⟨⟨⟨s4, c0, tc0, N0, t0⟩, k1⟩, c1, tc1, N1, t1⟩, f, tf, a, ta, b, tb, zs, e, N, t⟩ := s
  dsimp only at hw ex ey
  subst ex ey
  have : f = 0 ∨ f = 1 ∨ f = 2 ∨ f = 3 ∨ f = 4 ∨ f = 5 ∨ f = 6 ∨ f = 7 ∨ f = 8 ∨ f = 9 ∨ f = 10 := by omega
  rcases this with rfl | rfl | rfl | rfl | rfl | rfl | rfl | rfl | rfl | rfl | rfl
  · exact ⟨cx 0 x, tail_sat hR O rfl rfl rfl (T.a 0 x (by simp) hx s4 tc0 N0 t0 k1 ⟨⟨#[y]⟩, tc1, N1, t1⟩ ⟨0, tf, a, ta, b, tb, zs, e, N, t⟩)⟩
  · exact ⟨cx 1 y, tail_sat hR O rfl rfl rfl (T.b 1 y (by simp) hy ⟨⟨s4, ⟨⟨#[x]⟩, tc0, N0, t0⟩⟩, k1⟩ tc1 N1 t1 ⟨1, tf, a, ta, b, tb, zs, e, N, t⟩)⟩
  · exact ⟨cx 2 y, tail_sat hR O rfl rfl rfl (T.b 2 y (by simp) hy ⟨⟨s4, ⟨⟨#[x]⟩, tc0, N0, t0⟩⟩, k1⟩ tc1 N1 t1 ⟨2, tf, a, ta, b, tb, zs, e, N, t⟩)⟩
  · exact ⟨cx 3 x, tail_sat hR O rfl rfl rfl (T.a 3 x (by simp) hx s4 tc0 N0 t0 k1 ⟨⟨#[y]⟩, tc1, N1, t1⟩ ⟨3, tf, a, ta, b, tb, zs, e, N, t⟩)⟩
  · exact ⟨cx 4 y, tail_sat hR O rfl rfl rfl (T.b 4 y (by simp) hy ⟨⟨s4, ⟨⟨#[x]⟩, tc0, N0, t0⟩⟩, k1⟩ tc1 N1 t1 ⟨4, tf, a, ta, b, tb, zs, e, N, t⟩)⟩
  · exact ⟨cx 5 x, tail_sat hR O rfl rfl rfl (T.a 5 x (by simp) hx s4 tc0 N0 t0 k1 ⟨⟨#[y]⟩, tc1, N1, t1⟩ ⟨5, tf, a, ta, b, tb, zs, e, N, t⟩)⟩
  · exact ⟨cx 6 0, tail_sat hR O rfl rfl rfl (T.c 6 (by simp) ⟨⟨⟨s4, ⟨⟨#[x]⟩, tc0, N0, t0⟩⟩, k1⟩, ⟨⟨#[y]⟩, tc1, N1, t1⟩⟩ ⟨6, tf, a, ta, b, tb, zs, e, N, t⟩)⟩
  · exact ⟨cx 7 0, tail_sat hR O rfl rfl rfl (T.c 7 (by simp) ⟨⟨⟨s4, ⟨⟨#[x]⟩, tc0, N0, t0⟩⟩, k1⟩, ⟨⟨#[y]⟩, tc1, N1, t1⟩⟩ ⟨7, tf, a, ta, b, tb, zs, e, N, t⟩)⟩
  · exact ⟨cx 8 0, tail_sat hR O rfl rfl rfl (T.c 8 (by simp) ⟨⟨⟨s4, ⟨⟨#[x]⟩, tc0, N0, t0⟩⟩, k1⟩, ⟨⟨#[y]⟩, tc1, N1, t1⟩⟩ ⟨8, tf, a, ta, b, tb, zs, e, N, t⟩)⟩
  · exact ⟨cx 9 0, tail_sat hR O rfl rfl rfl (T.c 9 (by simp) ⟨⟨⟨s4, ⟨⟨#[x]⟩, tc0, N0, t0⟩⟩, k1⟩, ⟨⟨#[y]⟩, tc1, N1, t1⟩⟩ ⟨9, tf, a, ta, b, tb, zs, e, N, t⟩)⟩
  · exact ⟨cx 10 0, tail_sat hR O rfl rfl rfl (T.c 10 (by simp) ⟨⟨⟨s4, ⟨⟨#[x]⟩, tc0, N0, t0⟩⟩, k1⟩, ⟨⟨#[y]⟩, tc1, N1, t1⟩⟩ ⟨10, tf, a, ta, b, tb, zs, e, N, t⟩)⟩
theorem src_at {V : Cfg} {T : BT} {x y : Int} {u v : Nat} {a b : Nat} (h : T.get 7 = some (src V 4 x y u v)) (hx : x = .ofNat a) (hy : y = .ofNat b) : T.get 7 = some (src V 4 (.ofNat a) (.ofNat b) u v) := by rw [← hx, ← hy]; exact h
theorem seed_nat (σ : Int) : ∃ b : Nat, 1 + Int.fmod σ 9973 = .ofNat b := by
  have h : 0 ≤ Int.fmod σ 9973 := Int.fmod_nonneg_of_pos σ (by decide)
  refine ⟨(1 + Int.fmod σ 9973).toNat, ?_⟩
  show _ = (((1 + Int.fmod σ 9973).toNat : Nat) : Int)
  omega
/-- from the second letter on -/
theorem chain7 (F : Facts kt C D) (T : Tails kt C cx nx) (s : S6) (O : (U6 kt s).Ok) (hR : EndOk s.toPar R₀) (hf : s.k1.f < 2) (hi : Ints s.k1.zs) (hl : s.k1.zs.length ≤ 63) (h0 : ∃ x, (x = 97 ∨ x = 98) ∧ s.r0.c = ⟨#[x]⟩) :
    Sat (U6 kt s) R₀ (r7 kt C s) := by
  refine runQ_sound (q := 0) (r := 2) O Y1_ok rfl ?_
  obtain ⟨c, hc, hc'⟩ := letter hf
  refine sign_con O (ce := C.c8) (F.f7 s) (by omega) hc' fun tc N t hN => ?_
  have s7 : ∃ s7 : S7, s7 = ⟨s, ⟨⟨#[c]⟩, tc, N, t⟩⟩ := ⟨_, rfl⟩
  obtain ⟨s7, e7⟩ := s7
  have O7 : (U7 kt s7).Ok := by rw [e7]; exact reb_ok O (Nat.le_refl 67) hN
  have key : Sat (U7 kt s7) R₀ (r8 kt C s7) := by
    obtain ⟨g1, g2⟩ := split2 (F.f8 s7)
    obtain ⟨g2, g3⟩ := split2 g2
    obtain ⟨g3, g4⟩ := split2 g3
    refine runQ_sound (q := 10) (r := 99) O7 Y1_ok g1 ?_
    have hs : s7.toS6 = s := by rw [e7]
    have h1 : ∃ x, (x = 97 ∨ x = 98) ∧ s7.r1.c = ⟨#[x]⟩ := ⟨c, hc, by rw [e7]⟩
    rw [← hs] at hi hl h0 hR
    refine draw O7 (M := 11) (by decide) g2 g3 g4 hi hl (F.t8 s7) fun k hk hki hkl hkN => ?_
    rw [hs] at h0
    have h0 : ∃ x, (x = 97 ∨ x = 98) ∧ s7.r0.c = ⟨#[x]⟩ := by rw [e7]; exact h0
    exact chain8 T ⟨s7, k⟩ (reb_ok O7 (show 67 ≤ 91 by decide) hkN) hR hk h0 h1
  rw [e7] at key
  exact key
/-- from the second draw on -/
theorem chain6 (F : Facts kt C D) (T : Tails kt C cx nx) (s : S5) (O : (U5 kt s).Ok) (hR : EndOk s.toPar R₀) (hi : Ints s.k0.zs) (hl : s.k0.zs.length ≤ 63) (h0 : ∃ x, (x = 97 ∨ x = 98) ∧ s.r0.c = ⟨#[x]⟩) :
    Sat (U5 kt s) R₀ (r6 kt C s) := by
  obtain ⟨g2, g3⟩ := split2 (F.f6 s)
  obtain ⟨g3, g4⟩ := split2 g3
  refine runQ_sound (q := 0) (r := 37) O Y1_ok rfl ?_
  refine draw O (M := 2) (by decide) g2 g3 g4 hi hl (F.t6 s) fun k hk hki hkl hkN => ⟨C.c7, ?_⟩
  exact chain7 F T ⟨s, k⟩ (reb_ok O (Nat.le_refl 67) hkN) hR hk hki hkl h0
/-- from the first letter on -/
theorem chain5 (F : Facts kt C D) (T : Tails kt C cx nx) (s : S4) (O : (U4 kt s).Ok) (hR : EndOk s.toPar R₀) (hf : s.k0.f < 2) (hi : Ints s.k0.zs) (hl : s.k0.zs.length ≤ 63) : Sat (U4 kt s) R₀ (r5 kt C s) := by
  refine runQ_sound (q := 0) (r := 2) O Y1_ok rfl ?_
  obtain ⟨c, hc, hc'⟩ := letter hf
  refine sign_con O (ce := C.c6) (F.f5 s) (by omega) hc' fun tc N t hN => ?_
  exact chain6 F T ⟨s, ⟨⟨#[c]⟩, tc, N, t⟩⟩ (reb_ok O (Nat.le_refl 67) hN) hR hi hl ⟨c, hc, rfl⟩
/-- from the first draw on -/
theorem chain4 (F : Facts kt C D) (T : Tails kt C cx nx) (s : S3) (O : (U3 kt s).Ok) (hR : EndOk s.toPar R₀) (hi : AllInts s.ys) (hl : s.ys.size ≤ 63) : Sat (U3 kt s) R₀ (r4 kt C s) := by
  obtain ⟨g1, g2⟩ := split2 (F.f4 s)
  obtain ⟨g2, g3⟩ := split2 g2
  obtain ⟨g3, g4⟩ := split2 g3
  refine runQ_sound (q := 31) (r := 78) O Y1_ok g1 ?_
  obtain ⟨b, hb⟩ := seed_nat s.σ
  have g4 : (TE (q4 kt C s)).get 4 = some (lst ⟨s.ys.toList⟩ s.e0) := g4
  refine draw O (M := 2) (by decide) g2 (src_at (a := 0) g3 rfl hb) g4 (fun v hv => hi v (Array.mem_toList_iff.mp hv)) (by simpa using hl) (F.t4 s) fun k hk hki hkl hkN => ⟨C.c5, ?_⟩
  exact chain5 F T ⟨s, k⟩ (reb_ok O (show 7 ≤ 67 by decide) hkN) hR hk hki hkl
/-- the whole call -/
theorem chain (F : Facts kt C D) (T : Tails kt C cx nx) {P : Par} (O : P.Ok (kt P.w.params)) (hx : AllInts P.xs) (hz : P.xs.size ≤ 63) (hR : EndOk P R₀) (p : Pos) : Sat (V1 (kt P.w.params) P) R₀ (o0 p C.c0) := by
  have s1 : ∃ s1 : S1, s1 = ⟨P, p, slicePick P.xs none (some 40) none⟩ := ⟨_, rfl⟩
  obtain ⟨s1, e1⟩ := s1
  have eP : s1.toPar = P := by rw [e1]
  have ep : s1.p = p := by rw [e1]
  have ey : s1.ys = slicePick s1.xs none (some 40) none := by rw [e1]
  rw [← eP] at O hx hz hR ⊢
  rw [← ep]
  have hyi : AllInts s1.ys := by rw [ey]; exact ints_first hx
  have hyz : s1.ys.size ≤ 63 := by rw [ey]; exact Nat.le_trans (slicePick_size_le _ _ _ _) hz
  have O1 : (U1 kt s1).Ok := cfg_ok O (Nat.le_refl _) (fun i h => absurd h (Nat.not_lt_zero _)) fun i j _ h => absurd h (Nat.not_lt_zero _)
  refine runQ_sound (V := U1 kt s1) (q := 0) (r := 26) O1 Y1_ok rfl ?_
  obtain ⟨a1, a2⟩ := split2 (F.f0 s1)
  refine first_con O1 (ce := C.c1) (xs := s1.xs) a1 a2 (fun h D => start_rep O rfl D (F.h0 s1)) (Nat.le_trans hz (by decide)) (Nat.zero_le _) (F.g0 s1 _) ?_
  rw [← ey]
  refine runQ_sound (V := U1 kt s1) (q := 0) (r := 2) O1 Y1_ok rfl ?_
  obtain ⟨b1, b2⟩ := split2 (F.f1 s1)
  refine copy_con O1 (ce := C.c2) b1 b2 (Nat.le_trans hyz (by decide)) (Nat.zero_le _) (F.g1 s1) fun N t c hN => ?_
  have O2 : (U2 kt ⟨s1, N, t, c⟩).Ok := reb_ok O1 (Nat.zero_le 5) hN
  refine runQ_sound (V := U2 kt ⟨s1, N, t, c⟩) (q := 0) (r := 14) O2 Y1_ok rfl ?_
  obtain ⟨c1, c2⟩ := split2 (F.f2 ⟨s1, N, t, c⟩)
  refine first_con O2 (ce := C.c3) (xs := s1.xs) c1 c2 (fun h D => start_rep O rfl D (F.h2 ⟨s1, N, t, c⟩)) (Nat.le_trans hz (by decide)) (show 5 ≤ 6 by decide) (F.g2 ⟨s1, N, t, c⟩ _) ?_
  rw [← ey]
  refine runQ_sound (V := U2 kt ⟨s1, N, t, c⟩) (q := 0) (r := 2) O2 Y1_ok rfl ?_
  obtain ⟨d1, d2⟩ := split2 (F.f3 ⟨s1, N, t, c⟩)
  refine total_con O2 (ce := C.c4) d1 d2 hyi (show 5 < 7 by decide) (congrArg Option.isSome d2) fun σ tσ N' t' hN' => ?_
  exact chain4 F T ⟨⟨s1, N, t, c⟩, σ, tσ, N', t'⟩ (reb_ok O2 (show 5 ≤ 7 by decide) hN') hR hyi hyz
end
end Mine
end
section
open PySem PySem.W PySem.W.X
set_option maxRecDepth 100000
namespace Mine
/-- the certificates: a hundred numbers to a numeral -/
noncomputable def unp (tl cs : List Nat) : List Nat := @List.rec Nat (fun _ => List Nat) tl (fun n _ ih => @Nat.rec (fun _ => Nat → List Nat) (fun _ => ih) (fun _ f n => Nat.mod n 544 :: f (Nat.div n 544)) 100 n) cs
noncomputable def p0 : List Nat := unp [] [0x3738c6c9220146da88000]
noncomputable def p1 : List Nat := unp [] []
noncomputable def p2 : List Nat := unp [] [0x48400]
noncomputable def p3 : List Nat := unp [] []
noncomputable def p4 : List Nat := unp [] [0x1c06e59026cb5ba1b7bbf47e4295fa0f503d2ca6eea9a071068f0d358a86da97356b62d9673129708372cba4ceb295ee358ad1b1e5a62bd0e8a9adaac1afbbd695ed8b1fc66914bd8079cfae03df3d0178d5950dbc4ee74df50000000000000000000000000000000056d20c200000, 0x9ff65f2389c538b3d2436e0e0ba8dab97be6a9d49dca5a0df2c6439108d737982c0563636d072c6320ac0c3f8e482b09b8033b38abcec7a5c93417b8d4bfc89379bae4b28a0201df3f55a16932ffd3a019a7649e542d2800, 0x1276bee9e31063e22f6f90985ea8e84b8495c61f9cfd9fa28ebdc568d107224ab458733f670f2e50c32e3ff923fbd1a6a1e4ba30ca87cb0f509fb019c38469e0b23aea6b92fb862fda55e3ce2fa7a3e2b8f652c18f15a1fb7efe4f6fa46bcf3d055dfd468e91d700000000000000, 0x3b6fd784895ea9604882d179dd02201da828d2ad592d664d6a87061c457a4b8c4151434ee81e41648217de2dbd528397e1dd1739be41198491d0940ec7ecc9942c9231be24cd37a43f12ef40ae52563cbedfd65147c2c454518a676aa5d061340b618df709ab7854d04116f0f8e01dc0, 0xe99d14ad0229ed44c70096db2a34543e68624c50954fa6fede647fa1ae393a27167955ccdc06da1361c5b146847728525640cbd40334e2b283d363517c55af54688f3378abe4a56c991db2f08e254290160f59967f41f38cf329d547d3cecd3505ff51540, 0x1a53381b8518e5a83429a22257f51aa584272536b5838ea2e81ae993a80e3495154562b5f66235cf2d56cca63ec9df81f6a16e28ba45de3df3dfc1756ffea061051ee1d41ec995dc13a9b4d86c03a152caf632428c6c09991fbe45651ed2dde50000000000000000000000000000, 0x7e8919d128728536d1e81316a88267a78e773521035e6a7c4d8fc698fc8de23a86afd36bbc6395a17195838a4cef534e28d479179d71b6b84df2dfb61c411f218a84f220e3c65f525a4fc7eed7b9999d6bb324dc3481d1cfe38fe8b77f2bf0761959b9b6c93612e38090dc96d2add74c14, 0x7e4da9f9aa17f0907fa6a8052ed773d5a66575c126bd27d7be27b00a8ae2ef2522a1c9aa43d822a791650bdc13d01e5dbd0a661ab335bbb64c462866d19af6ec1a31770b31c58dd8b85d1f01e244118964513cf93871b8d27cb2a7be31b792af0a7607dc2a2a1657b4ddb540cbe8a01320, 0x7e4da9f9aa17f0907fa6a8052ed773d5a66575c126bd27d7be27b00a8ae2ef2522a1c9aa43d822a791650bdc13d01e5dbd0a661ab335bbb64c462866d19af6ec1a31770b31c58dd8b85d1f01e244118964513cf93871a6ad241b86fc5dc834044a29b3d9996f7a60572129b22ef7353720, 0x7e4da9f9aa17f0907fa6a8052ed773d5a66575c126bd27d7be27b00a8ae2ef2522a1c9aa43d822a791650bdc13d01e5dbd0a661ab335bbb64c462866d19af6ec1a31770b31c58dd8b85d1f01e244118964513cf93871a6ad241b86fc5dc834044a29b3d9996f7a60572129b22ef7353720, 0x59ab771dc1c08213304b662118e2ed8ae9b71ef4986ec6ae6ae8e36d4b19a8a21b5cc8600180618649b7c7fddfea6bef67efede233fa947a7aea6cd158375cf8369aee49effe840cd3e5305ad28c4168f5776f4d9e053ed7d6bb9d3282725be7cb32a66dd856ae1a01f2919c953720, 0x28cdca2aa7e6972b1da6ee820849991f1f53dac5e057f18146fe00d1057d34804a1339e53c3bdcae6182458e5d2b4bd21de79986462d7eca9a28e5b64dcf0344742b542cd9ca23c3c10cbbf0d8b6a831cbc013431b8d0c113413ff039020053a9b595c7cf7ddbb974578008c4020, 0x1656fd44c10d949a5f2a45571b79e919329da3c3c0a8f188c779f31839fd6d326739f92e7b974035ca2445c7b2c42236b990abebb2c75f0c5fc74cdd8abc382f273c906db025a2d0294c1c12417c6db6ea3b1e61c8d1f5e347ced643657779f5f4c2f43df742abd428da46781f, 0x80a9ef0680e9af3fb225153b0da8826b3e681c17b5edf40e5b45139f71ae9ddfff260d7bbec46eaa648ce61d2c9a1887a067df27cecee4103141fb8480139fe84a370582c5248a5520357460b6c94b28a9217b9bb80000000000000000000000000000000038f35d404d28c0000000, 0x7e4da9f9aa17ef315776591f6f4ef349623dc1aff7576a5bc3d7054cd5c17a3cd715180f542e4c78309064cf4fea9a2bddea14e03ea2ceb2cc363f2e1b89abdd90ce2d05302ce184de683db0cddeb28973cd4cdffe388594ba722dcb2bf2e54a627360910515eb1df6374c7223809ee1c0, 0x29d686b44b1777a4af588efb01c1ad37335cd43e1b3baa0278d7a8ed3ac4755924d7f3463c5e0e683e848e6036e353041ec7ec96ab283a835b74c21305871fe3b52c0904adc1e864744c2ad4e03f8f9c6d3064056c8a78926cc2dd0780b5c9a505ecefaabf5c2f2cc95003a1400c012a40a, 0x45c2ee48ed81fa30f0a1874168f2961255ad45e43600b73e04c42f4bc05b3456b3aee843c7ef2a6cc9d9375e99ee24726c73f0415dfcbfe3e6bb2e38096765f950b76032649cd86aaaaf1088cb8ed1b647f99074785a9a711affe1f847b2eedf2e492799d29071aac000000070a0, 0xd6bd2edca3725ccc09de25d6553a701b983420e32558ff852483e601bbea140411e766ce592d2ff9d1516328c50a940660b7264ca34459920c2344b29116c4c069c34da1cfd06b66454d96027163c2cb61f97a80da48d55529e27fbb21b6a70caf60c8ac868e54147e5b05ac5f324d035, 0x303d2ac718e6da78102a1297cc2877f0bfa2aca1a21859a183807d0ac11184ac4a3b09cf5445d8aa149210f63d96922584270d3b1a9908d6042726b4db8fd85f76f0c13f050428fbe404b0a26b23c0000000000000000003447c47955579414a62ac1f73f77d98b487adc5c13d840048401, 0x1649f0d1b49ad0197ff03bc4ade9c925b3f24b27481fdaa6fa37359fa06a0d401ebc7423e09f547cdc7d1219afad425b92a76ddebd9e92c82072bba132ae87a7564394a966886af21e8acb33b2d15d0f725f8a5da1e389b4aa3cb75e4ca3aee6948f699955d411cd045d426af00007fbd, 0x13d2cb3e9ae3cf4776cdfb7235b54ebe47612c3cf326b37cb28baa40ba19b69aa2355b5c147469681f8083187d17f91c848bb0a36ed6e4255a526083fc3ac79582081a1e3980f34fccaa75c7659bcc272ac3c1d2466d9b78b937262c0605a8961cdf8de503db540cbf343699b]
noncomputable def p5 : List Nat := unp [] []
noncomputable def p6 : List Nat := unp [] [0xe4a1c80c9bd69b0ca208fe0bfc2233a547da5e9e09718c40]
noncomputable def p7 : List Nat := unp [] []
noncomputable def p8 : List Nat := unp [] [0x3ce53b828b4615d56c4dbe3d80bf985e82e21ec91ae4fc3d08256cc48df6d4a734ac2cb651b885be1d68c6260f8e162adfae025e16a7bee9ac1a05ecdc90634443eb6aa12769c1890d29d56bd60c96ed0d98ffc7731cc1661d48ce4f384eca7caa24f1b4f786c5c14a547da5e9e09718c40, 0xd49331de39290b47d869ca0885c0913fa8ada982d828c3342621e5502021701dd64e552232d3ad3c35cfca8048966b50a0c0d02b0ca067c339d9a9a5975a8d3d66a479d60f212b92c71bcaf124bdf0dab1d0b2935ab88a3a76b29c121ecc038804495ae8d542962f3ce34513ae804d, 0x3e5cccef816838ce5b4ebedf3443543c5f655ab6bf0f77e353caa361d02875d10e4bb62ee22b807b1e9f13c8ca03bd08c5a51d6418f62adc2c36b0475cdf231e50cb6013530faa71544644f250a04372b1df237f8fe00000000000000000000000000000473cdde5e3e3b7ca0c7965e2180, 0x4a9ef2cbb94d36fc72eda4a7fcbfbf53e40cbdcc500517054d92420d4da3a74251bcb4df90f8241a62fbd0075d198bb0bbd6ab55d1289b079959b2174115afa2fe7a74aac7d277635b92e29e539ff5df8554ea82cc9375d0f119cb512a229692854bbefb42d31fd20f8000, 0x1f936a7e68fa4a5422c650241a13cb0d8f29ea70a1393853f7bb3544ffe9109798993e79bf3830b3db825d4fd18b2ec77f00b2bbeff0a130840ec67019cc70f77cc33bfadde9c2ef2219187b190922807db14c19bb5565b22bbe1e528bab1500000000000000000000000000000000000, 0xc1231223e42443c16de735b23a5d1f49732ba60e474a4700a1a2d8ec33c8311f49e0583f67c14dc8927177494ba91042b8522a3feb1f1afaae69ae8af4b2dcb01a12950e40b4f5a5f9e82843a94b40dfd6b41e1e3549aaca2d6659fcf8367e6b4f7e2e4c2f42b2fa334a0, 0x740bb0e5f80570d0b2560513223b06ea4fc95adcc6f40e4fb9da75383cf82f5b697bf800413672810f1a285e601c8d54a3e15b6a923ee5bdecf93f28a48a29388033ad6013246cc7e69dc5731be2289b1284674aa64021ed9082973145f92eeba6d0516aff468c7118fcb3266400, 0x3ed8712d38778743e1c93a3b053d9e49cbc3ecad939fd7bdc6f51854b982164d06d9586580bb00]
noncomputable def sa4 : List Nat := unp [] [0x35b0c76f2190860ce38e10e7fe20cb5cfc551e377b151d8a0efc06462bc0ae9f467de431e1e2ef48ef9254e225b7823db921f2b6c5f2d4230c2593ab5d2cf7f220ce808124aeee0e87dde978b8fe6c8a19fb02e2a02aa20e9c2046ab4af7c136ac238d235e519c61a01e7714d5928c20000, 0x66180543ed4163b9eb53872e10126e5def20c7724ffd4cc805a0d2fd6d378e71fb39cb5a48c5d3f8a7699a75cc41108]
noncomputable def sb4 : List Nat := unp [] [0x650b04c1a6051efc0ab62726727965709e6007e520cd6c917a633c2c9abe2e2dd95b67867fc3196366b22dfa36a9cc86a0699ceaff2b337afcb24779b92c6c04ef2ef0c50fc5bd2c403bd9c8ec66c8a19fb02e2a02aa20e9c2046ab4af7c136ac238d235e519c61a01e7714d5928c20000, 0xd8f30b30582af3eb14117f41e2272a879c25a7d2e9fa43290bf5c05a88160eb235dad01fdaa4627063c0683a520a43144]
noncomputable def sc4 : List Nat := unp [] [0x650b04c1a6051efc0ab62726727965709e6007e520cd6c917a633c2c9abe2e2dd95b67867fc3196366b22dfa36a9cc86a0699ceaff2b337afcb24779b92c6c04ef2ef0c50fc5bd2c403bd9c8ec66c8a19fb02e2a02aa20e9c2046ab4af7c136ac238d235e519c61a01e7714d5928c20000, 0x3d3a97e864e21f571869f02a58138dc0c5d1a09d4688e17455a01b898ce839a5cbb3013cfd74e4c838270d6a75a7656e771000]
noncomputable def sa6 : List Nat := unp [] [0x35b0c76f2190860ce38e10e7fe20cb5cfc551e377b151d8a0efc06462bc0ae9f467de431e1e2ef48ef9254e225b7823db921f2b6c5f2d4230c2593ab5d2cf7f220ce808124aeee0e87dde978b8fe6c8a19fb02e2a02aa20e9c2046ab4af7c136ac238d235e519c61a01e7714d5928c20000, 0x66180543ed4163b9eb53872e10126e5def20c7724ffd4cc805a0d2fd6d378e71fb39cb5a48c5d3f8a7699a75cc41108]
noncomputable def sb6 : List Nat := unp [] [0x650b04c1a6051efc0ab62726727965709e6007e520cd6c917a633c2c9abe2e2dd95b67867fc3196366b22dfa36a9cc86a0699ceaff2b337afcb24779b92c6c04ef2ef0c50fc5bd2c403bd9c8ec66c8a19fb02e2a02aa20e9c2046ab4af7c136ac238d235e519c61a01e7714d5928c20000, 0xd8f30b30582af3eb14117f41e2272a879c25a7d2e9fa43290bf5c05a88160eb235dad01fdaa4627063c0683a520a43144]
noncomputable def sc6 : List Nat := unp [] [0x650b04c1a6051efc0ab62726727965709e6007e520cd6c917a633c2c9abe2e2dd95b67867fc3196366b22dfa36a9cc86a0699ceaff2b337afcb24779b92c6c04ef2ef0c50fc5bd2c403bd9c8ec66c8a19fb02e2a02aa20e9c2046ab4af7c136ac238d235e519c61a01e7714d5928c20000, 0x3d3a97e864e21f571869f02a58138dc0c5d1a09d4688e17455a01b898ce839a5cbb3013cfd74e4c838270d6a75a7656e771000]
noncomputable def sd6 : List Nat := unp [] [0x637234b19019efed6d00c54611c2ad2819460ba57d560d308f82472650e1c9f68c8a333a91b84977af245cc238d235e519c61a01e7714d5928c20000]
noncomputable def sa8 : List Nat := unp [] [0x48a2d421608ca8e85e796141cd8d6785eed6129a08fb04efba96acb9a697078b82b35d3bfc65f815d177abf6fadee0f0b3c950bfa48200c9d4d0c2aa0d3e2174371bd404e54979cab43f7708edbb800026401f1f4b6237b1e8fa4c3e665f27935e3d26108311a18ef2c1dca3b78a08e0000, 0x8a1e80111e29dfaac3f05ad0fd72ceec97ecd5464a86508a92b457f463bf446bb018674fca4843a7122b1a75cc41108]
noncomputable def sb8 : List Nat := unp [] [0x650b04c1a6051efd974ff74f5ff77071f9502d67a8ab319041473f8ed7922809051a85ae184013097bd6b31d5913bc1a0d9c292800b92378991065aacc828ae2dbb639d6fa8b46abf33a497eeb3800026401f1f4b6237b1e8fa4c3e665f27935e3d26108311a18ef2c1dca3b78a08e0000, 0x12580d0246018fb4ae05ec0fc1a93f7b6c2d745355e5d6b2677bf3ae753f67164d633db898dd98fc3069b983a520a4315c]
noncomputable def sc8 : List Nat := unp [] [0x650b04c1a6051efd974ff74f5ff77071f9502d67a8ab319041473f8ed7922809051a85ae184013097bd6b31d5913bc1a0d9c292800b92378991065aacc828ae2dbb639d6fa8b46abf33a497eeb3800026401f1f4b6237b1e8fa4c3e665f27935e3d26108311a18ef2c1dca3b78a08e0000, 0x52d59abe441f0cebe1d2bdf7268042a9547d41484fe1dd7d9b4bb85fc9724d80b57422b59248a6d2ca9d69b675a7656ee37000]
noncomputable def sd8 : List Nat := unp [] [0x86898234d7c0bdb6c7ce30e4056b7bc5662b29fc622bd4836a27d5447047bd68aa0938e1cd5fc3be35d273e3d26108311a18ef2c1dca3b78a08e0000]
noncomputable def C0 : Ce := ⟨p0, p1, p2, p3, p4, p5, p6, p7, p8⟩
noncomputable def D0 : Cd := ⟨sa4, sb4, sc4, sd6, sa6, sb6, sc6, sd6, sa8, sb8, sc8, sd8⟩
noncomputable def y0 (tl : List Nat) : List Nat := unp tl [0x4b20b96b1fe36277d5c212e4d45032b5315b77b549d8fab47bb0961f8c4bb30f3d4d4d3123851b1ce015853e24ccaa848de541e7d65aa443a6c19cefbf567d6679f2b6c1f13152b917c4e57ac92c11b327330a5d7bf2b0e7f81fde000000000000000000000000000000000000000000221, 0x2467bc110ebbb71c8525bef5a61113142effe5c9d64daa6f913ae6f241c6d949a1e47cc66f6d243c5eda0af2601900a323125a229f2bd5a6c296bb92d82cb37710a9d2e372b4f4c82db358b3eff4ffed5a0b2351080b170c77dc06c8bbb8ea9800bd3f0d449d602797e7709678000c81f, 0x4cb662356831b2b691fb8df18d8c1a0df7a4dfeeb103d9d2cb15aea1d6d95dc282b423ed5b88b9712873cab09a0ef127dfd0e083ad9a7ce7feaeb878aefd5a13ecabedb2822006cb17a06cc4685949ce945e5bc8b0dfa2ef6ef0ff7b611d68e3120cdd7dd77eda0b5ca1d63189800000000, 0x3feb02e00f5d812d99089dd6feb21a274d1422b0522bc29cc8c88edff983fa4c5dbfddfade4ff9d5be918236b40dc9cce8f3f0e086ce74eb6bbe8348e09d5e549d2dd76533df29f5eae000000000000000000000f35764405274876a3eb409f67f74ba59ba942fd8c88000d0a3, 0x133ac9fc1a392fc1de1a696f16328229b82855ad9e581df5d8c7ec07409d3c773c390458302e30be32e651df0f6812370e96073c102866b345be5a72c04a5f0532432eb8000000042eb4a4c915d99d5084c6ce90e6fc3ea571f233b238dacdcf6a01eb232e4c6a251dc4f110a5b8067, 0x489b01be67add0e565f0cee05042a4b3e28c522bba883f8626790d2fc731f7b15414997954da1e29e8542814f1817edfa503da97a05419ab7484a9a1609e4146d9082c0379f5ea361109cb8ace33dadce2f9b658a46016fe293eff1e1cff084fa7fcc2ee99a00764776abf69c0, 0x604e6b34c4e5743afaef1350c0844852e872e99bda18a5a8067985197836a0c8bef816e80abed257578a32367f97d87cab380ef89eca65834886ea0d722e4ecc267b5f48410afa000000006b678656f50a74a0100c429a957d57e1485a456360eec015f4bd935a40ccaf8dc6db26cb28075, 0x30027f95454dec98b1cf4c11400f2d39cbda08fa8315922425cf392a283ad384dbb93bf3e5913683826f0c640068cb8e33a24a5988caac226cef882d34521385c1e52c5193aa78431ee60b0a0e9c2c6191c6e4129edde7fd0685871ec33cb5c147a6c1036de34d2d558f65088f4e7e520, 0x836103e437df9e0a40e2ac0b0f4fc828eb0dc101306043199f2e9798e816f49980e1cfabf7f3905c9bcd1f1812a8a6358a4fb593530d9069d5438484aa09f788719c788e0d7b8d64300fd15d88000, 0x437c3040d0bb764081f9240e7ad457507bb1399282192279cba73226eb13f51c831aa5294b3f32f27b971691054b1a60f4f569cc3e1ac998866dcf21265af3a2924d0bafd3f67c29c628cfcdb69b636f3d73a24030ea95b728800000, 0x7116aff856ed8be0ecb6c806493cfe24e0f6f0c1fa7074b125187952b35470b5dc2152480a961c7fac24058be317bb795a1e085df5f17ee77226c3253163b30a15b880292d447ef7a71904dd666077d4ed49656b8bcf78c7b5a565c353f50bb92dac6fbf09724dd70000000000000000000, 0x369b8e0775759134e4331f0cf3e6d814059094a25bd7eb7623849bd54d591e49fb77a2f7d358b2a830a27b2ea94c8972cea72fba3abf3cdd8ae6797ce8a6b18bdbee86001618e4341a51c5443090368eaf5f232af9c77de9b23f9b499dea75e32f5808cb02a7e5f1b121f96f1dc00008e, 0x77fcfb138eea4da3c3c0bb5a32458c3501886f6582d0001cd99f5c6525593c6062fbaff91772d8f8b702f2469ef64798916af4a57ab6e76ee2a8b50faf015679d8420a301c652076970d61ea49779fa19ee98c83446e1b5a3c2a5704ff75358789f50541b7b3bc7d316611c4299f5300093, 0x39f372213bf8e9dbe63d683290f97162070efffc1f20ca2ee0b44cf8f2036ba51b6ce9d163a692f0d89e2df5d17397382f973fbfa9a40500e2744a2d23ad7d2e7fcbd793688ee00000000041cb19b15f938e794a3c10bf03e91d2ce5d05551bc5adef2be057e03d498048a41b6c2e6000, 0xa8596fa4138648bfe07b80f1998c0979853eb03afdcc617bc2482104a59b55419abf71e2640595f0897e1fa3f0271d16169d70187e1a9bf36d5b79d1468e99539834cb30b86aa28b093f628a20f9087ed353192ffb20554d292e9da262664a8454f388a7419fb13b5fb, 0x1b9d85c8d6cd64e5cc300307e126bf769009aa50099f4d306347a64a652ebb429a5399d253587985230a27ecc5e12b53c0e35830caa2df949348064d95287b136000f0e27bdbe82886555ff2c0ddab5c47abd823cf05475f81b124d248b00566e272897ed24, 0x86fcb8876dcb49dd54a4ef6234fa23a177c0f5b3259db448d6c008dc908c6f1bc52ce8579a26ccef0f0a941e1cdfdfc1484345d836d8275582fc2df67c7ace53dbc81cf3471f3e8884e1dd234748af0946de606e9e88659bee81c6e2fdd2a5e69ad80000000000000000000000000000000, 0x9209de30a9728394d4d3a82fb04609e45688ca88e754bfb5e13c263f7bba23d40c57833a9a512f1a9c81f3359f7fb9a6d8f4aa21fcd21f601d0bc1e84665ed5de5e4b82c9b192f1b110d8bd8c4c907227a9bd257bf096fff01a0d58a09d4cff3e7861a7ca3ce4478fb6701a2b608380700b, 0x37c2f9a4736b7c103111c422883946e7e975f23bd879824820e7d2997177c1d10dd397e5917715af49b830d77e62626d0d73cf6c33daa96b355ddcfbfaa6a2613ca947f7511f5d8628e145f05c15ae7b7b8224487b001d242bfe04a92d4eb01, 0x996cc46ad0597c512d5622dbdc43b2c4540f1ccbf74704befa1f54c3bbd6d89a1aa2778b720f8ba5211d3d24a11b2a7370b66816e17afe146ec25d0f43cee4c57eff1169171db012982309ce433e20a5968f8ef651ce95ef12ee4dc9c45f416c6ebebd32a267e6000000000000000000000, 0x498daafde44df0458b25067c1b491cff29498375e472f0e4f7c934c678e1d044bbf8188fc61436b2fd93c25d8c4f32005b3ed42e862d380f983774b5bbd0da3f01a2e86ed06fab75f26b95e10510474346f6feb31caf129aa22425376068efc651825205252aefe62412b289803722d44, 0x9f754042303d9dffe3806133160d685cf7873b50db37311b0e5cef95afdb19cc41f4f73f655b7e7cb93a5c5aa3cd0a04a9c83039e37833116c74c1036d546a274b30163c6e3de89ee831ec44f13ca000000000eea5e015aa71586b690348c2a8bbd7f0ef5c7fa2bad7a4f5049f2edce1800, 0xa2ea1e1b1eadd0c47861d77e8e0be6613ffa81f045bebadcc62555363a65e7843203e0104e5e801cfc8c1f5feb8ef5abbc121240aa84b7f94c1d989eed6f08e39fb6cea58986d739dd5f1a518bc0000000000000000268f65be8a6b2b7a5a7945286a336409a6c0c6b35a5ec78fd401ad40, 0xfcd0d2426edfbe05494c27ca40ea3072cf91df71d18106065a46ce6db8cf48b4eb00e6f9201d1d2b239dec9e349ca70bca689764726bb1a6091f2ecfb8c0da7674f41c28df3d86cb8b157e02ad76ecdee73610c97935c432e818593447fd1dbb134ea8f7fd01e2430e150c4f07c5fc7ace, 0xa5c613def2de451d34e225d9acc276cb6586285aed4a1ed182e12e2ca1bb7707036224ca9acf74497ed60091e0285a75aa0b7a3b7edb2227ba2c984acb41626eede5a2e8185b7d25e89dd0c061a8902780604c891f23c1b272e5dcb70a8bd7dba4b219aaa3acdec7be94d249597d1400000, 0xa75a3fe0b2c36e50a7417e97c9b6e38c8236e87cd42b4807002764867f23f934079db466eb9488d93184d72ba2e0960de73ac0bdd2eda38f5afe0292f5d09bd1bb63bbad400000004ffa5cfbef77cb4807a0ba33f116ae3c12d55c1288bcd1c4727b3b8b1927640bc587f065a1b7921be40, 0x3f8b67038932a8a7f57a4c593aee008564aa50c5558bd8e7faff9fd32b0974e39cce673768175f4608ffc7e979712ff95c8615d77274ce5522c4c6a1495f4163ecde0aeae549b6011dbe71ba1b04fded9dd9d1ce7ac6fdda17449672e04a2f73a993bb79cb65e81e384a0000, 0x262e16bd192213be66b038544a854866b93b9b877844c45b2124c9080572820eef50f26ae9c623648b3c814cae0d0b78efa8c05960ce4cf957de706afadb0417c31afbeede893bea4804f4bda5a2e50c3cc7b396e975683ea000baf46ea104090ceec101d20236e2e4d153725258000, 0x71e7bc04fe722fce418647075e7c36dbc174efbb7df133fe21cc2da959c5bd1afac0c4a008938ab7a60baa0d1b5c735ffde47c4e13b8a3fc1e95b250ebb3c77ae0c58baaab307ce9785f50f6801dd320c5757176e090476def5c38a8dd0de003a7cfca6cbe959f72fefc0df7e1f7d86800, 0x3b8bcfe9f4ea990abd21eaddca44b3c283cddc70d881e937736b5ef3d0b46698966800b82efa21cf50bb85c80a3c5bd225e410ba9be0b0bdae3acb349d199ee0d7a1d0205e255afaac7e992e1305174f7da9a789f1796afcd8d0ae30ffe42dfa35f9a4b425f8ee517619b3174001d45c, 0xa75a1ad13492e9bafa499c926256dd83f0845c0d785a79d56d2b832697b340edc580034a7240e09d6e9cba2b067b2fef97b13ae3f48ba4d09a83dbc54e99c86b61f653f46ee349939f002c40c42899e02dcf0324720f12a7249e05bbbb655eaf9537c304e9d2aee31f6801d0ad431468009, 0x11076aec65027f08b6c7e7d72a1ddc7bcbe3f8aadae939bf9d14d1a5f768acac91b9d6d8857a64f45eb1363cf0c5fcd7ec023555404394b8023e0aa77083c30bfa11f8c98876056437a9574fcbe21de53de0cd67ae79e9dc96ee5e35c37ee2ecd40fe50a8618b238011cb89804cd4, 0xac169dfdc48d6919a0c4731ce0441943bd391711a80d81c7dd7b7080b4522ed4d9d9eb055e6c6a99920045d79fae1a444d53b529f9bff22b395aa8ed794cd8ec61428b5db32b8577b5aefefc5775c68cf8684c75c536b359a7e51fdf6d9f1af414eb0077c785cbaa44c82dd65cf12d8b8af, 0x3e5cbf20126237b38ffc08e5e8c047926c86b7d5639d7e0e478dc4079c83d32f60235e2d716fd1ccbd32d1bda05502ae896052c4e61892b06ea7918ef1e87690fe494c6abd12096395dc8e534b2baca8cbfef3cb4895650186cb85ba46e8395b897521be25f0a5219287503fb6539ffe4da, 0xb8b824b2036d810c8eb6faf10767d0cfeddcdf457c4d6fab796cd79f10dc1df93696e9ad0ca2b9e6600f6f8af7a3e294e213d2059f749361a887241d2123715d6c2db11b0d0b0bde90e1152718f96c301caa2ef43632f52f56146c0a887d39ec7e819b3d9a1597c12efec113919ef60384f, 0x92ccee352939179db2fb9ca0cf3ea98a645d5fbddb2c15edcca9b06352509d07602eff886c7ced2bd930f972c734668957c1615ecd9d9c7536268b1c3b53b7b23e56579a504b15b3e0f28b1e96f156b7c5f7c7bc3150ec40376959e95eebec739f305a36055e8ce302d4279940, 0xbe3e94d3f60398e1f817b20d155be13fd78a0b80e24d3fdd112ee4c6f666b58eea986ae3d97482a332e26bfede3cda93069a82a3c328afcb58558fa15a87fc1e1f6641e3c23fcd8a452c5a4069bdea85ba72f9c0559469f983583fa82d70541607d2b81f3842eef22b77fdef6c0018f57f8, 0xc166ec4642f88e808655f83a29210bc4b555844decced9d2067b3f4c932131598b37ef32954051fa08990cc89b9bc989f929018520407d3a10cde86a98aebb9d7aa9b6f7a374b390b51099d169ba0450ab1d64bc3d2a8a4ac4a26918340fae76b39968fbd62a3747ad1e01d0acbe8a0000a, 0x5aa428aa1e49f67d220abe4b5879fb7b0ae4185bac5a0b4df79b23ac080d62072caf8e9580d52d9080f2d3daba4794612a03b98dbab846f9d359153c16e730e1688264cb0f8833c82c18d451520350afdbe41fa02c9ded0c1373d66e313afc5c39cb5fca6eea31f4a35f129814096dd95, 0x1d36324a2dcec9f5723e7d0111ed5e9bb2ee9a5bf163227a6c83182415369fbe12a3635793963fe7afa3a66a881ad6962207b3df546ad2fc1773e6c5e5ebff572f14d00a557917c1795174712f8b81bb6a7a3046d81e3bad2656092f89404adfd4f317e0cf757e9db1dda9255c0680, 0x5e285bfa23a0265d999331072e7243007e0b880dac957297ea709d82d9077b9099bbf5603adae58d0a7169411f25022df05fdf11393be30ca5cab0946ae42e27b7eda836b3dd5d1a1c10a67d2635277e5b897ad9a89b75acca15e190600836d4b2d6eaba2d5465465bda9b14e54001540, 0xcbaa3596529d9f2b81bd1724743848bf238d163e750d62636840807dc2f1c41fe2fea1a66a78913a8ad2e898a8937f085197a6dd1adfffe300b47e077889ecb70c2b1dc34c11aeea40fc660d4aba447e649e4087a9245d138e8aab39082537305569c6d638e7fb1f3cdba6c356d3c31f0fc, 0x2e26b1903eefa5d1483f6371021032eff5bcff94d3be4ac24c1e3d94746aa4653683fc5f54442aa644a47a1ad5b3b16ba4ab5856b57b884ee16555c34bc234e9805920d85440000000f0bbe6958452c9e31453a861f5aa3c661c76788f769552e2de06c633cff7fec3e64c4d87ff602, 0x2e26a757dc5ba85d258fc35f55eba48b4ab01102e2674d28f3eb5dba78300095a5ee86ed711bd0c549b16ca7b648259ddd811b469060b339a9ff104467458633ad851886bac7c4090029c2508ac25cbf44b4e6c2525f45efb0cc59a9e830d95df13f25ff83a3ca2d4093b91561db100, 0xd71c752037e43fff45acf5f7bf41909cd6d08512f5a4df15b0cfa02cdb1482c8f08b3c3c85b7a22daa9609921c4ee23eab219a7bab171bb0c06d86ef3ec429165398bd0e21ccfaf42f3e17a9d2aad2bcd2d4102d71c24d91f01d6324c74033bebb3098b7db9ab386cd1beff2d09e053a000, 0x2f1c961526f7b4b5b58243711d278d2fc0c1c2cc0dfedca313ffe738fdbbade1178de1ce891060c071df1862b8907d38b1a87b6beb4ca5dc33d76b8790eb146b9f44dd3b92ed968ec6efb62f8ee75a76c96a9158981e279b8af76feeb66bff6e28b116c9f5755f7a322146778dd0310, 0xd4bd16f146fe7a3f5c08c5cfe8da82948e42aeffe0610fa54a23fb7a05dffd821d074aafdc6429267b506bb904faef25a9a3b0901be9c3f8e7169b9674ddea61b62871f6c6bdffea28ee4241e5dc88b697dd9b7bb05b5c8bfb7adab4d461312e56923f278992c4afbec384cc4b434d00000, 0xde9c467aa1be25084ab16b060e9031d9e307874e119db126aa7f2b6d07b6eaadcfd741b165454e0e95d7a356956283313fa3b976be2a881af7d746b6af9c9202f8a601e27b99d98e6dd59f4a8e6f0054e1fff454baa3bc0f0ab0c6d4d65301da083a21a603e62c47491db1477020002320d, 0xe099f2ac3396cf61fa9083daaf2f84ec64ba1a85d8e5d39399bed57881cbccb0ce726d8f71da122950f19215bf27f7d2abe745b3018acdb7e644f039fa3577466eabfae6949ea46796a078fbb4ca5f0fa8db4a6827326dc6110f0176f32935a3a104fee120f4e01d5d92c8a8eb07e8882ba, 0xcc744bb524784af994b96fa417a9aca2c89b910d67664e9daa2193516913290213e4bc11ac5fa79652c4d799aa0561f947519e3e0277669f4887a8dc34edb8c247bdc9dba7e4d608325e80ad3477e01212dc1072a48fa3eff52103fd4c931f9290aa5d72006604fced79451e1daaad6f51d, 0xe3c394dee2627fd2bc90d28b029031848e999b5fcaee1a0a706640834bcd02d67f3f1ec96c22ad19bf66ab6afbddf45d764f6442d188558d7f4c0cb4b01a4f14f5c297790c73b81aa9cec4e92214ce6a95aee9791b027299e08bc403092c2c6a72e93ea67439f5755f7a32474264f47a660, 0x62404a42074fe2eb51ab29ed6f5041f2d6911fecbe82662e9de51830381c157a1e16f4dc77487d595310a58f15f56f9c02785aa140a3b876b28c3fad893e35e8bd99b3eff8ea2445f04dbd032f04b6f78e5520a3eb834852227bd54c2378e623ad4bbbd8c6ac0fe92c6c2200000026520, 0x6d687f7305309021ae47fc61438e80786675926f866f80a5aa2c50bb1c2821be5a90a9497fdccbfa5197af068527f0b35f673a379a0d4ac47843824bd2c57b650ebf502cf5717de7307467a4372ba0823c9f54abfd5bf80174e1c850f882694f7cf540e0249d31bb9a64352d923759107, 0xcf9ca4085163ca3423dd2b040f17ce38a662874c58ba161db4438e5f107264d093fa9a06702fc84c2cea6dcd77c835cd853b502805921d3edc0e7f9ef9bead4aad5b0f0d6a4a86d25cc0c0706e7444aa2ef66486d814c0a6eb27e10364ba612955a3b795b9681f3e2cff6ddaf4710023201, 0x62404a42074fe2eb51ab29ed6f77bc1c17ca4683919408f4022d996832daa69dd2cc80a9c94cd8f0756d01c9b04f90c0730fc3f85d6cf7e830d24c8bfeda5ca07d197994bbb16f6924eede24c6a5cc50016a89282317be215d3263fdc3132238217e8464ffb60e2bdb1ab086a00c18c00, 0x6d964b53843af5ffea95adde641e1ef246098f32c94bffa9ed04ef7d524b309939c44bf9f98cf6fc8f19b6f11fccd5ca9708c1e0489886ca66da8db7cc218026aa0da2485d79be5b9db51135008a072e67b4fecd50224bff6e82a36faf8942a7339e661605b696ec142f1e1419b498107, 0x61b32003ea10d7a010e08cb69db0d98412103fab75f017c95dffa786bf4ca17780d54909839a2960b8753f7c336d447d71715984907a0070628c12ab33a64bbb5827ac5d35f3acc4fadbecc97814db054492fb9d68f579324e58fa4aaaa899213ba1cc0e9d962cdf18b7ce44004aa92e0, 0xcf9ca4085163ca3423dd2b040f17ce38a662874c583245b2d17e9bf44434d46397098a7fd2ac3c45b83ba5c840d349aed0396820a435a6472676acfe01d344e65e9be88ff6fb43b30eb0ee3459cce2fbbbed3ddf689b80030e7efcf89c130cc17983d386d4e43c197014a357da99b4ba660, 0x29a39d9a6e08303b07a1038eb101eb46e95bc1792d825f4cde29f773a9189931334c1199d454f9f0ea7c1bb262c8f3e4b94e79ad40be9802e66ce9b13fb4f2377485994867353643c7d308e4eebc333710114b4703d7a1670b9104eaee120fb4dfb9250fa7086a00c18c00, 0xa3dec9b491233b42d862325729d36d5015d0e1d348ab90fc30bbb271254f5f4a20b3fb6cda0302940e035d0227cc8e84fb6d7c117cdc6c134e2629b0ee562b3163cc015f8d83b77e370af8a7e2271644d9147cdbab5e53779cdc20979fee9f950f7d1b0151db1477020002322f, 0xc5b6641f885910252ac07c6c5df5ee334358950249084227ca251454a4871439caceb0437382b7704cadb2da7ae922c55613fab59b8b39fbc9f05742215ba18ee3b47c8fe34aa2f85a026182ac8fcf4c0ad0aca7ffdfb1b070f17414be58b94e13300dd41de0ce2b4b63041900640800108, 0xbaa3fb6feae239466ded2d0ef6af8c40cfb159aba2150fb1002c1218902079a0c80498c4cfcf7a2b189b588682283145022b0e9b654df851a71b33f90a1f51445dde720a9593877ebc861ae50cdd37f39d345f3439319b5600f89679191a2531647b4067f0cdd5da1083f06e96efe0000cf, 0x76dfaf091891bed8fbd13323c5abe51b8116dc69a1e496efa9b058db1a502f77d558459be7cc40dddb4104f4388aa802918492ae327dbcd3b0a7f18e1614bc6838fcbb71d50515581fbe0f952ed61b400891973a52b485a87b8297e6aade57296daf93fa4b309e35da6f812cc42e9b0ec, 0x779de1babadb4fc661ec851c4b4524c36cf47aca4ca594ca902499bc1ab6c81dfb082c8ce699d69129225609d9a421d2a77c9d910406c3ee45c3607c3537b9d5996fb771fa863d3a5747a094b6c9f7994d3bd231b2b8cd6b6ac8c6d420000000000000000000000000000000000000000, 0x1a89ba381126748c04ba13409bc414b1dac8c1903f780f76547efbb62cafd017d721eecc794b033294c6c57b0aa69d8a88c648467a663daed1c03410d13c33ef7175fef94afb0c825cbd87f19a57cd1a89d7bb4d923eb5950ddfbc6b1d4d8515a08126ed2cb43c348e11c11d3ac40, 0xffc3cf0fdb84d7a55d70a86d102cfd23893d0ed26b01663c7316702a4ca0dc0dcbc726c612cae7a0ffd9f97f5535b69dfe5722e753611c8795aa6611ed93e6953b7e72fe3a85dd57d1f083f06a0b222e910e914b9f292f91e548e2e9d6ae5b89cb1140209e44b4cccd415d90fa65c22ac40, 0x457783e2e6f3725c9b886862551f5b53081971020c41104fa38641c8ed0c4d648ae95064c71f9eeaa273ea14abefda65c81f2ba2e7df1e0211f55f72e1ded4aa89abd6f128e98d6887cbf256c2ad1cb48d720451912844c1ac2b56d4fe7469174fb20cd6e9f6a6e9cd281f99d5eb1f71144, 0x39dd1ea07d72e3bc3c6d2a99cdde49f6e6354fbb1f25b39f326f7225c6e5646da8805f0fc29f562cf0e7839f35e0fe88e3625ef59089261a96568b3e7ad4cf46190c671225e6824350a6be2de4161fa6a745c23f72bc7d18f1f738d9a8d12b670b214104fceb17bb1e6c58371ec0000, 0x1b47bb8ae6c5eef020cca6576f0c152ec625adbdb09007145bb185dd5a3e322f12cb18914173e55af7aa7d3cc3691dcb125bfc529e701a0d2a1f28b66d6ccc7e2e6db6aed0387a5ac6b45a1b0d2078da6b0d2d95defbae4b58681716155bda102e957589fdc612ffb2e9518000000, 0xc5d3caf4bc5f2caf762ee426b5326e75934f7202cbf42dba331bb1ed237f975320673394039b1c6e5cd2c363403f7bb09702cba3b747c94ade1d78055cb9751431ae845dc1a9c597ffea8bef18090b3643dd13d2479fc7a092eb95083fb872c4bd247c0654b387460ef13b9c2f820b2bf60, 0x1093cb1bf71c9e800b83b168492619293155154dbd81e796b720516c7cb81b2cfb47131bd44be8a0b80edbd97d1eb523f8881893719d831238ec050bd79c1728966fa73e282566bd0a304f22e9e821af95be6f5f0c281f14dca3ff90a2b6a641e34d4d3e24b067ca222e9a8648d805d8c03a, 0x7cd1603a7bab0c18ec1fccf1a2aa268af71870fd57b369808cf2f03414e2390b942f86033703371246e1a856c0ce85f18dba9a0528c5b4477f2a2ce9d9a77db2a7da98f3d7e033a20741d2534bc787afcd4e36a6cba56c6eff6b4ee967e36204630981464e42d00e440a020000002ca00, 0xee4ac234848b3b9db77d40d64e77789edcbfda5c5df0dc93524bb8622139a60792acba80e10c7324d11c5ad4a52260ed9cf7865518a8996298ee4782fe7f29d8799c50238dfe440a4f59077970c043985e3a60de498599580e33dd86fe766c95f57afa0a8f289e572b4dd4000, 0x7e4da9f9aa17ef3157c76be565a66f3e23a39d6ffbf167cb81e254e08f1c4533d201d7416551875aec4356c6cada423ee36f916eb969e740b6f32a99e41ae9ef68f72977419c2293212af0672a1ae48103d8b61679617b78d94dc92f550000000000000000000000000000000000000000, 0x1100d66d7bdca6087b7fa622540a771706c4a5c343383c21f92f0fd1ef8fca55bc9288c431e25a368e0bf48fe3c2dd237977cb0cfe3b3602bca9e9d937cb65e4557d65bc6969a39bdcca8d8178dea3f76049e7d7f5f65e5b7ec900143470d884912530eca59e3410543f7d496851daa00000, 0x7e4da9f9aa7c34c4bcaa87b9ba49259628aafe44214bbf818369c4d46770e4a64d15bf9447ed2e1988d62fc74b1f638ba956b0d3ffa5a8605f3e58bd48d8f699382e63a7cb2087c8c159ac185cc2c265ede55b92872276ba6186bda50e642649b5fff49bdb999d1a8324fb002c36143c58, 0xd6b5eefb62d951c744b4b54f805714ab04e311b409004762b7d8e774c99ee0267ed640ef51ed7dd91b416d216aca60bb48b6aa48483a1d547856afee82a7aa78b7c24e2d8d6feddce4424e6711e3fea457127dc17f12640fb5a0ff46bcdb090f0c2fde655ddea02a005ff50000, 0x8124061388e6adab3ce684270acc694f696f981347a9fdc30ea486524d3bb5f943712fec216063e131702067b9e4d2a5ccf388c93fea3e9b4ef14b7e2e1ee0cbbbd5d8e85928795cc4a14ecc6efc6c8d2588c219876810074979b63fc888ecccc3f1f591c6dcae7efabd599deff874d60, 0xb8411c1add0bf01cc1e0d184108132e9b3eff86ca7610fd2d350cade576847dd5bd71139aaf58e1f79b3715531b8e67019a72cf20f249555e1b5796f927fc8074f3a87ff4d529f2f77c073e7e6005466de730aacbc49f8cd6dcb3f04809d23f99754bbfdbdc5ed696a4e617000421abb, 0x697b803cccbf6a3fb11299f629a833f9c841070aa5365686c75d1364dcda7c0b1ef3b2a53a1c024108f7abfa2454ede9c802a8e0f8fb6a8e2339e4fd4fe5ca142c1318fe0b6b7454f3799b0d0677b9b2f02a60b745ad29c6934ba2b45cb488e1175453c7810044bec26037c00, 0x715a48eefd6118cc33c255229699cbd68c39d6b1cc4b687ff4b6534405350fc645a8cb130ee603723dbf4fc94292eef5f406abe3bf9758e0f62729b801c702a60539ec0a1ccad321464405b2887b1a8ceba96d08d3db9a4b51547b88771af23e78f8e5eb9d6a36f14eb3f5000a, 0x3de26e1f278c0237ca01c2263e9075f267f0826d89fada2b16a4dab8065ccb36125a7a2cbd59a96cd9ee6ce11ce8448e3ac8e8caabbbe3e0397d191f4e2ffef69dc4ef4e59c0287103069293672b5866a8cd011ba3ac241c2179cb45567ea63c0f91abd201ca27ee620e397a014f5e4, 0x40db3987cccd576ce4994b978233ee5be3dd65bda0344fe7070820cfda4a967644fc29952529b29246797b8d04369e45b998f6d1872b2d990b4b13a87e6c36c9df3a01485295ef76e7d96c30b626db35113bea72bec5d080e7b36be117f1d8567965618b7eee94bc36cc22f9ec00000, 0xe639da351d55e0705e54cd2ee8c9070bf00473af428d18d7790d9fecbe15f104077a2b4aae2e5447acf5626da40ab3da7e5353681721d7448e24dd033be4836122df7a8bb23b0c2530f447e723b6374a1c8610ad28d2bf97ab366e268f326d26e206864704cce502d868000000, 0x120eb8199b6aff67698edff66ddba8072ba93a1b385c5724a339325c78d371c7aab19caed260173a2e3d41f824ad682d37df1b066f593b885c15b28e01bc2430753d2420df6e388fc702be56cd6ef0d894b070cd0b0f3586690ea9e113b6050c474f0c3bb0bd4162f96361032bb4ae018173, 0x1e85417da27c6f675f802cadd4132edc49511aeff225ba1add834431cbed95db09ee477845dff05b1cd430a8dc27814e67bddd1601375170584e3967f406ae96981c510ad01511b292ab7110107019a5d741f0146150d5a8d5944016a03f7aca05174e900d384652f9fe2f3a00000, 0x124ddaeee1c07baa8a98eedd23a45928e1e4a5d91c90d1a129bb5683d1c6343f3f9b9a8f736a3807d4f0fe0511663b53c62151971603e48c220cf861db3b94744fca1dc9fdccdd088bbc74cecd28c33fdae62f7fd2fc45938d5f79cea43d974241375949bc4a1d79214bb21ccd395e6c15d3, 0x9124eaeec35fbedc1712e001e7854fdd1a03e6a344ebdc9118fc436f26569fb84f817a23e51ba4768f44263b8bfb4946699d91be4624e682a5f336a060df1b2090e1d0ff3bc5bde8de5213c0cc7ed55291854abc042c732c21496033b9849735ebabc318c3219bc861901330de8018000, 0x127cd11d0217ee6a734b3d4fc1efe479231af64adccc031b9c5f0bdca5eb7893376af99194814062c8098b00d1094248246ede7badf210602fa1f5156abe8dfb3b50b68c7eec7799ccaf09061014cbba1e9df36afa34f6b2650078f1f6537ac2ce8845beaff9a94d28534732c5538c000000, 0x8a1296e67cb32c774cf372318bb1da48bc5899ec380e07a567958f758f0d5df2503bcc77571ac7a11f7d5dc169f8f0717b6162fcd3bfd5714f488ee19657b3da53925e0114954bcb60c7041ff7a90d7860adf5ce8d9900f2777c66027dbe81fa731a1c02f1949dfe0eadc0db2b0ce1c36, 0x139f7a70f5dbfe2caf79c29dedd383d6be635a21f5ebf46ff8a486daffaf4271e0f9652b33e3dee2e1549adf3c897008574da213de0c67b33ec00203ff9cb215f213b2ee202b94912218a4cbaa35084b247c91056049f17a94d5655d4d59650572e7a3d0873d28a53bd87d882f7d54070172, 0x46468d4c093fb1f65639ecaf3a54850c1d42b04d5c4a6a09dececd1f30446e1049d34e8f62aad6574f9feec321ec7cd58c03e5dd021fa35bfd5d19b65a783aa130995297b5c4c05e8c420da281557cfc20807c094fda57eb79b93d22d1ccb14ee2e15dd28c0b04500ed6250beba818f, 0x9555eb98fae6ac2e9faff2d927912826c8c549284b6ff40b6020ffb174e4d0332d818076c522e6df0543e201fbd251d50ee75627439a7b817c0112e56ec513185b4587e1d14bdefed5931f093336e8082cd1492039e1b7f434dd566767f1f774fcdf450fe8198f751c83cc264c00315f2, 0x40db2b2af9486cc8a9e72cbdcb329fa3eac28969ac1dc862b9236d78bf5031c171e541f82357c4884217fae4699332e8719d74e47db116726369b3ab7e580f32ce23832d7a0e9f2562c18754be2f84471a3c640b4df12dcf7c1b331825b4f73872c1cd3650d8dc9811d1618068ea240, 0x13d5654cab1242de0f8d2943f8e9f78f65599a5cd173d5751e1537e3dc227934fe660cff181394ba0f7a09ab2095eaf1918feede4be090eccdc3e4e6273b758c02002eb4debd07db73842cc14dbf42a584d20b8a70deaca7d3f8b6368ce3f22c322a0d678418a28062f5e5efff37b3ae6060, 0x1256780a9c8fcbe7d838552a9498f7833eedfc08e4edf80511328ad6f120de0f0ebb39e6684512135575fad18a1a34c62a0c224519c0826a64bc9c55236ba525288bec89ecee60e9c93ceed6636c32ee3aa8df345db4d2af3a6a21d86072bf5c3b78ac2acd534a97570af94f2ba6c6000173, 0xe6375264e80adcc0d1104f20adb3f57790be32b59f066fbe1bb03af6fb2c593ed520c0055d884cd7ce7f9c1c4f26857068409f2d6adf1db96815b59d402b4cb97bc04f5f780ca74a8da639711657905a9952768eb79405513b0f301e39b4a5a9f371ffde66c164ea528ee31240, 0x11b1fd18c33e70465bb73edf31a933dd567c0eb73815e0591e5aff397db1f1fef702c04479ba00826591ee4a2924e956ad80177601b483ef5d9caf562c4e3d4f5a59c0548f522fe2eacb58e20fa796d2202c35e85146b5944a189f8fc4627745b08d9f55c9c9fcfed0e64aad3fc3c9300173, 0x71ac6825df545e73b430b7d3487bb33c41caa7911e8898c8308019fa6cd92c5930ee9c20ca95b08954da83eb86aa562a7673021dc0eb6508580af7639b546d66199af05fd8d00a7e5faaed577929a106cb148d7aec91d80af9d1fdbe24909bb0259d43ed79a62d7df4ca832ae1c4b09966, 0x23356daaa0e670b1841131dd39f0673e5b3ca6941893af8df811d1659cf84e4a57c465c272de54007467af55142e22a9f093d2883337df3888dc690772bf5cfae093db25d240312b1abf7685f61d496161a92d633f8d9b3573c5be9ba96a090ce4dc4ca096177d255e7775e038d70ab29, 0x6ad9357af23f911ee0e8b30fa00762fc742990663c51dbd46208f6e855ce1da3052e18a277f3321684463257f5981c5b9daf34a6009ce94eab58e0109f574eb36783733c496cfe934e07e48ea9c94306a28d302b690ba86188c065de3dd6017b77fa2667c2de759f385ff0000, 0x3abcd4fb72abdb64e59272bccab955314c99d67a4c6e9504206a0bdc2aeb84494c01b0ef656458e167d20a6475fa87584d6c665cc7cc96b8695f0ba51264ba7616e10601b22a0f3f3dd1a3e1f7be88a4e35f06cad8d9350d8d1f2b2d04e19c227214886013aca2860fd39e23ca0000a, 0x151b1612520b895e30520f764525a5ce60858ec4af38faa472343cf768b1778020d89fd69489a3ab0643f5e6b1455c638048f6c65b901705a1c68a2e9eef9634ecf2148500d3d3b020f97509aa3cdbcb4c04facbabfb38456527a36f1db76cfff27074f43920f58f5d283198da8bece00a00, 0x155a5aae70a718bfbcaf1a41ccb1530481d4d3bfa75ca28636b3f675166ca652ef2fa601ae350aa812ba9009d1d2f128d890f267eb999be637fe801ddefd9ef0b8d58f51315256e8db31d5b9db1d0579a28290bec1475fd2c2b8f402d53d7631649b032368ba98f868f55b16b8e78a35ede8, 0x1594dcd5983472ed217216182ec2025a5e6a405efe8a6a7187c0af37e9becbb5caf2a3e6f9f2b644bcb98c5a4a296eed0921087cf1ec49c67432e051df262a050b4435d31d35067c809cd5122576e82ec8d8f9f1cb6413fc5121bbe70137b11c260aa289a2820f7a7758e96d6f93a85b9600, 0xa65b8b449982073d8742deb7fc84514d0819f000f56e0fe7207b40b372dcc4990daac37899a5ed20e1228d4bf9c18b16a0ac6c6b3bca0adf1515fca75890349410cf928aa836fcfcc411ca7ecb11f28c263ab12acfc4154f2b9202c59e36eb9ca27b79237e8ee7a5ba06ddf0976dd5a55, 0xdcf7213804b74f79b1072576d960796c0d5fa230c5f3fc6a5559249c208461311e89915ce71d69eab0b8e8d34224ebb6b0d5ed3238452a51b405b7a2e8b454c604cb4872792d4b2f206cab194c71a94c9610c2806eb19f1be3449a716dba0863b0e0eb7fd866d169fb46c3a5e9fdbf, 0x7d0c016b4f1fdafcf39406d11b72b3c4a2269aee3471919b1b21822e58bd048947a01220b387945ed98f870e9010c8f8606c5afc87221a3006a101568a27467d6e5584e62ca7f18449729b3f8d75fc821edab4a6563354cccaa68e8b18ac0678f587e2fbd06a0e2be5fc691367e4563e0, 0x1da9694db081a04764e22b70210648b9e40279142ab32fb9446eda5aa118d41a1624eda4f8d5e1b176c4b430a254d1701df8cf02aba95b340038e8202934ee59bb13f17a147566acd0da59163507989d9dffb46b7d1042990712477dbe79cc7786bdc5f55943187a1f759228005f10c6f, 0x16e297b18ca134b2137012ed89888b871e893f5aac987e730e2c8ce4d14503f0a040d8bb1365c528732637a18e44107e793cb86d1575f803c90e8ebaab04806c7d55bb4b0d118e46656aa06a225853237b7711fbe2249b2afa027de75198cb070135faafb1e3c227359d03873dfaf60f8000, 0xaa73900dc69ad12cc1b972a0e35316398a51877032f3ff5308672f6fe7589e7e629db0b31a29a278973c49e0e9cee4ccea49abf5130208ca2e002edfe1f2d8cf1834c739e6689c8a4d12d42314c5204d2e5e9eae03845c8bbaf5492f2ee991076fbc4949664d92066ac0e553aa948262f, 0xeffa2e323bd86dd6fecaaeb76b87b365500b17eb165f97badfca028b59b326c69147aa85c3bf3c258edefa7017d1a33ac91053248ec29664e530a83e480b902cd50cd956f1d8096c39dbb7889f423e17d132f4404bd03e55554141f0d0d539f477cbff3c249598445fe2f0493b29e7e5ca]
noncomputable def x0a : List Nat := y0 (unp [] [0x1696b1f946d1a09c8b6354d27c38aa34313bb72e93ff0c9d623a95137788b9d4ebd6304c2c7e49084445ed74fd39a8134b30137f679b0f6a202d7371edcac6869c6d2702368856397d7d8e2536490e1975b2b7f181351afb5ff89a0442353d06f3d41f52e8dd0ef955ffbdf6facfbf7e889b, 0x52cd425ac4ae853bae3be6b1fffb46e9e70d9bdd98c6179777eb1d71b4524f2d709b8a0e8935293a803a31e83d48a148f9cba239ea2e22e9de4aebdfd5a3d6760783a5a63cae85294ff0e9, 0x17edb6b649eea1ed72da27e99c8d151c45b03c37a6182b5a88ba79edf5253af33df0b63b1202601e4080ce413a455344e16c0bd3223b2c1767b8616021f4f1476839debc7540368f91b400e5f4f49ef546076fa6e71f98498f83e7bb0e828060dc83a4f619755ddb0a7de1980000088e15e5, 0x10872d6bb284d81bf09391e743c0e2c48824c72894a8c0cec9943b03c645802d8cf9787f28bf44d84c3cac058173e224dfd5c38061df0972336aa27da27146d6dff9e73fb5b78317d97b278ce05d17505cdfb5f872ed962de9e7ce835ecedd84e1876ec506d29921884e2fccc876ea0406a0, 0x185e33e06485e1255712315f96bee9f9f3b595618a0cf4828697089a7054166f5e800b61e8e6fa6d6f22df3d7cb4de3ed139fad4994c8952d595d9e7252a898f22a869a49fdbc49d30b0b2027b7919af798c1d343fa885f7ca4b52dd2b1bd8081a36c15ac35c843445c67b854519ee0001c9, 0x1891ede8169ebec7c7c86f5703f1549f55956bcfe3f16c2a76aa49410ab5b701008f64cfb15b168108cfe18636f7d0b3160e6e432787c8f7b5dc031333ef472ac7d4965599e83db87e1da64149aeb9ebb6b36a87e7c7e55bba7186262239a164585242b588e3bae3a2d30ec892b7c58297a0, 0x7e4dc5f20954b3dc4444c026ca5747b920805999942f57749148ee7c85ab21aa82f9f4b9099dcb86f89cfd8239a3df28038329abab2ca96efb24bf707a9858b85f34c4456258dc4e2cc500ee55d9e3a6564ef4f96f6365d232a7b880efd6a91217fbd6f73c9adc049a118bf469da93c3b2, 0x58719efcd99a5f6af7b0b7bf56a6bcdca7da93f4a5c6596f3c3611e06c77860c092ce404e0aa760ad68734e709964856c6716cae98f5f656b37f1d385d62de239e022ac93cb97c1ede8802c165c9f96d4cf1cd376e87b84e02ddd8cc5ad6fdffeece960786b503b3de1695c51f50000, 0x1928ae61fdfda931f92c2b78a163fbf05180d137026ef6b5084eac82207c5df865cd8fd9f46c0d41bcba9e772267658f016df959bc6edb4461c0e153e23c194bae9f7306f73adc41d381f58665d4462c7bbb09b65587202adb7fde9e00000000000000000000000000000000000000004c80, 0x47fbef341236930bb32e72d1ee348ad6200a92c3206190c2cdddb06a07bfc00158a80ae0ebfb7c48ef0127fa799b7702ea096a9a0a60ea5a20bae99afe18361d3258c624a776ca21befb9bcf63b3d69a1f17be640d5f7f1780001fc, 0x10f42f1fdfc8c6b918eba9322f84a05090f816ec342c77812893eab05becb07582d52712775d70a38eb812bea08283c0f32deff5c4fbc93eb9d4580969691c55907fd4afc9db070790bca04dccc440143dc1dee05b93f2bc41e51a44a25eac3f0a519a3e63e69c8f53cb2780000000000000, 0x198dc53ebf701e58e9c68d149e34aa929ee8cd1a4f499d1dfc19e636092439493442022b3cf8a79cb77b17cb6523ad39ebc08fea8d79b74d243734c7dfce4074795fd0aa32bc484ae0a2d5ac987642664c0cd096b5b4d11105c2ba251e984e0ba1578acbb5b8ba2cadbc0dbaeca9c24e7511, 0xbdd398631237298718cee696357143794714b1d1ae1581e829a24bead313972ba1aefac9439b277186faecedd3942ee75a310059e22629a543d0d5a7762e77e45b7d89e9175beb4fb42322165191fa92fd21b5a92b34b0556a167a07fe9e940637da4d590e14013d792505f138650fe45, 0x1bb85367c4892298efdc1cc587c47c223e9c2149040bba04a7015bcf2a34eb636a83b572d285c6bf86c8c1b46f19fe536262fe081af7092bf406512294789f536939462eef2105613e0c2fee4ad4414269a7c2b919edca15dcf37cce1cc86cfe132f3c24d7bb4cd01732b19f00000, 0x4da3c2bec4fd45a067e8d773fb31e8424da9f6804cc3fc5ab5ba0db3e164cb1539b7a319780ececa47f7f9009047d08ca25d80de8dfb5c97cc4abffcd69bddba63826178f854204f816f35ee492a7098673d296a82ab10977ccac767cbc5374e15a5afd0e3961fd9125dfb9e8a002ca00, 0x34fb34cb084b4b4a65c11])
noncomputable def x0b : List Nat := y0 (unp [] [0x1696b1f946d1a09c8b6354d27c38aa34313bb72e93ff0c9d623a95137788b9d4ebd6304c2c7e49084445ed74fd39a8134b30137f679b0f6a2271b0772753769de2c85f144e99dcb5b0157a33044759c19f11d800570aec58e28e9e5764e50dec655910c3aed8e0a007342df6facfbf7e889b, 0x52cd425ac4ae853bae3be6b1fffb46e9e70d9bdd98c6179777eb1d71b4524f2d709b8a0e8935293a803a31e83d48a148f9cba239ea2e22e9de4aebdfd5a3d6760783a5a63cae85294ff0e9, 0x17edb6b649eea1ed72da27e99c8d151c45b03c37a6182b5a88ba79edf5253af33df0b63b1202601e4080ce413a455344e16c0bd3223b2c1767b8616021f4f1476839debc7540368f91b400e5f4f49ef546076fa6e71f98498f83e7bb0e828060dc83a4f619755ddb0a7de1980000088e15e5, 0x10872d6bb284d81bf09391e743c0e2c48824c72894a8c0cec9943b03c645802d8cf9787f28bf44d84c3cac058173e224dfd5c38061df0972336aa27da27146d6dff9e73fb5b78317d97b278ce05d17505cdfb5f872ed962de9e7ce835ecedd84e1876ec506d29921884e2fccc876ea0406a0, 0x185e33e06485e1255712315f96bee9f9f3b595618a0cf4828697089a7054166f5e800b61e8e6fa6d6f22df3d7cb4de3ed139fad4994c8952d595d9e7252a898f22a869a49fdbc49d30b0b2027ba9cfa892ef9a6eb1ff3c8cdb04e576c829e614e593788a6fcc843445c67b854519ee0001c9, 0x1891ede8169ebec7c7c86f5703f1549f55956bcfe3f16c2a76aa49410ab5b701008f64cfb15b168108cfe18636f7d0b3160e6e432787c8f7b5dc031333ef472ac7d4965599e83db87e1da64149aeb9ebb6b36a87e7c7e55bba7186262239a164585242b588e3bae3a2d30ec892b7c58297a0, 0x7e4dc5f20954b3dc4444c026ca59f32471fca09708a2fc95a24baf72fefa5396b6f3c130063e3213f1d4c7ecb113c3782a226271fef5411e45cb468be24a4f9c782044456258dc4e2cc500ee55d9e3a6564ef4f96f6365d232a7b880efd6a91217fbd6f73c9adc049a118bf469da93c3b2, 0x58719efcd99a5f6af94a95f3e28084748c2ba3dc9745f1dad696cea0b2e025e58f9ec2dae46c7472ab81979a164de422201050a86a21d099f90b8b1c0b722340c513553701e4e1194f5b3b07068f667d5f7669376e87b84e02ddd8cc5ad6fdffeece960786b503b3de1695c51f50000, 0x1928ae61fdfda931f92c2b78a163fbf05180d137026ef6b5084eac82207c5df865cd8fd9f46c0d41bcba9e772267658f016df959bc6edb4461c0e153e23c194bae9f7306f73adc41d381f58665d4462c7bbb09b65587202adb7fde9e00000000000000000000000000000000000000006820, 0x47fbef341236930bb32e72d1ee348ad6200a92c3206190c2cdddb06a07bfc00158a80ae0ebfb7c48ef0127fa799b7702ea096a9a0a60ea5a20bae99afe18361d3258c624a776ca21befb9bcf63b3d69a1f17be640d5f7f1780001fc, 0x10f42f1fdfc8c6b918eba9322f84a05090f816ec342c77812893eab05becb07582d52712775d70a38eb812bea08283c0f32deff5c4fbc93eb9d4580969691c55907fd4afc9db070790bca04dccc440143dc1dee05b93f2bc41e51a44a25eac3f0a519a3e63e69c8f53cb2780000000000000, 0x198dc53ebf701e58e9c68d149e34aa929ee8cd1a4f499d1dfc19e636092439493442022b3cf8a79cb77b17cb6523ad39ebc08fea8d79b74d243734c7dfce4074795fd0aa32bc484ae0a2d5ac987642664c0cd096b5b4d11105c2ba251e984e0ba1578acbb5b8ba2cadbc0dbaeca9c24e7511, 0xbdd398631237298718cee696357143794714b1d1ae1581e829a24bead313972ba1aefac9439b277186faecedd3942ee75a310059e22629a543d0d5a7762e77e45b7d89e9175beb4fb42322165191fa92fd21b5a92b34b0556a167a07fe9e940637da4d590e14013d792505f138650fe45, 0x1bb85367c4892298efdc1cc587c47c223e9c2149040bba04a7015bcf2a34eb636a83b572d285c6bf86c8c1b46f19fe536262fe081af7092bf406512294789f536939462eef2105613e0c2fee4ad4414269a7c2b919edca15dcf37cce1cc86cfe132f3c24d7bb4cd01732b19f00000, 0x4da3c2bec4fd45a067e8d773fb31e8424da9f6804cc3fc5ab5ba0db3e164cb1539b7a319780ececa47f7f9009047d08ca25d80de8dfb5c97cc4abffcd69bddba63826178f854204f816f35ee492a7098673d296a82ab10977ccac767cbc5374e15a5afd0e3961fd9125dfb9e8a002ca00, 0x34fb34cb084b4b4a65c11])
noncomputable def y1 (tl : List Nat) : List Nat := unp tl [0x4b20b96b1fe36277d5c212e4d45032b5315b77b549d8fab47bb0961f8c4bb30f3d4d4d3123851b1ce015853e24ccaa848de541e7d65aa443a6c19cefbf567d6679f2b6c1f13152b917c4e57ac92c11b327330a5d7bf2b0e7f81fde000000000000000000000000000000000000000000221, 0x2467bc110ebbb71c8525bef5a61113142effe5c9d64daa6f913ae6f241c6d949a1e47cc66f6d243c5eda0af2601900a323125a229f2bd5a6c296bb92d82cb37710a9d2e372b4f4c82db358b3eff4ffed5a0b2351080b170c77dc06c8bbb8ea9800bd3f0d449d602797e7709678000c81f, 0x4cb662356831b2b691fb8df18d8c1a0df7a4dfeeb103d9d2cb15aea1d6d95dc282b423ed5b88b9712873cab09a0ef127dfd0e083ad9a7ce7feaeb878aefd5a13ecabedb2822006cb17a06cc4685949ce945e5bc8b0dfa2ef6ef0ff7b611d68e3120cdd7dd77eda0b5ca1d63189800000000, 0x3feb02e00f5d812d99089dd6feb21a274d1422b0522bc29cc8c88edff983fa4c5dbfddfade4ff9d5be918236b40dc9cce8f3f0e086ce74eb6bbe8348e09d5e549d2dd76533df29f5eae000000000000000000000f35764405274876a3eb409f67f74ba59ba942fd8c88000d0a3, 0x133ac9fc1a392fc1de1a696f16328229b82855ad9e581df5d8c7ec07409d3c773c390458302e30be32e651df0f6812370e96073c102866b345be5a72c04a5f0532432eb8000000042eb4a4c915d99d5084c6ce90e6fc3ea571f233b238dacdcf6a01eb232e4c6a251dc4f110a5b8067, 0x489b01be67add0e565f0cee05042a4b3e28c522bba883f8626790d2fc731f7b15414997954da1e29e8542814f1817edfa503da97a05419ab7484a9a1609e4146d9082c0379f5ea361109cb8ace33dadce2f9b658a46016fe293eff1e1cff084fa7fcc2ee99a00764776abf69c0, 0x604e6b34c4e5743afaef1350c0844852e872e99bda18a5a8067985197836a0c8bef816e80abed257578a32367f97d87cab380ef89eca65834886ea0d722e4ecc267b5f48410afa000000006b678656f50a74a0100c429a957d57e1485a456360eec015f4bd935a40ccaf8dc6db26cb28075, 0x30027f95454dec98b1cf4c11400f2d39cbda08fa8315922425cf392a283ad384dbb93bf3e5913683826f0c640068cb8e33a24a5988caac226cef882d34521385c1e52c5193aa78431ee60b0a0e9c2c6191c6e4129edde7fd0685871ec33cb5c147a6c1036de34d2d558f65088f4e7e520, 0x836103e437df9e0a40e2ac0b0f4fc828eb0dc101306043199f2e9798e816f49980e1cfabf7f3905c9bcd1f1812a8a6358a4fb593530d9069d5438484aa09f788719c788e0d7b8d64300fd15d88000, 0x437c3040d0bb764081f9240e7ad457507bb1399282192279cba73226eb13f51c831aa5294b3f32f27b971691054b1a60f4f569cc3e1ac998866dcf21265af3a2924d0bafd3f67c29c628cfcdb69b636f3d73a24030ea95b728800000, 0x7116aff856ed8be0ecb6c806493cfe24e0f6f0c1fa7074b125187952b35470b5dc2152480a961c7fac24058be317bb795a1e085df5f17ee77226c3253163b30a15b880292d447ef7a71904dd666077d4ed49656b8bcf78c7b5a565c353f50bb92dac6fbf09724dd70000000000000000000, 0x369b8e0775759134e4331f0cf3e6d814059094a25bd7eb7623849bd54d591e49fb77a2f7d358b2a830a27b2ea94c8972cea72fba3abf3cdd8ae6797ce8a6b18bdbee86001618e4341a51c5443090368eaf5f232af9c77de9b23f9b499dea75e32f5808cb02a7e5f1b121f96f1dc00008e, 0x77fcfb138eea4da3c3c0bb5a32458c3501886f6582d0001cd99f5c6525593c6062fbaff91772d8f8b702f2469ef64798916af4a57ab6e76ee2a8b50faf015679d8420a301c652076970d61ea49779fa19ee98c83446e1b5a3c2a5704ff75358789f50541b7b3bc7d316611c4299f5300093, 0x39f372213bf8e9dbe63d683290f97162070efffc1f20ca2ee0b44cf8f2036ba51b6ce9d163a692f0d89e2df5d17397382f973fbfa9a40500e2744a2d23ad7d2e7fcbd793688ee00000000041cb19b15f938e794a3c10bf03e91d2ce5d05551bc5adef2be057e03d498048a41b6c2e6000, 0xa8596fa4138648bfe07b80f1998c0979853eb03afdcc617bc2482104a59b55419abf71e2640595f0897e1fa3f0271d16169d70187e1a9bf36d5b79d1468e99539834cb30b86aa28b093f628a20f9087ed353192ffb20554d292e9da262664a8454f388a7419fb13b5fb, 0x1b9d85c8d6cd64e5cc300307e126bf769009aa50099f4d306347a64a652ebb429a5399d253587985230a27ecc5e12b53c0e35830caa2df949348064d95287b136000f0e27bdbe82886555ff2c0ddab5c47abd823cf05475f81b124d248b00566e272897ed24, 0x86fcb8876dcb49dd54a4ef6234fa23a177c0f5b3259db448d6c008dc908c6f1bc52ce8579a26ccef0f0a941e1cdfdfc1484345d836d8275582fc2df67c7ace53dbc81cf3471f3e8884e1dd234748af0946de606e9e88659bee81c6e2fdd2a5e69ad80000000000000000000000000000000, 0x8f24b2104cd0654543ac03599688214055e49fafc2587a2ae988af5774ab7ac2bd190e4148977c86649e6ecc6cfda46f3b369ffe588f216b9c2471044fb900fe6f2dab3118fb5c8f7d8273d1636c83e072cf04f0f630be1600238c2003dfeee026b1cd55d83b1078fb67242a2ec9573700b, 0x970d43ae31f11fe77ff8e704202795dc22e86f24a7a0b566b2e7ef928b9ef2da60b1af3827ea4918037f3f040ebc9319bc4e2c825da1fcc8487b23573c31d7c543f52008bb169ff70144d00aec510a6b950a8ef72f4a0221661c759e04200f89a00281b7c9507faa401656bdf055605550a, 0x2119a15653b2c42d926717ad1094d79afa8eb798490365ad27042456a36ccf41b3b151f7aff30fccaea97138548d51b9066fdb00217599b1022065b9b45ac5a6889174cd9ed84e6de3d3af8e2181d78453a3b40df9abe30b071a303fb878a7fbdc30c6856f57b5fae5eff693f389249, 0x7cbb6c7674a67bb9b436e09133c27a0e57aa720af3ebd01581cebf0c55aaa5f7f6720251669391bd940a7bfa9313e397a19710f5f41fd315858002920e626d9c59105eded4d452d61ce3621c57b15c6f2ed5e2a47d8d7d0b99c800000000000000000000000000000000000000, 0x4c4b2263c1cad22a446e72155627d33084bd44906e74347bbdef85dacc7437f2cfe8bf9786352217ffa53b5dd9a304991edb6fcc971674c640238df4dd287d1ea96766c566cafb60363dfea126d692ad05b12087636cec6fd891aba7d15c1f54d1b1a49fa56b839bee2dd257ababc80c9, 0xa431c35e29ebebef0c58a739f0181695beaa49b17f66c5d58467517043c099139834b332f6972fca94429ece6788bd9c064a1ebf61489888d90d9b95b861f10a02cd51a3a3f09810a74143ed1b57099bf14496e8f7800774ee3b3405b0d80b918bcf8d153b766702d921ccab060039ae3a0, 0x118e0fee4e87e5024a5d066faddf762c00e2daeab4fe59467e033883612a270bae5195df6c8a6cc963b20afba55e9b956bfa140226bb7aeec77a02f59c61b51bf55001686a7104ab3f91629f72b11bd60e9b07ca1062ae1fd1b063e7ba17734a528dddb8b07144b6345711707f3e0, 0x118fbfb4959891b26d53119d40faee781deaf8a251eb8599e40704816b9d1065d0e9b0a50fbd3439fe03bbd1a0f5c5ce82eb27c1662c4f53a7fb101fe882d2fe2842ff1a0440650e426c7fd638f436830aaf2c72c19f2d4e769feee397ae8eea0467c6e34ae1f15b1b687093e48151c4a0, 0xaad2d569b2b89902173e081357f12490c67bd4df1bff7ba55e77b34f71ec1dc115f7ea846fc622236b28747c186d99ae5251ceaa5e1eaafaccc43deeb671ef4e5731e0407aea15ec32c8696cbb2428e45a1296288bb81283dfe8f1e6e9265fa44757a6a10ae2a3f8db3eedef14e5400000a, 0xad3234e44b1a5f8ffaa061736b74258924b8817ca0710dff5a6829f2b4e201a6c82103673b14804d20ae9582a572d111f6ed8dfb14b83c555c5c764051c8391866cac3d92c82171fe3125e837fd0548387b1ef7632dab60446e5dbe3e5325b4954e78af5094c0b025c5f30e2ba3362c00d8, 0x15a121f001916dc44206246c7fe6f7c0f1a4b8e0e6a16efa5e70a78932616fc1329139b6ada2f720d2442b45a64c06f113feb378d7fb4e2a36cd5aff95dce49e767283d1cae59e89677bcc0c45da082fb9ec00, 0xb0d3213cb94bee92e2eeada9a0f33b46242c3a538baccb70bb0e96ba86b9360258bdafb35112c69fa4e40beaa963e6496fc2d42fe1a9e6eb74bf03c90275bcbfca0733a7a19c718d695ad13f156f1149a045b1e7a60ee278f589ddd0c0ab27f1a7ca0b8dd5382216bd0b9823d3800000000, 0x838cf000e3368b81f8e4c3e84f4ec4c6a919435464a188615a1f10bfeb8a604bed96f3bb4dd37170b7cf28452bc68b23435062b8560994829545f9d75adb0ccc423035f88080204ab245d4f7dff6a1812f7840078f77f3e3fd7b66e6b95c296872c38c5aa36368b1d17e041485c001dc00, 0x3b8bcfe9f4ea990abd21eaddcc8e7db6a830d89eacb46d413282a087276f803888d681e4d86f68aed749b5e431b427db8df37c4ea440ecbdc239edb9718f54eca03b28ceeffe3785bebcb4898c7593ac8aa25a1836d0d284090f24559f201dbfd4496919de78a4f244a5b3505ff50000, 0xd2999238dcabd7ad9e30dd874af2e4f7e762f984b9cb0f6b81aaa9c49e2f4a1d8845096b94a0f6e3dc243ccc95bc45f5c8fde3f65f5707d0ab57b510478c54eca09b2cbb0942813457f1847fcb65d90a803c119d613de29236b5115205d52d3c0683e09e2a6b9a5b350002f0c89, 0x8e76f1f9496fcdfd590e1da417911d1a2d25d4a33ec2de15120c2ac4e73bf86152e33e73baa15db49879813fe733c99c94f2ffbce14b7c3a40bc87b171c3804c8ce03b8b818c6dce6154fc18d95dd8f4583d2a42aa6f66c976e9591c53e50e5b8974cc8808746f5165cb333940, 0xb8449ccd7b2bc6627a45558840972d11d480a24f12fc75633949b230c11bde655a3b9784c620aa74ea2240cfd139158056d5384a0acaa6997fc2690e20cc067cd9b4fd11ad27fe75681fe70f9828bc2f3b4bb1d2af4b3bac7355bd1992f0dbbbc65d79e3e54fd24dcb5dbf81fd11471ebc7, 0x56ed3e7af29bc19cd9ffd77c30dff7c054ec9d96d3caf6ca1fd138b6caf98e1f1a20f36280f62172800124465999e053ee9ce3c0c56cb121272fcb08b79c7de1720f6136248458ba6b4b3201d91e615b27de9fc5bf0639f8fda9c3638acfa6af5119c8bcb47cf409effdc11e0103b5689, 0x1d58d26972101a87f984d73a6d84e271a4958137875a2f331cad646e8a3910fa176aa80b099632678d3418ad33a80da7670cf379cba339c9dc9b4716836bc0966b16dadf545cd8cf006f6b40ab36488eb3e2606f6573cf2dc994ba07563f913eaad3bddb2db2829138117e653c74eac8a, 0x580a8aa67e73490c655fc536d682117e7844b8346386faadaf03ae99ed74e60bb24ae9ded97ef5c31118f9b1b23adf4321f3e0e03e4595a5d79fae4ede3ca9958cfd69fd1f775e5e5b79aaaa4aae4c0b3a29ba534e062836f5a4a79edaf1a69528552e4852f26d74b3fb66f27a5f15e0e, 0x3e22d4e4ad1858074e919196cbfebd1cac12b97a104fb2786d3e818a266afad0b4d6c55ab8dd40e8b413959531cbd9028b36d7ecd8b305f4e415643bcc01210801f4b1ced65cf3bc35a60fd6cb831f6c58eaf663418a036832bab2ba7ff9f70b9efaa9cd6d021c4b0eb4736416f18000, 0x3bc988b0be7ec42297fd240badbde1a335ef5d0e40fb0ec6789d4afafe3478a06978d4451e173ec437780f40a9c284c9365b15449696436cbf0fcb033988e228a7a135137f7afef66bd505ff50000, 0x2bb42825aff655443e991e2b03e4d4080b8f89ad059715aecb0dd6d4bf6b9607dfd3322142e0bba3882b574cda28fd8f4ce906dfbb6f6a1672584918a3b70d4bd7bd174148bbf6adc34065b5c93522aec54be112fe05a4242b6e1ee11b9f3f554d2a34f3b048c96000013e9bc08e800, 0x3b6fd7848c478043ffd5f4b7251a18648a555a1402f874963f782d93453d0d2d4921cc2be6aacc322b80f0113a89b531d96b7da8f3fbd555db8ed48dae7cba65811f98bed81544f713168eac0cf7dcc01f9269314559625df3350ef1b1048f2d4dad6cd323ec1bc70ea03106fae69340, 0xcd9ef77cc9ff0aaad1b721a21587ea2a69876ae255d5837424fc55b89fb194a7c941280301d08c4437f2fe3ea5514dddcd717e3f5bab87115b8d9adc4d9710e934b6dfcbf17b96780706b2b939bad6721562ab66e6c8d223d78a73cca9ae7a9d17cc236250284b6ee259eb339962554b729, 0xbf08d51206668adc42b6634ca753bd6c27f1703ad64197bb2eb84318ac75461469fcb9885b915c7ab76aba860bed68ca8b5318a863d7d2e0cd428349dfa88a9009e06d2b54023e76a1c01ddc756543538f18165ed657b5f33ed775ed1a198bd3febb42e467fcbb90a4c247a8b6c0883ee8e, 0xd5ed24c85cf8dd2a8dfc45f402f8caf3a0a370da4dfff62a6ba458f2fdaf9b53e99f7c24813cc443e1dd7cff964ff6f8c20065e54169e0a59b969c9b08f786afd49eb07ca9ef55a6f0bfae458313cb2333815d3ced888db3d24e38459b728b7094371cc221fb53340a225557547e0de8240, 0xd4bd15a14dbf81c370ac0234a7a4c9d549b311cb820ebef4255eabc5b3c23d9d0651ca43f040378c26998cf18206f69c2a8544614bd0da759000e7ee7b4b1bd020568e9f97f80ce8bdbbef22abf7f49ce69d5abd924da469fdf3048270d2e6ada55c437d1bfa91501a93a3aae1380023ecf, 0xdaa9d861dadff5170bed8faa0addd0d0f20f9cc0dd8c5e19026063a8f15a8968b4f359018ce10097191c32fb876e19fad8cb79250f7dd446e0fa45e643976b496d2aec72b4849b0099d5157aa3b1acb1ac054b481fb18ad1f214b51b12f6f47272257c20df2719db45cb479e97a237ccbe7, 0x31099af1b12ac8cd39cb846e7ed3a35871142df314325ca888d949aa3b4d67cec528b7c1d811291a5de0f8c32b649d2d798ee9e60b932ccacfda5932abca73af2ef796b16f4cab1659e0c5aec623db8e59db352870582a11dbe8fc041f8407734716c0f852998020249b9049047a0a0, 0xaa56b4f8976a93a2cb3b1aa589be84a4d96cbc13bf483a5a0597ed0776b56f8a681ca21b9cdc8ccd0a29369ee36ffd8d2eba22ec9513f2904eb87da08efc554ce5796fb9d85eb9aa94f5716fcd22ce1a6716b0c671418a1519ac72ddcaf9eaf8e29468c428efcd43a34e1e5114, 0xd5875b90f44140cc8237a036323c18abfece3eb4feec4d6fc010b2972e4da3befd356f86ef1621a99bbb4d53d19266c897e8404a49f94b539ea8e34fef6a79fc0864b36fe3c70f07ce60d0c298cad7efe4583566658e2a6c751ea0b48b5a6c71717cc6012c998a7c88858d6e54b85ff5740, 0xa425037e731cb132db2a00d6ade172c3d5986d9849c9c5da2ff744336580258b0308e17586e6441ad75817eb9b6065e44da6d0bdaf789e7d14c944b7c0c588e1e2d392ecea6682bbbaff92908e2c7439d4bfc7f846c60e6a32838a8b9f1d4f9775f556c169d400cfa99fdd47a0, 0xa7921d06a4fca166629dd2797def9b36dcbe92e4d64783f6b2fecc02ba9cd61970331e58699e97d58e50fbd6469ac7a5783944ffd66b8e3be120837b6f1d9e082e0b4b0053fbbf25d88b6e04fecf86bf84557fc09e01e15262c65583314a6debd211f9bafa6dcd20f2e2c36962, 0x1636326bff46ab7b618bb39643112bea7d218af9fc3ba9cc2329bffcb8803f1d86bb354e426b40866c46fbb910add92c577bc4872dd323f9f78674b6974a6f1faf69bd169af196d9e0c5010ee488233045729015698858bc7b088518ccb573e6bdcd4a1f09bcca21247ac64e0010e, 0xe81549daf5cd1afe8c6945d82dc9cb07c01052bbaa780a8e3292327a19c4579e563a36885417b4d74ebcd9d321fba2da0482a1e2561eb706b247e0cd12bfe39aef4b4ab7319e3477932f9cb9e2e973bee9fae656969c377c0e7cdeb4e556d44306c96f5d7ed3437e5021cb55af61c00010e, 0xea17704e8517c61ccfd4448104fb444fa2383fc0ceea664b7fb6645097efbfaf77933bec688d713e3b0a8d23647d9aa062acf22c73dc5386ac3e4f264395169eeed476caeb8c9fc13d7eb8fc70395c6f694b892508b4bb529b9efff355673a47791a643792958274e159479e97004c5a9e6, 0x349e895d93373c489aa2e73dbf275ecff0568452a104dbb76aa8e1680022fc17f0c396dd6f6362f6a2f354becb1f9f5f1335142f7d43f3162b144e03c2569d9554af39f89fe445eeaff41ec80ba280a2355fbbd520f0fe91e42840d5384cc5f8ad4f22f730b68f46c0938410b90012a, 0x6fd0e33e4014b21d710efc690e82e09afec7e55e71331662fbfdaaa9e26976fe6ae83bc42532a06407d745bffb85c1ca901099ff0ba445a963070188c13776faaa2865594f046cd8e1252fa8db356556991cc6b5d08b5be92d2779120a490ca0fe1ed87ac71650f1d3754ee1380023eed, 0x2f332b257c258713bad3b84b7b05465296d4d96ce43c3c5ec67f29320546737deb2d5ed6897edeebed28246505b729e8187df471ce8c24068da855c048352ca1ebee5cab52970c229c07f2a5963ca72e01463516189857e6d3e461501a7b189f8c04e70f6c01e159479e97004c5b7a0, 0xed9bb4a9990386f80d17f0e989fe69239b6524e6ec6277e988855f4e9befec6a7bebceb6bdbbb8ff66091966db1ba7955c77206f8b3d093ffea880ecb4f332465925a752c7ba91665b77a054d847c5e89c34690e8a403b71d312f82c81dc1cb3237f74d19fef2b55b02e4b825770d9575c0, 0x349e890e3c45f977444349b4c88f32604adcf96af6d956ef84fae728b968879cebc43cf4c8f61a4c8693d0750eabdb149f267b1ec340c7e632a9d49e44aaf98224a855f6f469d4476863555a91e61936e985f2c1ae5fb2c8153fc080f5c805f16886fc760355cbbd1837342dc00010e, 0xa73db7e1dc6a587348e66b58ed5c0c794a38416355ceba6d990769d1de872a32d0be52343e0ad76aaf61c977305a4a6f97206fb2aa6d77a535587a9826f5b41d99505540ad888c1e59f5cfb67d633c45d4628840b74a8dc2f3cda66d0840ed87ac71650f1d3754ee1380023eed, 0xf580c58e815ac421c220f031e6444bda5fe7c93acc1f14a6de60f6f62c3a5fcccd468645cc42a32f7137d5afae840510d79282a90ea3c9fcccd6f6cc2c42073cd4889362539287b689eb1e2da644ec1f92a8a20c607deb4e8c4b3bc014f1d0fe72b5d5242224f4b162c9b8a7f2d40023cae, 0xfab30c4492b41306495de90fe63ea36c6930cae4e1192c6ce9858a3611eb8950e4660cb73d93ebe135bdb1c62d9ce38d82e3b0afab39d15b72525a57ecf44112246c46f1d304a41e1b457abb8b7618afd7fbf60ae48e11c842999858a4f5d6609897939512cb2ffa86887ddae504b327217, 0xd8b15c3f1da00cd7187c67b4d4802042c279e9a61dafdfc9eb15c338ccf1d1ce1973a5f7dda2bd73df961513ad178cef86da267e361b4a76c722b978ad18b736d6ca88cd35f9c33d6745d74b4c97b87b6b879a93e732db91316fbac9b89efd1f2745c8b0234df14995a8c16cef301a921a0, 0x3dafb09f11d02c36a30ec296caaa1e737bf9a1ddbdac853c1c0ba579714fa61a78e523294398164053f782b952a7e7b2ecee9122fbebd419e2783c9f9f56eed462bae4563f97d9c9eb910a4e7b35b6de5585a9ba8b6d5c818622520df9f9e251b2cc642fce80319d1a194d109e8fc474912, 0x1afbb31c353984ff9bdddfc99a132eff27d0b00df64be5ef548f17449e032324edbc8ebe19a131f7f9771891856109c8c548fad6bca907d5bc2de47b58ce92a0b3be5bddbf088967b7d07e32ea3c0bd3a1200000000000000000000000000002a2c8bd3952a90bd782857cc000145, 0x3956dc9bf11a3a9f2b377b8c6768c12a57a1a5765f311e8b695694ed48cfe74a7e56abd5d822015b0179568ffaf0ee9e30a834ba626d9c8744019a5d4a96159c38af9d30b54169dc4a0868b6e3fe4defae1dbc9c5fd57f014e1deafe70d99e862141c171068f96fa89511068a001d48, 0xfc9b8be41c69a445e6745299079cde53e9069de10184de4c35325915a805978f04ae9cebbd0d71f0164e5191b4e3337969d75aeacdab62832141d09a6973a93050ee35cecb3ff6501c767b607bbeb826de94df89912e74155f9c068aed58b7b21f78b50f74d83e6cae078ad2dc4803e3900, 0xf6237c7f35dc6121c0b863bc6a62df297d78eac7b655149a0ccc3fde05500add369b0935510739926b8cda6187ec5016a55eff198305fc9ba852da584d2cb66d1caa7b3f8d4b2dbff075f9642c678ebcfa16d2f5c7f14f4e29ec2e57fdd7314511f5962e9a5fe10026d92f82592800, 0x3db905fbed42cc3e887c7498b48c5fe8f8d143610cc77270b45cd6b7d3444a24f1f7bb5fb99d39850549e35aa237d53d1316af414be4b3b52218f0003b2f1a208a6c5ff1865609d31df222010bf9bd226fed602fe1b00, 0x7d305dfc33971a629d6ff8be8120d7e34f4869a92812607cec69171730d5c26815a24a93595da24fc231095cbdbbac59b0cfa7cffa60ddaa01573325826d06128835e2792633f7de96d526c879794478e06c43f2d29fe7b7ee26f5178ec9831a8a99771fd2e53af2aecdc200000000000, 0x7d305def27bc2fb3d3d925c7990fe3bc2b65964b1d3fb64dc0142d3e5979af008b931180434521f2a61456842d0d995537d008c2721d5ce8ddd9b2978da89800d90f38263e45ca72bdc0c9cd797a91890096478e3ee912a500b4c545ed48d4746404f4903ef5deb57824ed92bb9100151, 0x3a1ad6056855155e22f8199e218841ec642c3a30c6af99f89e4634d019df997601b11ac1fdd5b3350bd347f66e8046d399096f6ae48da77954778b94a2501680668421d6b34539c3c919caf9a2134e344814d4b80d4e14a1c34c20, 0x10dae076f36c5498d4ae9f756b2915adb543bfcfe44ba01216f78b9e89024d1d5f92f58a1459bdd7e7f64852f3187c32ed4a221f5d77342d4c3898d03ca9ac778f286b47176d870f990f2cc9050580c577199f097ea923130b4d1d2247077c172700034522544b78c66c0000000000000000, 0x12f56497316d5704e90f5e2efb22158a39bf4a81ba40acad9cab367ee0fda575dd73eb81da980b5a42400475ed42c8e7c10f695dd4f96342157372757634482da414d216f4322f8d5fda31732ad9e9eb4782d87ebcb44888ce777d40e778425e8087a3f526feaad011a99ae27b0060b3237, 0x111a2511d8365b050a4bc7db1f3538f9831690d53923ec94019b1f36c152a7e1b207f104400390f41e8bf4a9a78a9805a1ce3f2771939dcae67a805439303d70964db9af8ffae993a719fc3772d1112989560cdefec0000000000000000000000000000000000052fc376c573cb872901318, 0x3b6fd7848c477f9ebfe6192d394de7cadda4dbe91c8ef7ce9551c066e021df7ac731daf0deeb5ad52503ca5d15823d6101d1856fdffd0941f53c54b86fc672686b6e729ebdb1d31f272a052a12170944b0339a95de706777b01a2d43561022f66d90c79b3a2a2bd03db7050425f0e9d7, 0x3b6fd784895ec008d7e35056fdb4d5f6ebbab1b11b2193995b2f0b08f631d4994b164994fc3a66433095dd3cd7ceb43e37b10299ee96a9b2b1ceb21d555e6f09da7c821af1c57a72ee01ad450ea50362654d9e62fc64f1d24c93439c307456ee04c4ffd5af53dffc5cc220e7fe850000, 0x6af08862d74ebc0faf902ddb55d3b93d63959ae9a7ef682e7846ab225b9b98225ab8fcce59fab229c3dafcf749883c1954eb3df41e7101cae41de5449246fbd1f7c7c400631d0a100b30713acc6b04b63d502c77a1074091896076469faeb78804e76c6445e1af23fa12222800, 0x7abcda8312ce46ef4035b7d7c930f5fdc1cf5d2908c7870823ca21932b564941f13811b85f8a87d61b23e20670e4055355fcc6da41609d8f4ef5f13662457e81698d4be5caeccab1add375730f1666fb5f52be27e4d46fc3af5ab0fb5b1d7b8b12208551dd6ca54d32e59e6812c000ac, 0x841e37c6e4acfae15d02d10508cb3cb93d6f81f931d4c2ccc7882cb38be178ecd1e85956d1cbeb8d1c1fc1954a00beb9d443632ef190ea3fe30ded19effca75151cf566213fcf997e7284bae304f56c69671cccff08d8bd4b8b1dc00a3142df215008ff33470e82ba2dd17aa0bfea0000, 0x7e4dc5f20954b3dc4444c0265f052de3b6e387054e1dd8d7f2bc8181ad1f37591115d0d2a55d1aaf8be31c42e78092f64e3e5a2c7232821e7f08812c978c2fe02427dc6e9ba9c5b508f6a21855e85805996df50f6cb501f512f93993f954369a343d35067c2301356e1fb9c0c30b671403, 0x9eab2a54d747aae2c913134d633403e41af5d87fc0986fcf7364121a0dd09e01c4abd083f6d9cad370a8fc605f270b66546aeba6d231e378b9dc5add7d5a45d662799c24137cdce44c465b5528e6a6e44aec1ef306a2786b6604e8ef4b43fb56c3a3eb24c16a5aa78377f92645c51f50000, 0x11e8d3f7d2cdc739a6bd69ce938991a6d2a2f020601b8c6cd4543649d3294d3041b23f3162e97ef20de162227bfe1b482a4ba3c9aeccb51b1a23597781b7de245e2e9a34de7655f1d9fbed7615c2e7ad2461ed49bced0bd4f0741fe12cfdd3f64c1cc48ef17f8f134f150bee5c4db78720c9, 0x8738284d7984b9e5ea02c8f1e3b1372ba034e6dd6d5d296dfc4e41d5efce4671216dd9e5c1800d5faae3606b20d50c50db73b9196300e94dc807a6cf0d8457947b16ae3e63da217332e640130c28deb4a5d390b14a726f50f4a5abd8305ef51855de070ace836c66e2530f873fa57af60, 0x2a814505071f0aeaa34b6bf0f2909d537dfed5832a5215d825d5174e9d44a6f468bb391e293f3222cea29f133eb826dede6d3fc657e4150709be80eaf1ec7eb240318b5f95adc872ca960254f94, 0x12a2680562b482d723808f1e7b807a35e59807297a60fa2357a003919c3bdf5ae5faf4cd341bdaa93f88a9859d543d26d15967c06a0bb37b13f6b006af13b4762e9b6979363ba74bdb5bc4e5f3ee75266b97b93e1d6bf2840cd22694b9f581b6c822b2b0744b69bd91433580000e2b302340, 0x8c0c72f799417e800710fbd2fb6d6f053abdcf4237875e10fe56945839733e1935b6adb740f6845d43cf48db419d984fe6715e69dd2e6bfcf516b3594c14ea0bdf315132667850260b62f0cb3398ff23731ceee27899f09cae97359b3fc9248eaa0e82dad2f2a358684b88d4e800324bb, 0x8a900d2ad17dcb0217109d79f420be03f1d321bf3f746fcee4717a6c18ecd2f1499029b2cc399e0506797c89310b1698f98c6bee1754d1d4385bd4bb7700306f46b3698ac2848cc4e07ec0ee13a0bb9a1a1f1cef338698618abf374a3404f611fffcde60ccf75fd231543225e053598a0, 0x12cc2cc28682b3e331030249a8e7511ff91553c8c16295f13d599c8872dc7ad7dada9cfd77677880ef6387bba0e597712abd94a2ca686202b5f30c621b362c05f95b71f841a837c99b0adf5dacf8210d41c41a6210a743f54d47e86bced3d2d3ff93eb25bb0d946b982e353620ece4c17d75, 0x12ee2c1ba24bb986d08e2ccefe4818176ae7b72f4d0648b481297cce2aad57e25e69e0c21e8bb26de41863ca2066c5ae4dea0155cb3b57cdec71a4cb8275c1ffa3ad695f27011ba8e6c75591217ff5a77b611c117a6930e8de00c4b7794b677824e2971fab5971b4e47d5935bababbf42b1d, 0x12ee2c1ba24bb986d08e2ccefe4818176ae7acfdc898b2e2bd1a55aadefffc78b417d442357b88a4b695279fb8679c4b646a7bd3afbc455c53ecbe6aa22c0b48fef0ce774c2d4be3a7d189cdd71a8caf677e228a64fc698af3446cb520b668629ae74cc9da6f4c8d1a9faece06cb11e76e15, 0xea9657dff264326e69d36d6b875248816962fa25205e46a2501a395140497aff9d60f8526822c682acc5d4c27f7cf9000d21c8415fafa2d3141af29f9b4af183159a0da1035c0012df678a5240ead8cddf0edbe701ade46e46ec3371da2ebf540ea74612b8f7298f42a1f9ab1d, 0x12aee19d3e890cf0db9fd8b4270011eded501af996db3108611a85df7dd142e1c022d3bcbd326cab0e1392000d2e858997d518b8225b9c607fca81553231105dda7ea12ea87a5685048c2b3540542947d2cfd310bd8ac4579d14f76bb4277ce3fdcf41046e04c6a087ad5e3ee65af3a0017a, 0x423551fcb10b992da0cb7b61060402bdcf4569d3a66528c2fa40a546192e54985ece4dd3a9df1d2feece2e18e5c1479f001129e3755bc9486e4a230e9d7dc9e783f2f95d0b265154d89d4c3c55ac6e71adae62490d12fceb824582c72b7a0327db7cd5b133d45c2894446de2b2d0000, 0x9718ffc5d66f6d12d37f7582c39d2c65d9f20b8eca60c5f76c1a8318794ac1de8f32a74255f727052d04109abcaaa46415bf8d80846f9d565f4e7fd4341dabb24ab30b2fb5fb058b4c91a786970f27c48eb60ad2c48f5f51381d2ce9a8011055b9c584c9ab39ee9eabc62b41e86aae800, 0x97316db495951bad7ca2f3d696c2ce5e0bef5b3ec4b96974c725ad502d4215bcadb4483ae320e31ef7823a696ca82c006c9228880f392474a107a3bd801b1a8b3bfd3ff8fe5ab811a9a8c425847e908d7baca937f96ed1e077c7a20700306c14c6cc9dbc24ba22441d5a4f1445c645996, 0x12e1acfba3dfcce82fa9bec92b1ca968133e462286a352c0b3c4d5d363ee3752cc78ff099d26056c8dba7d65b8b4d542969dd62a68b9211acb9d94e2fa9190ea07923314851a9cdf10d9825c45bc56a0fc1934eafb9a4fcf8af7446f32edece53d38f818df653f6cd89e364446d006adfc60, 0x8738284d79642a53fdc2a50a2550de3ca1964b2a144810d54fe24f5b6aaced5c2d8f77db75bd48f6ddcf632ebc8a7865d8df91cf95cc82780946ce866ac18a8d827b529d5c27b7c0913735e6f6229488a1e62bb60e399381d222c2bc3aed1bb9e3e7879e87f923361dee5578a70eef97e, 0x4acef0ecabb521bc1a19db23497cbb3e63d4c75062b83c66d7816c9ab8bcec9254f26fe91e64a5e68935769ac7b950c0b2bc88c7b049b64b26dc35d279e5bd646adb93b4b53bd68e91c3526edfd5a16f5028bfd121b02867f47c2b1056eea8c958da16cca651446c53bd4082f7d5a7ec32c, 0x4a34070f76b297d8fecf1b75120a3289598b7b95824423b3981e924aab9bd5076ced85feaccccac4fc92ba35d02156083fc7930a688fd57a5b77f50cd39b969865c664a37e288b05dd593765ec52b6aab883ea982988d81fd6156141686262b035acc0ee516b4d38dc99b9f257cbde00000, 0xd2999238d25d128ec8973a12efac9e1dfebb4fdcfb34f08b6c9d911575b9a97bbe409944c0d0d61c2341c1ae258b6337e34ece8a72b9d3c2db267f32c0bf621150eea699b46ace9325a3e424f93109495a01372115550603855adb91ec97ddc31d2a84b9d10f3f6bd0f83df0000, 0x854578a1ef9938815b6dcf34c864b12ce9d0ce434ffa6fb199b5fb737f7dce511bfbb48d665e1907f48400ad1a428ff26f9a9261c7dc9c3baed759ef038fb58fa54686f6cd775059687e1122edc0cd839fa04db8d93b70ddfa39fe5dc3db144fbaceda028d87d8967830c1800565c954a, 0x14eb435a258c371ef755cee5d9213ef7c399bd90c3bf7ba12db065f165f7980ef8581f6cc8109fb12a7e2a505f084c325d662bcfb7041ae372f0af37eb9e5ec4afebabcfacfb0dcbd919f26f373da6be6e8808a48729227e428aee1826ba14e69de31f50b24aeb801c38fd90add94fc30000, 0x150e6ec2548726cbce4d0f833ea2a39522499542df908e7bff58016070f46a4bcfeafd3af75735dac260514db627fcb0e81447e2ba8ab879ee1424b4810a2acfa96d4a39d380f3a1826c1eedaac6a5f91a6698a4b9d78e267485df179e6d5ffeffdcd636e01c6494e86e0047c42c500001a8, 0x5c7fbc00ef7fa3b1796156a5a8a2ac8218a6495ca98aa7fd4ced1ba66127255d3d8dbdb247773d360541518fc8c1ab79d8329f2e13e485f42328a5a20a15a2c3c20694b56491c58ca8756d51f424463267c7919a2f2067ac2e4d73b176839f2d269efca161bd2ef9b7705d10ca9442800, 0x20c018c0ad1aa0f91b390df9d7bb5cf40f24d9bcdd8eb6b66963ebdc52f59b7258c37b944d1712f8d88d1b3f1031dce547fc002e9acd0ef205fd9e773f87b29a9d51a04b75f8c0eeae3e796d3777f293a7e9edf883d61a8e3d14a6330cf3cab6bb5800fd6e4ab7b6f5efd9c915ff690c0, 0x155cf463aa5004eeb0c57669b444d2f92683419711d2fdc2144e8a9a5b6b58780da7f58e6491c8ee0f8da3a937c8434ec52c22393f0e2bf410bb967211fbebf7bfa4a6e8642d1eed8726b756ed09be26c020b581041748321d22f445edec67cf971018e438e2d5a251e2c2037df23492f697, 0x15cc3c93169ad5c774a60e561bec4da955a82d4e9c95263d241b2e7232f0aeca0626ee7f89fb9ea4a7de8c4a89326223fc55801cc488758cd7622014d3dd7bbc05a203d373e360f2cba15222594d704b82f5293cacfe4e5469851306edbd7253d0c9e52f40ed6971134f556ab93e5e189e40, 0x106fb18441658b56b3e3bb891c65401ced997be0f5c2a35ad9509a504f254aa28a8f3ef8936d87e26c960c98c44da6a3fedbdc79889b40c714a4625d3f8331995a6a4d79289394a1cfd7fda1f528847dbae2b4a5e8ac113692339159a8677f1ee340bb09f493753978b5a1e5bcfa1be8ed9]
noncomputable def x1a : List Nat := y1 (unp [] [0x16270a6d4384d207a198e39290005a17676807e0ebcebbe563043b867b10e642b32fc30c286c711c2b672555a185bf96da10a3c24761af5713742d93f6e624ce1a37bff76cfedc9c7d7820adb402a9b19dba2a320b1232faa314a237bc847b2f6503fcb82cc7c201ba32ad249597d1400000, 0x250f8ea488ac0c71c5d8bca8bba007b138b4c6f61e9cf07cc16d580c772872418543f16314586c8792b23c25920dc4a4d0739d608e00a1d2a59c3936451b95a75b0aea3be73c3ba0ed53ec92d7b3535fa0bd1456b749dac284fd14cbcabddb7c0db89a57ab312036c5e0c086c13c440, 0x167d630f53d0e708ce476bb7743dd407a3a3f7163f8f3d487e9d2f372d6bf546ce478072f9613223184969341d5c71507786ca44f056ca5e4a7d2be7c393b3f3a0cc2e4cb69f9f059504fe664791e518811976538a7c7563333f1db231c80000000000000000000000000000000000000000, 0x1c228422641a62a102b1468e6741dd48cb8d375d5bfe99c72f05ef571b0b4e777668fec9e93b2c1001e8ace740ef4c40c144aa7eb5c7c63752d3447236a2bea760176f697eadf22b94b29c10b20639bb12b8b05c28510d8206bb0933351845fff32c58f9156ce223d8a40080eece9, 0x16b0005a6701629bb9fd88d15b8cdbf5c009a0073ac3d5ce1e9183c4cc4121e9f1e4f9b955ccdeab6da06a08c8b4d4b5d29cb7ed4b6171422785981bac2e368da38a4b4f7cc52cbb44240d80dae467659efa07eb547ffa2fd9b046b4bd39e8d455ab236e87c273763ab7d49205347ee55816, 0x16d5f64e941e51b5028029de501e73dcc44130b0d8e6cf81b9aa97b09823892f315347f92b47b38bc4d1fccb88a2f250f8502b7eaae7607dae904f35ca072b12b8ab5c2eac046c2a619947c5f8c0f7a9a3cd27ad5470cc8f06a00e0256a2f6f10fbd788163f9caa4d3f41c765c39fe1c7d2b, 0x16b000872a469023da48f7daf5608db9077d131ce3ce983e13e1088cb38b29654cc6c90084fd091cc8da239739d548392e840b729f7897bd5bbfc4e443c7e7e5de3137791216a65688d3d83051ef885d20459b76b13c038373e557e68907ebf9cfdbca80817119d68d5c65fe295441a253a0, 0x3c8c26d6bf7f59a883055002f9a4db54d2bae91df8a08622c186bce6321b1b04f8984039d7a11ec59ab3e8eafb5a1eaa72d32940c04848ab4e3e61d0ca0cbcbbf89a07ff00af3949dfe65f25a32e9b65eedb0b4ebbf72f94ab3908ac59d629fe265ac475680eadf9ea2e19ee15af, 0xb1f06d47533435749e72555b5cde79229d670b15626ff1eb1b01d5a692e36d281e78e539c289edd8fa88f23d722e5249c4593f8326d9c9902f0b8d22c4e8d926dd1e351b9805780000002145687a09422d54c8c7c50c9ebcb59a23dc6d54c31acfe8f8a8cd44931d78241c3a9fae0002e, 0x7e4da9f9a3e967237382b331437c6b2f604533f2f7f5c137ea7106804ce19a56edb79d235679ca0512684f799e7f71f19999d7712548f0d324ef61f030b0df98bcd58f7506558d31d0aa97fbf2e8edf582eedcde989d390e7b6c824ef3436fa099690421d1ed69569c56df59deb9f001df, 0x17c7d29ce17dc88377e400740bd9be4a53048d06d89e7f2ac8994ed0b41e25c9f594e3f4ac09ac994c0e5b5272b8b62b746fb31a3b1c539045f15cf8985bf586a7832aa9bb2d1b59e53f71290c538aa60b6c2538d7f3a1000000000000000000000000012a9cf2af2bc977410acbe8cd2800, 0x7e4daa06cd7f614458f894f9981c7472046499b695059a545bc06db292da40f65e728eac7d88ec7bc2e6af7038f4c436923425fd609d3d8cf32ca4d85a4b336879fe55ba7169cbcb86b9765ffd59e8761b1cb23cace5ca219cce099f52b1ebbc494ae5fc4426a4175e2e3a761000040040, 0xc5b56fa70a2f9e5b6ff910b339bf6e036eb591e12bb84e92072391f967613fd134cdd9053910a9ea96413711a758e4a6c6de3b92e5e07b6bfdd02410188bbc54e68d8adb8b960bec449e69a1ba9e59aedc0953e71c6e3ea17146ea89e6f4cb92c2f2d921ae5b154d2b67e28e21654001540, 0xe5a4a0ffea8c22e0b93a3869a4d58d0bdab0c994aec0a7d66c4bcf3a049678ceb1bd50f03e21b37fd0d21e6377105420be880ecc95c1efef43397037b62c829afe77ef669ad254edfac7085c494442f3015ce7d3f99ca93e0c09c58f7e86ba54f2752878eea7e094de9b7a00000, 0x1839b47e0eb445325870ed18318cf7b83dc7f93f492b2509954673190a9b650ad8000095c6d03a1323937a27d6196f46d81e437a7902edab4d5fd4b2b2d5eb06b2cdd6440d2f6aee7d48fbff5dcfc110fc4f20d73b88cbf76eda9bf8e1a1f5005d909a3b98825884c138e5d940cbe8a0000a, 0x15c280980d50ca52edbccd75d4dd22a200310a4f08f4467f9f9f362363bd46e675fbdcaddfaf59920a7e6ab3f0eacb])
noncomputable def x1b : List Nat := y1 (unp [] [0x16270a6d4384d207a198e39290005a17676807e0fb946b5b5a4cdd18312fa32e4772a973964b3900d3bda8bf5d563500aefd17a37fe6f1d4750fba43c304b1e23723246d3f38d0f2cf93e2bc3b5370e51238e944de26a2faa314a237bc847b2f6503fcb82cc7c201ba32ad249597d1400000, 0x250f8ea488ac0c71c5d8bca8bba007b138b4c6f61e9cf07cc16d580c772872418543f16314586c8792b23c25920dc4a4d0739d608e00a1d2a59c3936451b95a75b0aea3be73c3ba0ed53ec92d7b3535fa0bd1456b749dac284fd14cbcabddb7c0db89a57ab312036c5e0c086c13c440, 0x167d630f53d0e708ce476bb7743dd407a3a3f7163f8f3d487e9d2f372d6bf546ce478072f9613223184969341d5c71507786ca44f056ca5e4a7d2be7c393b3f3a0cc2e4cb69f9f059504fe664791e518811976538a7c7563333f1db231c80000000000000000000000000000000000000000, 0x1c228422641a62a102b1468e6741dd48cb8d375d5bfe99c72f05ef571b0b4e777668fec9e93b2c1001e8ace740ef4c40c144aa7eb5c7c63752d3447236a2bea760176f697eadf22b94b29c10b20639bb12b8b05c28510d8206bb0933351845fff32c58f9156ce223d8a40080eece9, 0x16b0005a6701629bb9fd88d15b8cdbf5c009a0073ac3d5ce1e9183c4cc4121e9f1e4f9b955ccdeab6ef3606bd36c134052067c6201ab8e483db88e789e048874d3fb34847e9a4cf59bcf3bfb1e8220272b6a07eb547ffa2fd9b046b4bd39e8d455ab236e87c273763ab7d49205347ee55816, 0x16d5f64e941e51b5028029de501e73dcc44130b0d8e6cf81b9aa97b09823892f315347f92b47b38bc4d1fccb88a2f250f8502b7eaae7607dae904f35ca072b12b8ab5c2eac046c2a619947c5f8c0f7a9a3cd27ad5470cc8f06a00e0256a2f6f10fbd788163f9caa4d3f41c765c39fe1c7d2b, 0x16b000872a469023da48f7daf5608db9077d131ce3ce983e13e1088cb38b29654cc6c90084fd091cc8da239739d548392e840b729f7897bd5bbfc4e443c7e7e5de3137791216a65688d3d83051ef885d20459b76b13c038373e557e68907ebf9cfdbca80817119d68d5c65fe295441a253a0, 0x45c2ded60926de64ec9b3bb8151d917348cd0f969ec3f9d2b2cda19aa269bdfd26bfcd07ceb2aa0ed2495e6c1ea34935f9d382f823bac1327fd622f093ccbcbbf89a07ff00af3949dfe65f25a32e9b65eedb0b4ebbf72f955c69afd9bce77944b2be6523194877a11ae619ee15af, 0xb1f06d47533435749e72555b5cde79229d670b15626ff1eb1b01d5a692e36d281e78e539c289edd8fa88f23d722e5249c4593f8326d9c9902f0b8d22c4e8d926dd1e351b9805780000002d492389a13dc1df55fef083d9173f97b173b751a240d2e88070441d1b3dc7a40a438b7500035, 0x7e4da9f9a3e967237382b331437c6b2f604533f2f7f5c137ea7106804ce19a56edb79d235679ca0512684f799e7f71f19999d7712548f0d324ef61f030b0df98bcd58f7506558d31d0aa97fbf2e8edf582eedcde989d390e7b6c824ef3436fa099690421d1ed69569c56df59deb9f001df, 0x17c7d29ce17dc88377e400740bd9be4a53048d06d89e7f2ac8994ed0b41e25c9f594e3f4ac09ac994c0e5b5272b8b62b746fb31a3b1c539045f15cf8985bf586a7832aa9bb2d1b59e53f71290c538aa60b6c2538d7f3a1000000000000000000000000012a9cf2af2bc977410acbe8cd2800, 0x7e4daa06cd7f614458f894f9981c7472046499b695059a545bc06db292da40f65e728eac7d88ec7bc2e6af7038f4c436923425fd609d3d8cf32ca4d85a4b336879fe55ba7169cbcb86b9765ffd59e8761b1cb23cace5ca219cce099f52b1ebbc494ae5fc4426a4175e2e3a761000040040, 0xc5b56fa70a2f9e5b6ff910b339bf6e036eb591e12bb84e92072391f967613fd134cdd9053910a9ea96413711a758e4a6c6de3b92e5e07b6bfdd02410188bbc54e68d8adb8b960bec449e69a1ba9e59aedc0953e71c6e3ea17146ea89e6f4cb92c2f2d921ae5b154d2b67e28e21654001540, 0xe5a4a0ffea8c22e0b93a3869a4d58d0bdab0c994aec0a7d66c4bcf3a049678ceb1bd50f03e21b37fd0d21e6377105420be880ecc95c1efef43397037b62c829afe77ef669ad254edfac7085c494442f3015ce7d3f99ca93e0c09c58f7e86ba54f2752878eea7e094de9b7a00000, 0x1839b47e0eb445325870ed18318cf7b83dc7f93f492b2509954673190a9b650ad8000095c6d03a1323937a27d6196f46d81e437a7902edab4d5fd4b2b2d5eb06b2cdd6440d2f6aee7d48fbff5dcfc110fc4f20d73b88cbf76eda9bf8e1a1f5005d909a3b98825884c138e5d940cbe8a0000a, 0x15c280980d50ca52edbccd75d4dd22a200310a4f08f4467f9f9f362363bd46e675fbdcaddfaf59920a7e6ab3f0eacb])
noncomputable def y2 (tl : List Nat) : List Nat := unp tl [0x4b20b96b1fe36277d5c212e4d45032b5315b77b549d8fab47bb0961f8c4bb30f3d4d4d3123851b1ce015853e24ccaa848de541e7d65aa443a6c19cefbf567d6679f2b6c1f13152b917c4e57ac92c11b327330a5d7bf2b0e7f81fde000000000000000000000000000000000000000000221, 0x2467bc110ebbb71c8525bef5a61113142effe5c9d64daa6f913ae6f241c6d949a1e47cc66f6d243c5eda0af2601900a323125a229f2bd5a6c296bb92d82cb37710a9d2e372b4f4c82db358b3eff4ffed5a0b2351080b170c77dc06c8bbb8ea9800bd3f0d449d602797e7709678000c81f, 0x4cb662356831b2b691fb8df18d8c1a0df7a4dfeeb103d9d2cb15aea1d6d95dc282b423ed5b88b9712873cab09a0ef127dfd0e083ad9a7ce7feaeb878aefd5a13ecabedb2822006cb17a06cc4685949ce945e5bc8b0dfa2ef6ef0ff7b611d68e3120cdd7dd77eda0b5ca1d63189800000000, 0x3feb02e00f5d812d99089dd6feb21a274d1422b0522bc29cc8c88edff983fa4c5dbfddfade4ff9d5be918236b40dc9cce8f3f0e086ce74eb6bbe8348e09d5e549d2dd76533df29f5eae000000000000000000000f35764405274876a3eb409f67f74ba59ba942fd8c88000d0a3, 0x133ac9fc1a392fc1de1a696f16328229b82855ad9e581df5d8c7ec07409d3c773c390458302e30be32e651df0f6812370e96073c102866b345be5a72c04a5f0532432eb8000000042eb4a4c915d99d5084c6ce90e6fc3ea571f233b238dacdcf6a01eb232e4c6a251dc4f110a5b8067, 0x489b01be67add0e565f0cee05042a4b3e28c522bba883f8626790d2fc731f7b15414997954da1e29e8542814f1817edfa503da97a05419ab7484a9a1609e4146d9082c0379f5ea361109cb8ace33dadce2f9b658a46016fe293eff1e1cff084fa7fcc2ee99a00764776abf69c0, 0x604e6b34c4e5743afaef1350c0844852e872e99bda18a5a8067985197836a0c8bef816e80abed257578a32367f97d87cab380ef89eca65834886ea0d722e4ecc267b5f48410afa000000006b678656f50a74a0100c429a957d57e1485a456360eec015f4bd935a40ccaf8dc6db26cb28075, 0x30027f95454dec98b1cf4c11400f2d39cbda08fa8315922425cf392a283ad384dbb93bf3e5913683826f0c640068cb8e33a24a5988caac226cef882d34521385c1e52c5193aa78431ee60b0a0e9c2c6191c6e4129edde7fd0685871ec33cb5c147a6c1036de34d2d558f65088f4e7e520, 0x836103e437df9e0a40e2ac0b0f4fc828eb0dc101306043199f2e9798e816f49980e1cfabf7f3905c9bcd1f1812a8a6358a4fb593530d9069d5438484aa09f788719c788e0d7b8d64300fd15d88000, 0x437c3040d0bb764081f9240e7ad457507bb1399282192279cba73226eb13f51c831aa5294b3f32f27b971691054b1a60f4f569cc3e1ac998866dcf21265af3a2924d0bafd3f67c29c628cfcdb69b636f3d73a24030ea95b728800000, 0x7116aff856ed8be0ecb6c806493cfe24e0f6f0c1fa7074b125187952b35470b5dc2152480a961c7fac24058be317bb795a1e085df5f17ee77226c3253163b30a15b880292d447ef7a71904dd666077d4ed49656b8bcf78c7b5a565c353f50bb92dac6fbf09724dd70000000000000000000, 0x369b8e0775759134e4331f0cf3e6d814059094a25bd7eb7623849bd54d591e49fb77a2f7d358b2a830a27b2ea94c8972cea72fba3abf3cdd8ae6797ce8a6b18bdbee86001618e4341a51c5443090368eaf5f232af9c77de9b23f9b499dea75e32f5808cb02a7e5f1b121f96f1dc00008e, 0x77fcfb138eea4da3c3c0bb5a32458c3501886f6582d0001cd99f5c6525593c6062fbaff91772d8f8b702f2469ef64798916af4a57ab6e76ee2a8b50faf015679d8420a301c652076970d61ea49779fa19ee98c83446e1b5a3c2a5704ff75358789f50541b7b3bc7d316611c4299f5300093, 0x39f372213bf8e9dbe63d683290f97162070efffc1f20ca2ee0b44cf8f2036ba51b6ce9d163a692f0d89e2df5d17397382f973fbfa9a40500e2744a2d23ad7d2e7fcbd793688ee00000000041cb19b15f938e794a3c10bf03e91d2ce5d05551bc5adef2be057e03d498048a41b6c2e6000, 0xa8596fa4138648bfe07b80f1998c0979853eb03afdcc617bc2482104a59b55419abf71e2640595f0897e1fa3f0271d16169d70187e1a9bf36d5b79d1468e99539834cb30b86aa28b093f628a20f9087ed353192ffb20554d292e9da262664a8454f388a7419fb13b5fb, 0x1b9d85c8d6cd64e5cc300307e126bf769009aa50099f4d306347a64a652ebb429a5399d253587985230a27ecc5e12b53c0e35830caa2df949348064d95287b136000f0e27bdbe82886555ff2c0ddab5c47abd823cf05475f81b124d248b00566e272897ed24, 0x86fcb8876dcb49dd54a4ef6234fa23a177c0f5b3259db448d6c008dc908c6f1bc52ce8579a26ccef0f0a941e1cdfdfc1484345d836d8275582fc2df67c7ace53dbc81cf3471f3e8884e1dd234748af0946de606e9e88659bee81c6e2fdd2a5e69ad80000000000000000000000000000000, 0x8f24b2104cd0654543aeede487c61c87f22368fc2c274dead6adfac891b4eb6e53316050d00036af1c4487c33dc3a8d1caddcbdf7b4110bd8eeccea96c8948febe84040097b644a224fbcbccf5ce9b85a154234ce4152023cc0b9346cd1aa57bf8688f52cca7dc78fb6746b1a78a766700b, 0x970d43ae31f11fe77ffa5c4998c6937ff107d3cadc88074804693b31ad72de228925be95b0e629547b602408b576001079c82184dd2f76aedd073f89ef38e3fe7dbe72f37d8a09657e951988f29c23c3f9beaddba4bff219d952f6f94cf30f89a00281b7c95080f594bf0d89f0556055510, 0x2119a15653b2c42d926717ad1094d79afa8eb7984919f05c9b8c8545781ff52b132dde99d4f45138302519b685896fec323802bf3775a4bdc0357db47fac56a9a6c9bbf37277b8030bc7fdfd6a2d076a5b4aeccb5bc66683b4317ba68e71c55fa548c6856f57b5fae5eff693f38924c, 0x7cbb6c7674a67bb9b436e09133c27a0e57aa720af3ebd01581cebf0c55aaa5f7f6720251669391bd940a7bfa9313e397a19710f5f41fd315858002920e626d9c59105eded4d452d61ce3621c57b15c6f2ed5e2a47d8d7d0b99c800000000000000000000000000000000000000, 0x4c4b2263c1cad22a446e72155627d33084bd44906e74347bbdef85dacc7437f2cfe8bf9786352217ffa53b5dd9a304991edb6fcc971674c640238df4dd287d1ea96766c566cafb60363dfea126d692ad05b12087636cec6fd891aba7d15c1f54d1b1a49fa56b839bee2dd257ababc80c9, 0xa431c35e29ebebef0c58a739f0181695beaa49b17f66c5d58467517043c099139834b332f6972fca94429ece6788bd9c064a1ebf61489888d90d9b95b861f10a02cd51a3a3f09810a74143ed1b57099bf14496e8f7800774ee3b3405b0d80b918bcf8d153b766702d921ccab060039ae3a0, 0x118e0fee4e87e5024a5d066faddf762c00e2daeab4fe59467e033883612a270bae5195df6c8a6cc963b20afba55e9b956bfa140226bb7aeec77a02f59c61b51bf55001686a7104ab3f91629f72b11bd60e9b07ca1062ae1fd1b063e7ba17734a528dddb8b07144b6345711707f3e0, 0x118fbfb4959891b26d53119d40faee781deaf8a251eb8599e40704816b9d1065d0e9b0a50fbd3439fe03bbd1a0f5c5ce82eb27c1662c4f53a7fb101fe882d2fe2842ff1a0440650e426c7fd638f436830aaf2c72c19f2d4e769feee397ae8eea0467c6e34ae1f15b1b687093e48151c4a0, 0xaad2d569b2b89902173e081357f12490c67bd4df1bff7ba55e77b34f71ec1dc115f7ea846fc622236b28747c186d99ae5251ceaa5e1eaafaccc43deeb671ef4e5731e0407aea15ec32c8696cbb2428e45a1296288bb81283dfe8f1e6e9265fa44757a6a10ae2a3f8db3eedef14e5400000a, 0xad3234e44b1a5f8ffaa061736b74258924b8817ca0710dff5a6829f2b4e201a6c82103673b14804d20ae9582a572d111f6ed8dfb14b83c555c5c764051c8391866cac3d92c82171fe3125e837fd0548387b1ef7632dab60446e5dbe3e5325b4954e78af5094c0b025c5f30e2ba3362c00d8, 0x15a121f001916dc44206246c7fe6f7c0f1a4b8e0e6a16efa5e70a78932616fc1329139b6ada2f720d2442b45a64c06f113feb378d7fb4e2a36cd5aff95dce49e767283d1cae59e89677bcc0c45da082fb9ec00, 0xb0d3213cb94bee92e2eeada9a0f33b46242c3a538baccb70bb0e96ba86b9360258bdafb35112c69fa4e40beaa963e6496fc2d42fe1a9e6eb74bf03c90275bcbfca0733a7a19c718d695ad13f156f1149a045b1e7a60ee278f589ddd0c0ab27f1a7ca0b8dd5382216bd0b9823d3800000000, 0x838cf000e3368b81f8e4c3e84f4ec4c6a919435464a188615a1f10bfeb8a604bed96f3bb4dd37170b7cf28452bc68b23435062b8560994829545f9d75adb0ccc423035f88080204ab245d4f7dff6a1812f7840078f77f3e3fd7b66e6b95c296872c38c5aa36368b1d17e041485c001dc00, 0x3b8bcfe9f4ea990abd21eaddcc8e7db6a830d89eacb46d413282a087276f803888d681e4d86f68aed749b5e431b427db8df37c4ea440ecbdc239edb9718f54eca03b28ceeffe3785bebcb4898c7593ac8aa25a1836d0d284090f24559f201dbfd4496919de78a4f244a5b3505ff50000, 0xd2999238dcabd7ad9e30dd874af2e4f7e762f984b9cb0f6b81aaa9c49e2f4a1d8845096b94a0f6e3dc243ccc95bc45f5c8fde3f65f5707d0ab57b510478c54eca09b2cbb0942813457f1847fcb65d90a803c119d613de29236b5115205d52d3c0683e09e2a6b9a5b350002f0c89, 0x8e76f1f9496fcdfd590e1da417911d1a2d25d4a33ec2de15120c2ac4e73bf86152e33e73baa15db49879813fe733c99c94f2ffbce14b7c3a40bc87b171c3804c8ce03b8b818c6dce6154fc18d95dd8f4583d2a42aa6f66c976e9591c53e50e5b8974cc8808746f5165cb333940, 0xb8449ccd7b2bc6627a45558840972d11d480a24f12fc75633949b230c11bde655a3b9784c620aa74ea2240cfd139158056d5384a0acaa6997fc2690e20cc067cd9b4fd11ad27fe75681fe70f9828bc2f3b4bb1d2af4b3bac7355bd1992f0dbbbc65d79e3e54fd24dcb5dbf81fd11471ebc7, 0x56ed3e7af29bc19cd9ffd77c30dff7c054ec9d96d3caf6ca1fd138b6caf98e1f1a20f36280f62172800124465999e053ee9ce3c0c56cb121272fcb08b79c7de1720f6136248458ba6b4b3201d91e615b27de9fc5bf0639f8fda9c3638acfa6af5119c8bcb47cf409effdc11e0103b5689, 0x1d58d26972101a87f984d73a6d84e271a4958137875a2f331cad646e8a3910fa176aa80b099632678d3418ad33a80da7670cf379cba339c9dc9b4716836bc0966b16dadf545cd8cf006f6b40ab36488eb3e2606f6573cf2dc994ba07563f913eaad3bddb2db2829138117e653c74eac8a, 0x580a8aa67e73490c655fc536d682117e7844b8346386faadaf03ae99ed74e60bb24ae9ded97ef5c31118f9b1b23adf4321f3e0e03e4595a5d79fae4ede3ca9958cfd69fd1f775e5e5b79aaaa4aae4c0b3a29ba534e062836f5a4a79edaf1a69528552e4852f26d74b3fb66f27a5f15e0e, 0x3e22d4e4ad1858074e919196cbfebd1cac12b97a104fb2786d3e818a266afad0b4d6c55ab8dd40e8b413959531cbd9028b36d7ecd8b305f4e415643bcc01210801f4b1ced65cf3bc35a60fd6cb831f6c58eaf663418a036832bab2ba7ff9f70b9efaa9cd6d021c4b0eb4736416f18000, 0x3bc988b0be7ec42297fd240badbde1a335ef5d0e40fb0ec6789d4afafe3478a06978d4451e173ec437780f40a9c284c9365b15449696436cbf0fcb033988e228a7a135137f7afef66bd505ff50000, 0x2bb42825aff655443e991e2b03e4d4080b8f89ad059715aecb0dd6d4bf6b9607dfd3322142e0bba3882b574cda28fd8f4ce906dfbb6f6a1672584918a3b70d4bd7bd174148bbf6adc34065b5c93522aec54be112fe05a4242b6e1ee11b9f3f554d2a34f3b048c96000013e9bc08e800, 0x3b6fd7848c478043ffd5f4b7251a18648a555a1402f874963f782d93453d0d2d4921cc2be6aacc322b80f0113a89b531d96b7da8f3fbd555db8ed48dae7cba65811f98bed81544f713168eac0cf7dcc01f9269314559625df3350ef1b1048f2d4dad6cd323ec1bc70ea03106fae69340, 0xcd9ef77cc9ff0aaad1b721a21587ea2a69876ae255d5837424fc55b89fb194a7c941280301d08c4437f2fe3ea5514dddcd717e3f5bab87115b8d9adc4d9710e934b6dfcbf17b96780706b2b939bad6721562ab66e6c8d223d78a73cca9ae7a9d17cc236250284b6ee259eb339962554b729, 0xbf08d51206668adc42b6634ca753bd6c27f1703ad64197bb2eb84318ac75461469fcb9885b915c7ab76aba860bed68ca8b5318a863d7d2e0cd428349dfa88a9009e06d2b54023e76a1c01ddc756543538f18165ed657b5f33ed775ed1a198bd3febb42e467fcbb90a4c247a8b6c0883ee8e, 0xd5ed24c85cf8dd2a8dfc45f402f8caf3a0a370da4dfff62a6ba458f2fdaf9b53e99f7c24813cc443e1dd7cff964ff6f8c20065e54169e0a59b969c9b08f786afd49eb07ca9ef55a6f0bfae458313cb2333815d3ced888db3d24e38459b728b7094371cc221fb53340a225557547e0de8240, 0xd4bd15a14dbf81c370ac0234a7a4c9d549b311cb820ebef4255eabc5b3c23d9d0651ca43f040378c26998cf18206f69c2a8544614bd0da759000e7ee7b4b1bd020568e9f97f80ce8bdbbef22abf7f49ce69d5abd924da469fdf3048270d2e6ada55c437d1bfa91501a93a3aae1380023ecf, 0xdaa9d861dadff5170bed8faa0addd0d0f20f9cc0dd8c5e19026063a8f15a8968b4f359018ce10097191c32fb876e19fad8cb79250f7dd446e0fa45e643976b496d2aec72b4849b0099d5157aa3b1acb1ac054b481fb18ad1f214b51b12f6f47272257c20df2719db45cb479e97a237ccbe7, 0x31099af1b12ac8cd39cb846e7ed3a35871142df314325ca888d949aa3b4d67cec528b7c1d811291a5de0f8c32b649d2d798ee9e60b932ccacfda5932abca73af2ef796b16f4cab1659e0c5aec623db8e59db352870582a11dbe8fc041f8407734716c0f852998020249b9049047a0a0, 0xaa56b4f8976a93a2cb3b1aa589be84a4d96cbc13bf483a5a0597ed0776b56f8a681ca21b9cdc8ccd0a29369ee36ffd8d2eba22ec9513f2904eb87da08efc554ce5796fb9d85eb9aa94f5716fcd22ce1a6716b0c671418a1519ac72ddcaf9eaf8e29468c428efcd43a34e1e5114, 0xd5875b90f44140cc8237a036323c18abfece3eb4feec4d6fc010b2972e4da3befd356f86ef1621a99bbb4d53d19266c897e8404a49f94b539ea8e34fef6a79fc0864b36fe3c70f07ce60d0c298cad7efe4583566658e2a6c751ea0b48b5a6c71717cc6012c998a7c88858d6e54b85ff5740, 0xa425037e731cb132db2a00d6ade172c3d5986d9849c9c5da2ff744336580258b0308e17586e6441ad75817eb9b6065e44da6d0bdaf789e7d14c944b7c0c588e1e2d392ecea6682bbbaff92908e2c7439d4bfc7f846c60e6a32838a8b9f1d4f9775f556c169d400cfa99fdd47a0, 0xa7921d06a4fca166629dd2797def9b36dcbe92e4d64783f6b2fecc02ba9cd61970331e58699e97d58e50fbd6469ac7a5783944ffd66b8e3be120837b6f1d9e082e0b4b0053fbbf25d88b6e04fecf86bf84557fc09e01e15262c65583314a6debd211f9bafa6dcd20f2e2c36962, 0x1636326bff46ab7b618bb39643112bea7d218af9fc3ba9cc2329bffcb8803f1d86bb354e426b40866c46fbb910add92c577bc4872dd323f9f78674b6974a6f1faf69bd169af196d9e0c5010ee488233045729015698858bc7b088518ccb573e6bdcd4a1f09bcca21247ac64e0010e, 0xe81549daf5cd1afe8c6945d82dc9cb07c01052bbaa780a8e3292327a19c4579e563a36885417b4d74ebcd9d321fba2da0482a1e2561eb706b247e0cd12bfe39aef4b4ab7319e3477932f9cb9e2e973bee9fae656969c377c0e7cdeb4e556d44306c96f5d7ed3437e5021cb55af61c00010e, 0xea17704e8517c61ccfd4448104fb444fa2383fc0ceea664b7fb6645097efbfaf77933bec688d713e3b0a8d23647d9aa062acf22c73dc5386ac3e4f264395169eeed476caeb8c9fc13d7eb8fc70395c6f694b892508b4bb529b9efff355673a47791a643792958274e159479e97004c5a9e6, 0x349e895d93373c489aa2e73dbf275ecff0568452a104dbb76aa8e1680022fc17f0c396dd6f6362f6a2f354becb1f9f5f1335142f7d43f3162b144e03c2569d9554af39f89fe445eeaff41ec80ba280a2355fbbd520f0fe91e42840d5384cc5f8ad4f22f730b68f46c0938410b90012a, 0x6fd0e33e4014b21d710efc690e82e09afec7e55e71331662fbfdaaa9e26976fe6ae83bc42532a06407d745bffb85c1ca901099ff0ba445a963070188c13776faaa2865594f046cd8e1252fa8db356556991cc6b5d08b5be92d2779120a490ca0fe1ed87ac71650f1d3754ee1380023eed, 0x2f332b257c258713bad3b84b7b05465296d4d96ce43c3c5ec67f29320546737deb2d5ed6897edeebed28246505b729e8187df471ce8c24068da855c048352ca1ebee5cab52970c229c07f2a5963ca72e01463516189857e6d3e461501a7b189f8c04e70f6c01e159479e97004c5b7a0, 0xed9bb4a9990386f80d17f0e989fe69239b6524e6ec6277e988855f4e9befec6a7bebceb6bdbbb8ff66091966db1ba7955c77206f8b3d093ffea880ecb4f332465925a752c7ba91665b77a054d847c5e89c34690e8a403b71d312f82c81dc1cb3237f74d19fef2b55b02e4b825770d9575c0, 0x349e890e3c45f977444349b4c88f32604adcf96af6d956ef84fae728b968879cebc43cf4c8f61a4c8693d0750eabdb149f267b1ec340c7e632a9d49e44aaf98224a855f6f469d4476863555a91e61936e985f2c1ae5fb2c8153fc080f5c805f16886fc760355cbbd1837342dc00010e, 0xa73db7e1dc6a587348e66b58ed5c0c794a38416355ceba6d990769d1de872a32d0be52343e0ad76aaf61c977305a4a6f97206fb2aa6d77a535587a9826f5b41d99505540ad888c1e59f5cfb67d633c45d4628840b74a8dc2f3cda66d0840ed87ac71650f1d3754ee1380023eed, 0xf580c58e815ac421c220f031e6444bda5fe7c93acc1f14a6de60f6f62c3a5fcccd468645cc42a32f7137d5afae840510d79282a90ea3c9fcccd6f6cc2c42073cd4889362539287b689eb1e2da644ec1f92a8a20c607deb4e8c4b3bc014f1d0fe72b5d5242224f4b162c9b8a7f2d40023cae, 0xfab30c4492b41306495de90fe63ea36c6930cae4e1192c6ce9858a3611eb8950e4660cb73d93ebe135bdb1c62d9ce38d82e3b0afab39d15b72525a57ecf44112246c46f1d304a41e1b457abb8b7618afd7fbf60ae48e11c842999858a4f5d6609897939512cb2ffa86887ddae504b327217, 0xd8b15c3f1da00cd7187c67b4d4802042c279e9a61dafdfc9eb15c338ccf1d1ce1973a5f7dda2bd73df961513ad178cef86da267e361b4a76c722b978ad18b736d6ca88cd35f9c33d6745d74b4c97b87b6b879a93e732db91316fbac9b89efd1f2745c8b0234df14995a8c16cef301a921a0, 0x3dafb09f11d02c36a30ec296caaa1e737bf9a1ddbdac853c1c0ba579714fa61a78e523294398164053f782b952a7e7b2ecee9122fbebd419e2783c9f9f56eed462bae4563f97d9c9eb910a4e7b35b6de5585a9ba8b6d5c818622520df9f9e251b2cc642fce80319d1a194d109e8fc474912, 0x1afbb31c353984ff9bdddfc99a132eff27d0b00df64be5ef548f17449e032324edbc8ebe19a131f7f9771891856109c8c548fad6bca907d5bc2de47b58ce92a0b3be5bddbf088967b7d07e32ea3c0bd3a1200000000000000000000000000002a2c8bd3952a90bd782857cc000145, 0x3956dc9bf11a3a9f2b377b8c6768c12a57a1a5765f311e8b695694ed48cfe74a7e56abd5d822015b0179568ffaf0ee9e30a834ba626d9c8744019a5d4a96159c38af9d30b54169dc4a0868b6e3fe4defae1dbc9c5fd57f014e1deafe70d99e862141c171068f96fa89511068a001d48, 0xfc9b8be41c69a445e6745299079cde53e9069de10184de4c35325915a805978f04ae9cebbd0d71f0164e5191b4e3337969d75aeacdab62832141d09a6973a93050ee35cecb3ff6501c767b607bbeb826de94df89912e74155f9c068aed58b7b21f78b50f74d83e6cae078ad2dc4803e3900, 0xf6237c7f35dc6121c0b863bc6a62df297d78eac7b655149a0ccc3fde05500add369b0935510739926b8cda6187ec5016a55eff198305fc9ba852da584d2cb66d1caa7b3f8d4b2dbff075f9642c678ebcfa16d2f5c7f14f4e29ec2e57fdd7314511f5962e9a5fe10026d92f82592800, 0x3db905fbed42cc3e887c7498b48c5fe8f8d143610cc77270b45cd6b7d3444a24f1f7bb5fb99d39850549e35aa237d53d1316af414be4b3b52218f0003b2f1a208a6c5ff1865609d31df222010bf9bd226fed602fe1b00, 0x7d305dfc33971a629d6ff8be8120d7e34f4869a92812607cec69171730d5c26815a24a93595da24fc231095cbdbbac59b0cfa7cffa60ddaa01573325826d06128835e2792633f7de96d526c879794478e06c43f2d29fe7b7ee26f5178ec9831a8a99771fd2e53af2aecdc200000000000, 0x7d305def27bc2fb3d3d925c7990fe3bc2b65964b1d3fb64dc0142d3e5979af008b931180434521f2a61456842d0d995537d008c2721d5ce8ddd9b2978da89800d90f38263e45ca72bdc0c9cd797a91890096478e3ee912a500b4c545ed48d4746404f4903ef5deb57824ed92bb9100151, 0x3a1ad6056855155e22f8199e218841ec642c3a30c6af99f89e4634d019df997601b11ac1fdd5b3350bd347f66e8046d399096f6ae48da77954778b94a2501680668421d6b34539c3c919caf9a2134e344814d4b80d4e14a1c34c20, 0x10dae076f36c5498d4ae9f756b2915adb543bfcfe44ba01216f78b9e89024d1d5f92f58a1459bdd7e7f64852f3187c32ed4a221f5d77342d4c3898d03ca9ac778f286b47176d870f990f2cc9050580c577199f097ea923130b4d1d2247077c172700034522544b78c66c0000000000000000, 0x12f56497316d5704e90f5e2efb22158a39bf4a81ba40acad9cab367ee0fda575dd73eb81da980b5a42400475ed42c8e7c10f695dd4f96342157372757634482da414d216f4322f8d5fda31732ad9e9eb4782d87ebcb44888ce777d40e778425e8087a3f526feaad011a99ae27b0060b3237, 0x111a2511d8365b050a4bc7db1f3538f9831690d53923ec94019b1f36c152a7e1b207f104400390f41e8bf4a9a78a9805a1ce3f2771939dcae67a805439303d70964db9af8ffae993a719fc3772d1112989560cdefec0000000000000000000000000000000000052fc376c573cb872901318, 0x3b6fd7848c477f9ebfe6192d394de7cadda4dbe91c8ef7ce9551c066e021df7ac731daf0deeb5ad52503ca5d15823d6101d1856fdffd0941f53c54b86fc672686b6e729ebdb1d31f272a052a12170944b0339a95de706777b01a2d43561022f66d90c79b3a2a2bd03db7050425f0e9d7, 0x3b6fd784895ec008d7e35056fdb4d5f6ebbab1b11b2193995b2f0b08f631d4994b164994fc3a66433095dd3cd7ceb43e37b10299ee96a9b2b1ceb21d555e6f09da7c821af1c57a72ee01ad450ea50362654d9e62fc64f1d24c93439c307456ee04c4ffd5af53dffc5cc220e7fe850000, 0x6af08862d74ebc0faf902ddb55d3b93d63959ae9a7ef682e7846ab225b9b98225ab8fcce59fab229c3dafcf749883c1954eb3df41e7101cae41de5449246fbd1f7c7c400631d0a100b30713acc6b04b63d502c77a1074091896076469faeb78804e76c6445e1af23fa12222800, 0x7abcda8312ce46ef4035b7d7c930f5fdc1cf5d2908c7870823ca21932b564941f13811b85f8a87d61b23e20670e4055355fcc6da41609d8f4ef5f13662457e81698d4be5caeccab1add375730f1666fb5f52be27e4d46fc3af5ab0fb5b1d7b8b12208551dd6ca54d32e59e6812c000ac, 0x841e37c6e4acfae15d02d10508cb3cb93d6f81f931d4c2ccc7882cb38be178ecd1e85956d1cbeb8d1c1fc1954a00beb9d443632ef190ea3fe30ded19effca75151cf566213fcf997e7284bae304f56c69671cccff08d8bd4b8b1dc00a3142df215008ff33470e82ba2dd17aa0bfea0000, 0x7e4dc5f20954b3dc4444c0265f052de3b6e387054e1dd8d7f2bc8181ad1f37591115d0d2a55d1aaf8be31c42e78092f64e3e5a2c7232821e7f08812c978c2fe02427dc6e9ba9c5b508f6a21855e85805996df50f6cb501f512f93993f954369a343d35067c2301356e1fb9c0c30b671403, 0x9eab2a54d747aae2c913134d633403e41af5d87fc0986fcf7364121a0dd09e01c4abd083f6d9cad370a8fc605f270b66546aeba6d231e378b9dc5add7d5a45d662799c24137cdce44c465b5528e6a6e44aec1ef306a2786b6604e8ef4b43fb56c3a3eb24c16a5aa78377f92645c51f50000, 0x11e8d3f7d2cdc739a6bd69ce938991a6d2a2f020601b8c6cd4543649d3294d3041b23f3162e97ef20de162227bfe1b482a4ba3c9aeccb51b1a23597781b7de245e2e9a34de7655f1d9fbed7615c2e7ad2461ed49bced0bd4f0741fe12cfdd3f64c1cc48ef17f8f134f150bee5c4db78720c9, 0x8738284d7984b9e5ea02c8f1e3b1372ba034e6dd6d5d296dfc4e41d5efce4671216dd9e5c1800d5faae3606b20d50c50db73b9196300e94dc807a6cf0d8457947b16ae3e63da217332e640130c28deb4a5d390b14a726f50f4a5abd8305ef51855de070ace836c66e2530f873fa57af60, 0x2a814505071f0aeaa34b6bf0f2909d537dfed5832a5215d825d5174e9d44a6f468bb391e293f3222cea29f133eb826dede6d3fc657e4150709be80eaf1ec7eb240318b5f95adc872ca960254f94, 0x12a2680562b482d723808f1e7b807a35e59807297a60fa2357a003919c3bdf5ae5faf4cd341bdaa93f88a9859d543d26d15967c06a0bb37b13f6b006af13b4762e9b6979363ba74bdb5bc4e5f3ee75266b97b93e1d6bf2840cd22694b9f581b6c822b2b0744b69bd91433580000e2b302340, 0x8c0c72f799417e800710fbd2fb6d6f053abdcf4237875e10fe56945839733e1935b6adb740f6845d43cf48db419d984fe6715e69dd2e6bfcf516b3594c14ea0bdf315132667850260b62f0cb3398ff23731ceee27899f09cae97359b3fc9248eaa0e82dad2f2a358684b88d4e800324bb, 0x8ad141d7a42ce21f72d77bbe3fcad7b387ebd8ff9c2b2a4e22683d257301ae9d7bd0fe6ac0500cede10925d765ef559bb74a08a21da78333ad11f6aca039ab8647ae552bda659c44e07ec0ee13a0bb9a1a1f1cef338698618abf374a3404f611fffcde60ccf75fd231543225e053598a0, 0x8c6b6d291e22d8195d4ef0e1eb487ba84bdd7e9e02a55af2bb84eb86c4dafd69ee136713782832386dc30f13114316601501b26920fffa394c8b888b8b4e7ee2f270a74298cd1fe708990cf2742f48ed71b5a74ae4ebb54513d9b224f859d59c900ab9b7da811f1cf53081e81ba845575, 0x12a269d87c681710e373539d089eb9244013db8afafc649a57c271e10c5657c6122a4be40d486df0fe58fba0cb00eb4aec11b31b278ec866a791bde398035faec304a8c95ac9e16f9370a320346c52365577249ae277c64bb8cec1269cdf28313a3ee15258a42e14e46d0563826083d7e800, 0x1f280b7df485d9785a4a4ba44471be3d6e9a2888ab11b5838f6313dbf76044016b291320724dff4054db032cbfc77aae62275bc23ca6b340144c3a4a2b17bbfacc1206e4d91c2e50897d7b56fd9fd15d234e6ae1ceaf33d064baf8adb75a790bb7271c765ad646481460c5ab00000, 0x13963e759e0a007d0cf68761c075bf14d7f20be1349f590c5f89f787c8c66f7faabf34215fecacedd3b129269fd89bad817625f59198cf9b792b919d9aba8991848d7a353e3228598468511c251d88ce8233179d2933889ee470b1561129ed2b6f0a8584e21994f23e34e22f4145b4032340, 0x42146f9ae10156a85dee7a9802a90256d3613fc61221ffa668d4a4e93afc897a3349b76909affe8707b42012ebc2d1c8e85eaa5cdf4fc7fe34a904b82b38488cbf7257c716edd459d3ee0d9fa32c57cac13ebb9be18f118df38d299fdb536f52406650d4e681abdafe93efb32b2cfe0, 0x4235914fd4f3cbeebb7d6741c1258f329a1d5721c048a0572da1a30c87eaa96e5eb9607ff2770aa5ecfb145f1819dd806be0cebe2163ed0cce200850c54641ad6682d7a7bbe0bcbebe528f2ccd9183f70e5435b2e4a8a988b0e8d2fe00aa2833d277c218469a9b0f6d941009e3e0b40, 0x1299a744e25ab2cd00f04172056488c23cc04a9f9162e731a38a0a6adfba9f029337ea4d11da01dd6a60e5d9b7d854849a08c40ec9805a6c5971f6bbbda4855a1b764646d5553e721ab5d37bf07e89f4a284f1e35485d095211d5bc6e5ae390ae4c1f1a6c3ff540aaa4fb232b41e86aae800, 0x423624f95e5c1823350b13ec0696c3dee6351ecd4bfb0f7347c0a0c3de05f07270dd5e8bb40c51b0d45d759db53ca756389bd7fe9c7a5e3d5603f2b52b34430d265b3aea7fb9c7601a622f39333b9c5cef62aa65079b57d7e933635a6b20a41665f5b71c6b3a3552d83466b68b21f32, 0x1f28963d7c0359766f1f749874f299d5a6161a8944b39c08d9abfd569f53f8923f25f00664d545af02df899b64c6266c75ad4b2c761b7b0840ae8578c5d6928065d2460d63e8244d99e8cc626cf38df1c8a25edf0aca30683c2b91f27a17e032905cce6bee9eabc62b41e86aae800, 0x984eb9fe3f5e565d7575f2c2ffa9d82a56cbb6771195472a08a0354942b11d2b0eea80af6006b09db9ee24bfedd056de6afc2138639819a08c9e09c2785d73d3bebebff54af0a1faa45828e6c82728c69e879d1b79f6eda6dd7fdc96234220d8dd2cf98175082d8b86f1ca145b4032340, 0x145c73bbc30d6ed363d5bb5bcdbce7fa3868e79ebef1d5143f2bbc97bf409e9356db4dc249a0830656dfd2c7217410ef3d86a6cb7270c2ecba51de655af36d8d48ca7c588c9e319cc7080938cd8f3a7120de989a38f6f7d9e93ec033b31d8a1cb1392cc9dc103a5376c74ba49bb4b86730da, 0xea9b970cd25ee52a7b9d9113a66d09b54b82b3ef467404276089364a90153a41f9fe8e52767c82752f2e44825caa55b04912ec850ab37b5b84d1d50a84a3e69dd303be1e9f6b6bb1b40602e51638e176d79960e9baa7121fe329f08b2f9cb1e6823205542c21eda730328b9f1d, 0x143a74b3c47c0eeca50707f1f5e960d7fa380946d33e6e61db46b334ec93edb30b51cf3d8fb60a69db53998b5a8424a738136e719790b7a297578baa4b94c74e0aefa3ba50f0a0525f1df5c65b8e512e5405d77c758fddf0aca30683c2b91f27978de8633483cebc7d0ef912f15af3a0017a, 0x12a6447f76ea5584af83acc4fa01cb90f72e13456ffabd2ef7a09e5aaa31304e1f1d03c9cda3a9769b51b96cfd6a6a1dd4e8d793f655ad88f6f34dadf44e8f99b049ab2042bfa5647b30b81def8b98e587c609363df1eacc76c02fa603c1fd1fe672a6282a9304f1994f1bb52a525b6b7bda, 0x9d821e111a0ec87932f3f3019f320f171e92dc30a11e77fb8ff73de0674f380c45d194b153735f633ede00adbef82e1621e8b1844467c68fb6eed0658ad24e94b646f46be333ad16aeaf2c4efb29a03c5585adcbcfc13bf587eb35d36cb9e122d589dac5a825cfdad39aa21351440e57a, 0x1e1bfb5f7b4e7ccd0cd123ca98d71dd305e79323cf742e0bb9577bf7cdd646844089c91b74855e8e547d244734c1fc00e7e94092db00b3ab1b8a243e79e8a8658ee2ba4ce0dba2000a244b529c9c5d3994ad94f3eb36f49792a42468782e0651247a8adb96ee2a926dfc7e4faa5a8, 0x1501c2cb689eef84a41ef9589cea529076ca8f82d62716f5512c3761a21a2a4b021697dde0110a66a03b147e06b259e2a66df78a8a9b17deb0e11246b31170d992603f9f63f0ccb2ce9bc9d23f94b6d77a6e23812256df4653d5898299195feab9f29ff846e0784ac91904855458f14c32ea, 0x9fbc9344d6b7b1753f9c79eef2cab171538fe4d637f023c2ccb9687c3b707b33c850fa17ac4a9fbc19e43b61dd94bfcb753f436a2ef1eced239743bd84eeaecb7b417732da479ad68174e83ab10e63e49b9f9f460e6b0f8fbe4770e260d6457f2c24b861d7d368eea51f7ea570e3ed13e, 0x3ab7707f112624aaec1ba7488a19aeee052307de1747ae813684323b2511e90d6e9328693c797516007da44671c6efc5df26878611dea77a317ee754b9ffb0c3346be341a4821a47cce2616d91a100fe3fcf8612a5a36f30255fc45e2c989461263a393b26c804c8281c0391c0, 0x156995c2096e174ea33478d436f902deb953762c678ab63808b0526ac5b275a7b3355158a038a59ab99e4d91637577247d7c854ac7fb3c6c9d7f1b84263dc10e2c0cd6d1b04fb934212ddb3b6627f42a087841505037ea6ae08e10603855addb6a05cdae649108fbdfe9e5139cf839e0005e, 0x3b6fd78abb0ec45c661b276147005a717b4ede85d216ff009d4e9fb5716d0f8eca0c58a63f19a05b3f81213397212d9b1346e373c0d1ef063fcf918bd5024be7e22e368bff0982aa1d712dbff3683a2a6d5853bb5d7f6eb36e792fe910d1d526770b230a2b855f71e7bdf4bd97ac9a40, 0x15a6469a48dee5435bb5c0df33573967e62d6e78fc806122c5371c82a1d6809e26eea471d048119701d5b511ee9b5c3bece22d84ce62fa1a8d4df69ba86c0bbf1025be7e9f802878e795f5da3501637fa57965cdd988ee9e544c612d1b2c0c78e930a619aefe89cb4e63e3bd242e28a0000a, 0x3b0db2f38190b2ec49914a170286b0ce01bc55bd1471ea5dfbf5fe83c37804e1f7e6c121544359e07ad1905ce5032f14f6fb4f4cc9ad71128bc7e6dcd8a001b2197fe23d23ff851a8021c0c005ba9cadf649cd154c5f699dd4e4b39a39ea1ac7c35a223491a7641c735a6dedf6001b6, 0x7f58f482de173b448b20822cce7ed3631361663bfe5ddaf3b8da8bda6b78fca515fb7a417c2abe8742379bb2eb63256e9de67014bc2ad5a92ae591b4a96147ec0eb1769813e1fb492fa8828eb9362ec4603462a5be3e8124fec3115dda1f2a9a48ff788a7453417508c036db445f1c400, 0x2486a28f7646a59aacadc18c202cd98c8c37b7f5b04a64c6cea7b6ee3a9135de173d7e02b7b6f83fffbcbf943b996efb441e68d14b5ebc760e80fb2c173358d644e350efc8b5f4f549e7462035ad37f73da719c2bebcadfc8fde3701866fe57aa76168106e10b2ebe7dbcd1bb0000, 0x1624caed4e5ba4776b05197cb5f77b8c824c3d503ec0be9f622a2a1f53a5dc92c64ba9ca14b765e24bd4c72007802ed7de896d4df84ebaca32b33cf4df1ec7fa585b9691d91ac12225393c201a21f14bbc0b4cc4c1c0a0cdb2ac7765206841c723937e6f79222010bff16c9a26eaa5c3a5a0, 0x168a04724320c7a6c8718063679e536044b4938b78d3268b6271b43d7d1f3c5b81d3ad5570de2e17a0ca229ab4cb24d32372e218dc5d0c31713ccd40b6d2806e5a8a3df712cc28e7ff9f0eeb9e0f6a251d61b8881ffa137ac9f73ad6cc209990c2bd0412af8bb23c8d7242b36aaa7fd27dc0, 0x3a4d00689c0fd1d078b3e915e749ef331fb4256ffd75ec4698f68014b28c642772970cdd3d8c7fbc1fd2d0f3c81cdd2c824ba2923efb3cad07d9ee83e1699db122525fc4d8a51378c2c0734444e802b44d4bb7de46222fb6ea80388a534c4f3a84f58a43508d743e80ecb1f93ed248]
noncomputable def x2a : List Nat := y2 (unp [] [0xac4fee35b498c01fed42673fbefb88340fc08ebd725800c0a2430e860120c634dfbec6c26424b8a9409837eecedd68893c99c8a0e83234fe0f7cda278739f29406ad9f2b8e2afda7dbc19fc008db935361e519bd4ec318dafe8cc7566812027e80d4b3de0aab09b2e99015385005a5000, 0x270f7cd3fc5945772d0ac7b80eb1a133b0fb79ff9fcca1538766cfe4048608aa86d177a12736828fe6d1c91370cde03855dfd653469c5d332cfab2155f1112d15ba5914bf27df8efe62389b246c575326d212b5da3dcf, 0x173b24f9a5de2c5fcd919d9fa35ca280dbd4a19686d7863ba672c351f2d3ffcb4f625b4f410b9f5f0ba46cf9d83771efd04c2141b87c180a51ee7ffd602a6bdf1de2c85b258257af3f13e6ee9f3f9c8ab2c0037520fb83b2c67d6dc9f26cc8059d0bfca9ade1c9b6eee5afd4000000000000, 0x3bedad71171669c7c9abb404b8df66aae6d0e3539cdb9add4f7d539fec4bfbaa944ce2aff01d7a791339cfdf14b5e26d5f3a4fcda0595592842ce26e48ca652a0579b37cffb975051652469d08845649150b473451676f47d557998a34caeedefdfadfb3ef4f68f32e4fb2d4003e676, 0x1768537549c0688ef00cd1c7cef96eb634d3c10f63dcdfb94ea3e304fb184d322432dd641752e2b8508fa29a5bc2ea92055cad30f2cc014159a6da8cab32b14448d8938c6f2809010d98270e9f5eaa543b3efafe4313640e20475b415c302153e8aed2139e5aac7e8e02e8614a9586085800, 0xb30de0f8d74013750a26646d3384680021f61aefed63c88523107c807bdc43ba33ac82668081897c4e673fecfb470cb46595272f114523c726c64988a4f3f6d967a8a92cd11929c24f0cc47e61d18f4f4218110a81ee55e48e00e5ddf247dc1efa18314eec3d8d9e5b26cd2bc2d91b91a, 0x8949852985d0bc322845cc3bf6475027a5522278ac3a2129d617a09208294cd6a5dd36d42af7e56487f4a2e59941f5038b9638ce431c4fe093d2d763f7edd412e380ea8b89269b06fb9e113ad919dadf238b9c6c78924095761a18afbea2dd069013c35a0f689ad45cf05ff1df7f92d222, 0x10ab0556441f7b4b0f1a759d00212c38eb70c0b880a9c43609a81f8f26380226da35498151fa9564f7f84d1062ea94dfce407a4ebe338bc56ddcab27d980bd8633a1792dd3e01e3497f1e0b3e1a7b9af484f9ab5b2d93e62c47ce45716a98df1fbf20eae96f9ef3d7e25af41be8a00000, 0x184625a484317a9121eb9ced904691fed6fc79f73b3a75c24a77d5fc928174bb933f94f78baeaeadc0749f33cb97fd923b08e520943f4c598b486b0ac29af05cad5d1d782201e9e6a7406a0a30051b1a02cdf1768358000000000000000000000000000002310fdbb300e241fa89317cff8c, 0x20ff11b896f24ab2d97d97e6f09dadfa357d9e8592ff9442fb422a8c146f956004c4b0c8efcd851e4e472081cf8ba562bd5d395bba3ad8b86406e2fcb9f1a9cb0355edab2d00afc9b7071f9a55cb429fc8b569d3be747550f972f445e8050315cab5ffe7160000, 0x18777c91b35a24d0db35f5e94ad04de45af206107990e1db17cb8c7011335ac7b4f6afeffe1e8bcddaaad3b46a5bd073d079b280597743e49f13ba1a195284386d92fe1784fc8e755fbfbe248ad76fde4851fb9a20f7d66ae89a193b5780feafc6ee88eb3e00000000000000000000000000, 0x185f745c3b43a130e0462c7d5ff481721f0b37d94b4a8a62a4ec5635e867f048e578461a87f9ecfe081ce455cd3ec797d2db5a80cea2475c8d202ca7e5ca49522c7c47ffbade99ac5c8def4e7855590ce57ec60bd7f8b0eb76ac9a362b27955e01f100443477b57f751a0b3480b156398e26, 0x43f6370641c5897dc6df7bcf4041f42d8e115f846e306decd671748f206e15c7c9c5c099c72834180311d6b69150fd705172624360d044124d633ab3e35bfc41c1e69918dde562309a889502f37f472c976bade54ba20dccfd74bb217d01e2b59f17fc1939ffb771efedd3, 0x58719efcd543feeb46d20c09ba159d6087f6724ff4b5a87499ad7677907f87b2219bca69b12ce495bd23c526c64527db95d8fb4fecf714d1efcfc8e7795caa8a012d1a3c684c59e5d078aa09ea6f80ad90366d8a796b8fc191bb6884c3d03b94ceb53ca44e51fb6d5f137a53e000000, 0x18518c8fcc2c68cd55f10077f19472deff10a2991b0e016c5b3e39294cd108bb4a12c590dedf9d540a1bb86e95adf4cdd8e50ecdf5224bdb8d7247481330e6627280bf9a62c44400a57830b0da2609fb3e8baa19613edff16238ffa86e4451a6b479a2f1cedf5b3cc6a3b657fcd912043319, 0x178a371b54009b60aecdddafde7dedc576d1e1111760])
noncomputable def x2b : List Nat := y2 (unp [] [0xac4fee35b498c01fed42673fbefb88340fc08ebd725800c0a2430e860120c634dfbec6c26424b8a9409837efd8d63a19570796db0ead3f922a9617f02ceec9c415b0d5a5c055c3a914fd798591c663febf7a82c4e0bb787ad91ffecd8476ed31b53f4fde0aab09b2e99015385005a5000, 0x270f7cd3fc5945772d0ac7b80eb1a133b0fb79ff9fcca1538766cfe4048608aa86d177a12736828fe6d1c91370cde03855dfd653469c5d332cfab2155f1112d15ba5914bf27df8efe62389b246c575326d212b5da3dcf, 0x173b24f9a5de2c5fcd919d9fa35ca280dbd4a19686d7863ba672c351f2d3ffcb4f625b4f410b9f5f0ba46cf9d83771efd04c2141b87c180a51ee7ffd602a6bdf1de2c85b258257af3f13e6ee9f3f9c8ab2c0037520fb83b2c67d6dc9f26cc8059d0bfca9ade1c9b6eee5afd4000000000000, 0x3bedad71171669c7c9abb404b8df66aae6d0e3539cdb9add4f7d539fec4bfbaa944ce2aff01d7a791339cfdf14b5e26d5f3a4fcda0595592842ce26e48ca652a0579b37cffb975051652469d08845649150b473451676f47d557998a34caeedefdfadfb3ef4f68f32e4fb2d4003e676, 0x1768537549c0688ef00cd1c7cef96eb634d3c10f63dcdfb94ea3e304fb184d322432dd641752e2b8508fa29a5bc2ea92055cad30f2cc014159a6da8cab32b14448d9f8cd0032b2e2e6c3b617beb7ffe0ed4348d23aebeace99b0226ec9fcab13e8aed2139e5aac7e8e02e8614a9586085800, 0xb30de0f8d74013750a26646d3384680021f61aefed63c88523107c807bdc43ba33ac82668081897c4e673fecfb470cb46595272f114523c726c64988a4f3f6d967a8a92cd11929c24f0cc47e61d18f4f4218110a81ee55e48e00e5ddf247dc1efa18314eec3d8d9e5b26cd2bc2d91b91a, 0x894998bdd1273e54cda9e8753a4aeab75ebc0e5574df4a2702ffe46313edb9063db123b3221a6193baed954b8b05095a80290161df60582c6bfc1dd1f7edd412e380ea8b89269b06fb9e113ad919dadf238b9c6c78924095761a18afbea2dd069013c35a0f689ad45cf05ff1df7f92d222, 0x1344b6c410a902813f4c6232eaf5e626d85c509ee5c8a18d72d7ad3335bc3c956a804b0a9451f4a201c5747daf228c323df727bbc80ec711f922063c0ebf7a83a425d340af869d5a9c4442af2a17b9af484f9ab5b2d93e62c47ce45716a98df1fbf20eae96f9ef3d7e25af41be8a00000, 0x184625a484317a9121eb9ced904691fed6fc79f73b3a75c24a77d5fc928174bb933f94f78baeaeadc0749f33cb97fd923b08e520943f4c598b486b0ac29af05cad5d1d782201e9e6a7406a0a30051b1a02cdf1768358000000000000000000000000000002fbaaeb0872e0c1fa89317cff93, 0x20ff11b896f24ab2d97d97e6f09dadfa357d9e8592ff9442fb422a8c146f956004c4b0c8efcd851e4e472081cf8ba562bd5d395bba3ad8b86406e2fcb9f1a9cb0355edab2d00afc9b7071f9a55cb429fc8b569d3be747550f972f445e8050315cab5ffe7160000, 0x18777c91b35a24d0db35f5e94ad04de45af206107990e1db17cb8c7011335ac7b4f6afeffe1e8bcddaaad3b46a5bd073d079b280597743e49f13ba1a195284386d92fe1784fc8e755fbfbe248ad76fde4851fb9a20f7d66ae89a193b5780feafc6ee88eb3e00000000000000000000000000, 0x185f745c3b43a130e0462c7d5ff481721f0b37d94b4a8a62a4ec5635e867f048e578461a87f9ecfe081ce455cd3ec797d2db5a80cea2475c8d202ca7e5ca49522c7c47ffbade99ac5c8def4e7855590ce57ec60bd7f8b0eb76ac9a362b27955e01f100443477b57f751a0b3480b156398e26, 0x43f6370641c5897dc6df7bcf4041f42d8e115f846e306decd671748f206e15c7c9c5c099c72834180311d6b69150fd705172624360d044124d633ab3e35bfc41c1e69918dde562309a889502f37f472c976bade54ba20dccfd74bb217d01e2b59f17fc1939ffb771efedd3, 0x58719efcd543feeb46d20c09ba159d6087f6724ff4b5a87499ad7677907f87b2219bca69b12ce495bd23c526c64527db95d8fb4fecf714d1efcfc8e7795caa8a012d1a3c684c59e5d078aa09ea6f80ad90366d8a796b8fc191bb6884c3d03b94ceb53ca44e51fb6d5f137a53e000000, 0x18518c8fcc2c68cd55f10077f19472deff10a2991b0e016c5b3e39294cd108bb4a12c590dedf9d540a1bb86e95adf4cdd8e50ecdf5224bdb8d7247481330e6627280bf9a62c44400a57830b0da2609fb3e8baa19613edff16238ffa86e4451a6b479a2f1cedf5b3cc6a3b657fcd912043319, 0x178a371b54009b60aecdddafde7dedc576d1e1111760])
noncomputable def y3 (tl : List Nat) : List Nat := unp tl [0x4b20b96b1fe36277d5c212e4d45032b5315b77b549d8fab47bb0961f8c4bb30f3d4d4d3123851b1ce015853e24ccaa848de541e7d65aa443a6c19cefbf567d6679f2b6c1f13152b917c4e57ac92c11b327330a5d7bf2b0e7f81fde000000000000000000000000000000000000000000221, 0x2467bc110ebbb71c8525bef5a61113142effe5c9d64daa6f913ae6f241c6d949a1e47cc66f6d243c5eda0af2601900a323125a229f2bd5a6c296bb92d82cb37710a9d2e372b4f4c82db358b3eff4ffed5a0b2351080b170c77dc06c8bbb8ea9800bd3f0d449d602797e7709678000c81f, 0x4cb662356831b2b691fb8df18d8c1a0df7a4dfeeb103d9d2cb15aea1d6d95dc282b423ed5b88b9712873cab09a0ef127dfd0e083ad9a7ce7feaeb878aefd5a13ecabedb2822006cb17a06cc4685949ce945e5bc8b0dfa2ef6ef0ff7b611d68e3120cdd7dd77eda0b5ca1d63189800000000, 0x3feb02e00f5d812d99089dd6feb21a274d1422b0522bc29cc8c88edff983fa4c5dbfddfade4ff9d5be918236b40dc9cce8f3f0e086ce74eb6bbe8348e09d5e549d2dd76533df29f5eae000000000000000000000f35764405274876a3eb409f67f74ba59ba942fd8c88000d0a3, 0x133ac9fc1a392fc1de1a696f16328229b82855ad9e581df5d8c7ec07409d3c773c390458302e30be32e651df0f6812370e96073c102866b345be5a72c04a5f0532432eb8000000042eb4a4c915d99d5084c6ce90e6fc3ea571f233b238dacdcf6a01eb232e4c6a251dc4f110a5b8067, 0x489b01be67add0e565f0cee05042a4b3e28c522bba883f8626790d2fc731f7b15414997954da1e29e8542814f1817edfa503da97a05419ab7484a9a1609e4146d9082c0379f5ea361109cb8ace33dadce2f9b658a46016fe293eff1e1cff084fa7fcc2ee99a00764776abf69c0, 0x604e6b34c4e5743afaef1350c0844852e872e99bda18a5a8067985197836a0c8bef816e80abed257578a32367f97d87cab380ef89eca65834886ea0d722e4ecc267b5f48410afa000000006b678656f50a74a0100c429a957d57e1485a456360eec015f4bd935a40ccaf8dc6db26cb28075, 0x30027f95454dec98b1cf4c11400f2d39cbda08fa8315922425cf392a283ad384dbb93bf3e5913683826f0c640068cb8e33a24a5988caac226cef882d34521385c1e52c5193aa78431ee60b0a0e9c2c6191c6e4129edde7fd0685871ec33cb5c147a6c1036de34d2d558f65088f4e7e520, 0x836103e437df9e0a40e2ac0b0f4fc828eb0dc101306043199f2e9798e816f49980e1cfabf7f3905c9bcd1f1812a8a6358a4fb593530d9069d5438484aa09f788719c788e0d7b8d64300fd15d88000, 0x437c3040d0bb764081f9240e7ad457507bb1399282192279cba73226eb13f51c831aa5294b3f32f27b971691054b1a60f4f569cc3e1ac998866dcf21265af3a2924d0bafd3f67c29c628cfcdb69b636f3d73a24030ea95b728800000, 0x7116aff856ed8be0ecb6c806493cfe24e0f6f0c1fa7074b125187952b35470b5dc2152480a961c7fac24058be317bb795a1e085df5f17ee77226c3253163b30a15b880292d447ef7a71904dd666077d4ed49656b8bcf78c7b5a565c353f50bb92dac6fbf09724dd70000000000000000000, 0x369b8e0775759134e4331f0cf3e6d814059094a25bd7eb7623849bd54d591e49fb77a2f7d358b2a830a27b2ea94c8972cea72fba3abf3cdd8ae6797ce8a6b18bdbee86001618e4341a51c5443090368eaf5f232af9c77de9b23f9b499dea75e32f5808cb02a7e5f1b121f96f1dc00008e, 0x77fcfb138eea4da3c3c0bb5a32458c3501886f6582d0001cd99f5c6525593c6062fbaff91772d8f8b702f2469ef64798916af4a57ab6e76ee2a8b50faf015679d8420a301c652076970d61ea49779fa19ee98c83446e1b5a3c2a5704ff75358789f50541b7b3bc7d316611c4299f5300093, 0x39f372213bf8e9dbe63d683290f97162070efffc1f20ca2ee0b44cf8f2036ba51b6ce9d163a692f0d89e2df5d17397382f973fbfa9a40500e2744a2d23ad7d2e7fcbd793688ee00000000041cb19b15f938e794a3c10bf03e91d2ce5d05551bc5adef2be057e03d498048a41b6c2e6000, 0xa8596fa4138648bfe07b80f1998c0979853eb03afdcc617bc2482104a59b55419abf71e2640595f0897e1fa3f0271d16169d70187e1a9bf36d5b79d1468e99539834cb30b86aa28b093f628a20f9087ed353192ffb20554d292e9da262664a8454f388a7419fb13b5fb, 0x1b9d85c8d6cd64e5cc300307e126bf769009aa50099f4d306347a64a652ebb429a5399d253587985230a27ecc5e12b53c0e35830caa2df949348064d95287b136000f0e27bdbe82886555ff2c0ddab5c47abd823cf05475f81b124d248b00566e272897ed24, 0x86fcb8876dcb49dd54a4ef6234fa23a177c0f5b3259db448d6c008dc908c6f1bc52ce8579a26ccef0f0a941e1cdfdfc1484345d836d8275582fc2df67c7ace53dbc81cf3471f3e8884e1dd234748af0946de606e9e88659bee81c6e2fdd2a5e69ad80000000000000000000000000000000, 0x8f24b2104cd0654543b254dbf68e6c5b7dc1fe7ffcedefa016042821de3feee12cf86ab8434fba8947dba4e33155589a1d20d46623bba47e345e386f43a770de6b83f97a14bfb778566c43c2a0b37d5c63356a23647f5a43fd28f94bf7f686692c9fc1d0af26ca78fb676efa5f16701f00b, 0x970d43ae31f11fe77ffdc341078ee3537ca6694ead4e71006d41964fa70c03203cdf37c545dc89b48e686530cb627faca1d1e6fc32433e99240a0f0f189c17dead9c2eee3a621f1110c819f14f4916ab19e6273b831edf665fbd388e773e8f89a00281b7c9508278222e8d77f0556055517, 0x2119a15653b2c42d926717ad1094d79afa8eb79849343cd3f8d64bb170464c10ad3f2d57002072e047355e49beaf9327e54c311e2675b1a1f34e19ae6ce0d52d4a0b644a3eb1b3310fba597f3ef4bf4c0ee359a84e3aaa907e21fe4932bf12540fe4c6856f57b5fae5eff693f389253, 0x7cbb6c7674a67bb9b436e09133c27a0e57aa720af3ebd01581cebf0c55aaa5f7f6720251669391bd940a7bfa9313e397a19710f5f41fd315858002920e626d9c59105eded4d452d61ce3621c57b15c6f2ed5e2a47d8d7d0b99c800000000000000000000000000000000000000, 0x4c4b2263c1cad22a446e72155627d33084bd44906e74347bbdef85dacc7437f2cfe8bf9786352217ffa53b5dd9a304991edb6fcc971674c640238df4dd287d1ea96766c566cafb60363dfea126d692ad05b12087636cec6fd891aba7d15c1f54d1b1a49fa56b839bee2dd257ababc80c9, 0xa431c35e29ebebef0c58a739f0181695beaa49b17f66c5d58467517043c099139834b332f6972fca94429ece6788bd9c064a1ebf61489888d90d9b95b861f10a02cd51a3a3f09810a74143ed1b57099bf14496e8f7800774ee3b3405b0d80b918bcf8d153b766702d921ccab060039ae3a0, 0x118e0fee4e87e5024a5d066faddf762c00e2daeab4fe59467e033883612a270bae5195df6c8a6cc963b20afba55e9b956bfa140226bb7aeec77a02f59c61b51bf55001686a7104ab3f91629f72b11bd60e9b07ca1062ae1fd1b063e7ba17734a528dddb8b07144b6345711707f3e0, 0x118fbfb4959891b26d53119d40faee781deaf8a251eb8599e40704816b9d1065d0e9b0a50fbd3439fe03bbd1a0f5c5ce82eb27c1662c4f53a7fb101fe882d2fe2842ff1a0440650e426c7fd638f436830aaf2c72c19f2d4e769feee397ae8eea0467c6e34ae1f15b1b687093e48151c4a0, 0xaad2d569b2b89902173e081357f12490c67bd4df1bff7ba55e77b34f71ec1dc115f7ea846fc622236b28747c186d99ae5251ceaa5e1eaafaccc43deeb671ef4e5731e0407aea15ec32c8696cbb2428e45a1296288bb81283dfe8f1e6e9265fa44757a6a10ae2a3f8db3eedef14e5400000a, 0xad3234e44b1a5f8ffaa061736b74258924b8817ca0710dff5a6829f2b4e201a6c82103673b14804d20ae9582a572d111f6ed8dfb14b83c555c5c764051c8391866cac3d92c82171fe3125e837fd0548387b1ef7632dab60446e5dbe3e5325b4954e78af5094c0b025c5f30e2ba3362c00d8, 0x15a121f001916dc44206246c7fe6f7c0f1a4b8e0e6a16efa5e70a78932616fc1329139b6ada2f720d2442b45a64c06f113feb378d7fb4e2a36cd5aff95dce49e767283d1cae59e89677bcc0c45da082fb9ec00, 0xb0d3213cb94bee92e2eeada9a0f33b46242c3a538baccb70bb0e96ba86b9360258bdafb35112c69fa4e40beaa963e6496fc2d42fe1a9e6eb74bf03c90275bcbfca0733a7a19c718d695ad13f156f1149a045b1e7a60ee278f589ddd0c0ab27f1a7ca0b8dd5382216bd0b9823d3800000000, 0x838cf000e3368b81f8e4c3e84f4ec4c6a919435464a188615a1f10bfeb8a604bed96f3bb4dd37170b7cf28452bc68b23435062b8560994829545f9d75adb0ccc423035f88080204ab245d4f7dff6a1812f7840078f77f3e3fd7b66e6b95c296872c38c5aa36368b1d17e041485c001dc00, 0x3b8bcfe9f4ea990abd21eaddcc8e7db6a830d89eacb46d413282a087276f803888d681e4d86f68aed749b5e431b427db8df37c4ea440ecbdc239edb9718f54eca03b28ceeffe3785bebcb4898c7593ac8aa25a1836d0d284090f24559f201dbfd4496919de78a4f244a5b3505ff50000, 0xd2999238dcabd7ad9e30dd874af2e4f7e762f984b9cb0f6b81aaa9c49e2f4a1d8845096b94a0f6e3dc243ccc95bc45f5c8fde3f65f5707d0ab57b510478c54eca09b2cbb0942813457f1847fcb65d90a803c119d613de29236b5115205d52d3c0683e09e2a6b9a5b350002f0c89, 0x8e76f1f9496fcdfd590e1da417911d1a2d25d4a33ec2de15120c2ac4e73bf86152e33e73baa15db49879813fe733c99c94f2ffbce14b7c3a40bc87b171c3804c8ce03b8b818c6dce6154fc18d95dd8f4583d2a42aa6f66c976e9591c53e50e5b8974cc8808746f5165cb333940, 0xb8449ccd7b2bc6627a45558840972d11d480a24f12fc75633949b230c11bde655a3b9784c620aa74ea2240cfd139158056d5384a0acaa6997fc2690e20cc067cd9b4fd11ad27fe75681fe70f9828bc2f3b4bb1d2af4b3bac7355bd1992f0dbbbc65d79e3e54fd24dcb5dbf81fd11471ebc7, 0x56ed3e7af29bc19cd9ffd77c30dff7c054ec9d96d3caf6ca1fd138b6caf98e1f1a20f36280f62172800124465999e053ee9ce3c0c56cb121272fcb08b79c7de1720f6136248458ba6b4b3201d91e615b27de9fc5bf0639f8fda9c3638acfa6af5119c8bcb47cf409effdc11e0103b5689, 0x1d58d26972101a87f984d73a6d84e271a4958137875a2f331cad646e8a3910fa176aa80b099632678d3418ad33a80da7670cf379cba339c9dc9b4716836bc0966b16dadf545cd8cf006f6b40ab36488eb3e2606f6573cf2dc994ba07563f913eaad3bddb2db2829138117e653c74eac8a, 0x580a8aa67e73490c655fc536d682117e7844b8346386faadaf03ae99ed74e60bb24ae9ded97ef5c31118f9b1b23adf4321f3e0e03e4595a5d79fae4ede3ca9958cfd69fd1f775e5e5b79aaaa4aae4c0b3a29ba534e062836f5a4a79edaf1a69528552e4852f26d74b3fb66f27a5f15e0e, 0x3e22d4e4ad1858074e919196cbfebd1cac12b97a104fb2786d3e818a266afad0b4d6c55ab8dd40e8b413959531cbd9028b36d7ecd8b305f4e415643bcc01210801f4b1ced65cf3bc35a60fd6cb831f6c58eaf663418a036832bab2ba7ff9f70b9efaa9cd6d021c4b0eb4736416f18000, 0x3bc988b0be7ec42297fd240badbde1a335ef5d0e40fb0ec6789d4afafe3478a06978d4451e173ec437780f40a9c284c9365b15449696436cbf0fcb033988e228a7a135137f7afef66bd505ff50000, 0x2bb42825aff655443e991e2b03e4d4080b8f89ad059715aecb0dd6d4bf6b9607dfd3322142e0bba3882b574cda28fd8f4ce906dfbb6f6a1672584918a3b70d4bd7bd174148bbf6adc34065b5c93522aec54be112fe05a4242b6e1ee11b9f3f554d2a34f3b048c96000013e9bc08e800, 0x3b6fd7848c478043ffd5f4b7251a18648a555a1402f874963f782d93453d0d2d4921cc2be6aacc322b80f0113a89b531d96b7da8f3fbd555db8ed48dae7cba65811f98bed81544f713168eac0cf7dcc01f9269314559625df3350ef1b1048f2d4dad6cd323ec1bc70ea03106fae69340, 0xcd9ef77cc9ff0aaad1b721a21587ea2a69876ae255d5837424fc55b89fb194a7c941280301d08c4437f2fe3ea5514dddcd717e3f5bab87115b8d9adc4d9710e934b6dfcbf17b96780706b2b939bad6721562ab66e6c8d223d78a73cca9ae7a9d17cc236250284b6ee259eb339962554b729, 0xbf08d51206668adc42b6634ca753bd6c27f1703ad64197bb2eb84318ac75461469fcb9885b915c7ab76aba860bed68ca8b5318a863d7d2e0cd428349dfa88a9009e06d2b54023e76a1c01ddc756543538f18165ed657b5f33ed775ed1a198bd3febb42e467fcbb90a4c247a8b6c0883ee8e, 0xd5ed24c85cf8dd2a8dfc45f402f8caf3a0a370da4dfff62a6ba458f2fdaf9b53e99f7c24813cc443e1dd7cff964ff6f8c20065e54169e0a59b969c9b08f786afd49eb07ca9ef55a6f0bfae458313cb2333815d3ced888db3d24e38459b728b7094371cc221fb53340a225557547e0de8240, 0xd4bd15a14dbf81c370ac0234a7a4c9d549b311cb820ebef4255eabc5b3c23d9d0651ca43f040378c26998cf18206f69c2a8544614bd0da759000e7ee7b4b1bd020568e9f97f80ce8bdbbef22abf7f49ce69d5abd924da469fdf3048270d2e6ada55c437d1bfa91501a93a3aae1380023ecf, 0xdaa9d861dadff5170bed8faa0addd0d0f20f9cc0dd8c5e19026063a8f15a8968b4f359018ce10097191c32fb876e19fad8cb79250f7dd446e0fa45e643976b496d2aec72b4849b0099d5157aa3b1acb1ac054b481fb18ad1f214b51b12f6f47272257c20df2719db45cb479e97a237ccbe7, 0x31099af1b12ac8cd39cb846e7ed3a35871142df314325ca888d949aa3b4d67cec528b7c1d811291a5de0f8c32b649d2d798ee9e60b932ccacfda5932abca73af2ef796b16f4cab1659e0c5aec623db8e59db352870582a11dbe8fc041f8407734716c0f852998020249b9049047a0a0, 0xaa56b4f8976a93a2cb3b1aa589be84a4d96cbc13bf483a5a0597ed0776b56f8a681ca21b9cdc8ccd0a29369ee36ffd8d2eba22ec9513f2904eb87da08efc554ce5796fb9d85eb9aa94f5716fcd22ce1a6716b0c671418a1519ac72ddcaf9eaf8e29468c428efcd43a34e1e5114, 0xd5875b90f44140cc8237a036323c18abfece3eb4feec4d6fc010b2972e4da3befd356f86ef1621a99bbb4d53d19266c897e8404a49f94b539ea8e34fef6a79fc0864b36fe3c70f07ce60d0c298cad7efe4583566658e2a6c751ea0b48b5a6c71717cc6012c998a7c88858d6e54b85ff5740, 0xa425037e731cb132db2a00d6ade172c3d5986d9849c9c5da2ff744336580258b0308e17586e6441ad75817eb9b6065e44da6d0bdaf789e7d14c944b7c0c588e1e2d392ecea6682bbbaff92908e2c7439d4bfc7f846c60e6a32838a8b9f1d4f9775f556c169d400cfa99fdd47a0, 0xa7921d06a4fca166629dd2797def9b36dcbe92e4d64783f6b2fecc02ba9cd61970331e58699e97d58e50fbd6469ac7a5783944ffd66b8e3be120837b6f1d9e082e0b4b0053fbbf25d88b6e04fecf86bf84557fc09e01e15262c65583314a6debd211f9bafa6dcd20f2e2c36962, 0x1636326bff46ab7b618bb39643112bea7d218af9fc3ba9cc2329bffcb8803f1d86bb354e426b40866c46fbb910add92c577bc4872dd323f9f78674b6974a6f1faf69bd169af196d9e0c5010ee488233045729015698858bc7b088518ccb573e6bdcd4a1f09bcca21247ac64e0010e, 0xe81549daf5cd1afe8c6945d82dc9cb07c01052bbaa780a8e3292327a19c4579e563a36885417b4d74ebcd9d321fba2da0482a1e2561eb706b247e0cd12bfe39aef4b4ab7319e3477932f9cb9e2e973bee9fae656969c377c0e7cdeb4e556d44306c96f5d7ed3437e5021cb55af61c00010e, 0xea17704e8517c61ccfd4448104fb444fa2383fc0ceea664b7fb6645097efbfaf77933bec688d713e3b0a8d23647d9aa062acf22c73dc5386ac3e4f264395169eeed476caeb8c9fc13d7eb8fc70395c6f694b892508b4bb529b9efff355673a47791a643792958274e159479e97004c5a9e6, 0x349e895d93373c489aa2e73dbf275ecff0568452a104dbb76aa8e1680022fc17f0c396dd6f6362f6a2f354becb1f9f5f1335142f7d43f3162b144e03c2569d9554af39f89fe445eeaff41ec80ba280a2355fbbd520f0fe91e42840d5384cc5f8ad4f22f730b68f46c0938410b90012a, 0x6fd0e33e4014b21d710efc690e82e09afec7e55e71331662fbfdaaa9e26976fe6ae83bc42532a06407d745bffb85c1ca901099ff0ba445a963070188c13776faaa2865594f046cd8e1252fa8db356556991cc6b5d08b5be92d2779120a490ca0fe1ed87ac71650f1d3754ee1380023eed, 0x2f332b257c258713bad3b84b7b05465296d4d96ce43c3c5ec67f29320546737deb2d5ed6897edeebed28246505b729e8187df471ce8c24068da855c048352ca1ebee5cab52970c229c07f2a5963ca72e01463516189857e6d3e461501a7b189f8c04e70f6c01e159479e97004c5b7a0, 0xed9bb4a9990386f80d17f0e989fe69239b6524e6ec6277e988855f4e9befec6a7bebceb6bdbbb8ff66091966db1ba7955c77206f8b3d093ffea880ecb4f332465925a752c7ba91665b77a054d847c5e89c34690e8a403b71d312f82c81dc1cb3237f74d19fef2b55b02e4b825770d9575c0, 0x349e890e3c45f977444349b4c88f32604adcf96af6d956ef84fae728b968879cebc43cf4c8f61a4c8693d0750eabdb149f267b1ec340c7e632a9d49e44aaf98224a855f6f469d4476863555a91e61936e985f2c1ae5fb2c8153fc080f5c805f16886fc760355cbbd1837342dc00010e, 0xa73db7e1dc6a587348e66b58ed5c0c794a38416355ceba6d990769d1de872a32d0be52343e0ad76aaf61c977305a4a6f97206fb2aa6d77a535587a9826f5b41d99505540ad888c1e59f5cfb67d633c45d4628840b74a8dc2f3cda66d0840ed87ac71650f1d3754ee1380023eed, 0xf580c58e815ac421c220f031e6444bda5fe7c93acc1f14a6de60f6f62c3a5fcccd468645cc42a32f7137d5afae840510d79282a90ea3c9fcccd6f6cc2c42073cd4889362539287b689eb1e2da644ec1f92a8a20c607deb4e8c4b3bc014f1d0fe72b5d5242224f4b162c9b8a7f2d40023cae, 0xfab30c4492b41306495de90fe63ea36c6930cae4e1192c6ce9858a3611eb8950e4660cb73d93ebe135bdb1c62d9ce38d82e3b0afab39d15b72525a57ecf44112246c46f1d304a41e1b457abb8b7618afd7fbf60ae48e11c842999858a4f5d6609897939512cb2ffa86887ddae504b327217, 0xd8b15c3f1da00cd7187c67b4d4802042c279e9a61dafdfc9eb15c338ccf1d1ce1973a5f7dda2bd73df961513ad178cef86da267e361b4a76c722b978ad18b736d6ca88cd35f9c33d6745d74b4c97b87b6b879a93e732db91316fbac9b89efd1f2745c8b0234df14995a8c16cef301a921a0, 0x3dafb09f11d02c36a30ec296caaa1e737bf9a1ddbdac853c1c0ba579714fa61a78e523294398164053f782b952a7e7b2ecee9122fbebd419e2783c9f9f56eed462bae4563f97d9c9eb910a4e7b35b6de5585a9ba8b6d5c818622520df9f9e251b2cc642fce80319d1a194d109e8fc474912, 0x1afbb31c353984ff9bdddfc99a132eff27d0b00df64be5ef548f17449e032324edbc8ebe19a131f7f9771891856109c8c548fad6bca907d5bc2de47b58ce92a0b3be5bddbf088967b7d07e32ea3c0bd3a1200000000000000000000000000002a2c8bd3952a90bd782857cc000145, 0x3956dc9bf11a3a9f2b377b8c6768c12a57a1a5765f311e8b695694ed48cfe74a7e56abd5d822015b0179568ffaf0ee9e30a834ba626d9c8744019a5d4a96159c38af9d30b54169dc4a0868b6e3fe4defae1dbc9c5fd57f014e1deafe70d99e862141c171068f96fa89511068a001d48, 0xfc9b8be41c69a445e6745299079cde53e9069de10184de4c35325915a805978f04ae9cebbd0d71f0164e5191b4e3337969d75aeacdab62832141d09a6973a93050ee35cecb3ff6501c767b607bbeb826de94df89912e74155f9c068aed58b7b21f78b50f74d83e6cae078ad2dc4803e3900, 0xf6237c7f35dc6121c0b863bc6a62df297d78eac7b655149a0ccc3fde05500add369b0935510739926b8cda6187ec5016a55eff198305fc9ba852da584d2cb66d1caa7b3f8d4b2dbff075f9642c678ebcfa16d2f5c7f14f4e29ec2e57fdd7314511f5962e9a5fe10026d92f82592800, 0x3db905fbed42cc3e887c7498b48c5fe8f8d143610cc77270b45cd6b7d3444a24f1f7bb5fb99d39850549e35aa237d53d1316af414be4b3b52218f0003b2f1a208a6c5ff1865609d31df222010bf9bd226fed602fe1b00, 0x7d305dfc33971a629d6ff8be8120d7e34f4869a92812607cec69171730d5c26815a24a93595da24fc231095cbdbbac59b0cfa7cffa60ddaa01573325826d06128835e2792633f7de96d526c879794478e06c43f2d29fe7b7ee26f5178ec9831a8a99771fd2e53af2aecdc200000000000, 0x7d305def27bc2fb3d3d925c7990fe3bc2b65964b1d3fb64dc0142d3e5979af008b931180434521f2a61456842d0d995537d008c2721d5ce8ddd9b2978da89800d90f38263e45ca72bdc0c9cd797a91890096478e3ee912a500b4c545ed48d4746404f4903ef5deb57824ed92bb9100151, 0x3a1ad6056855155e22f8199e218841ec642c3a30c6af99f89e4634d019df997601b11ac1fdd5b3350bd347f66e8046d399096f6ae48da77954778b94a2501680668421d6b34539c3c919caf9a2134e344814d4b80d4e14a1c34c20, 0x10dae076f36c5498d4ae9f756b2915adb543bfcfe44ba01216f78b9e89024d1d5f92f58a1459bdd7e7f64852f3187c32ed4a221f5d77342d4c3898d03ca9ac778f286b47176d870f990f2cc9050580c577199f097ea923130b4d1d2247077c172700034522544b78c66c0000000000000000, 0x12f56497316d5704e90f5e2efb22158a39bf4a81ba40acad9cab367ee0fda575dd73eb81da980b5a42400475ed42c8e7c10f695dd4f96342157372757634482da414d216f4322f8d5fda31732ad9e9eb4782d87ebcb44888ce777d40e778425e8087a3f526feaad011a99ae27b0060b3237, 0x111a2511d8365b050a4bc7db1f3538f9831690d53923ec94019b1f36c152a7e1b207f104400390f41e8bf4a9a78a9805a1ce3f2771939dcae67a805439303d70964db9af8ffae993a719fc3772d1112989560cdefec0000000000000000000000000000000000052fc376c573cb872901318, 0x3b6fd7848c477f9ebfe6192d394de7cadda4dbe91c8ef7ce9551c066e021df7ac731daf0deeb5ad52503ca5d15823d6101d1856fdffd0941f53c54b86fc672686b6e729ebdb1d31f272a052a12170944b0339a95de706777b01a2d43561022f66d90c79b3a2a2bd03db7050425f0e9d7, 0x3b6fd784895ec008d7e35056fdb4d5f6ebbab1b11b2193995b2f0b08f631d4994b164994fc3a66433095dd3cd7ceb43e37b10299ee96a9b2b1ceb21d555e6f09da7c821af1c57a72ee01ad450ea50362654d9e62fc64f1d24c93439c307456ee04c4ffd5af53dffc5cc220e7fe850000, 0x6af08862d74ebc0faf902ddb55d3b93d63959ae9a7ef682e7846ab225b9b98225ab8fcce59fab229c3dafcf749883c1954eb3df41e7101cae41de5449246fbd1f7c7c400631d0a100b30713acc6b04b63d502c77a1074091896076469faeb78804e76c6445e1af23fa12222800, 0x7abcda8312ce46ef4035b7d7c930f5fdc1cf5d2908c7870823ca21932b564941f13811b85f8a87d61b23e20670e4055355fcc6da41609d8f4ef5f13662457e81698d4be5caeccab1add375730f1666fb5f52be27e4d46fc3af5ab0fb5b1d7b8b12208551dd6ca54d32e59e6812c000ac, 0x841e37c6e4acfae15d02d10508cb3cb93d6f81f931d4c2ccc7882cb38be178ecd1e85956d1cbeb8d1c1fc1954a00beb9d443632ef190ea3fe30ded19effca75151cf566213fcf997e7284bae304f56c69671cccff08d8bd4b8b1dc00a3142df215008ff33470e82ba2dd17aa0bfea0000, 0x7e4dc5f20954b3dc4444c0265f052de3b6e387054e1dd8d7f2bc8181ad1f37591115d0d2a55d1aaf8be31c42e78092f64e3e5a2c7232821e7f08812c978c2fe02427dc6e9ba9c5b508f6a21855e85805996df50f6cb501f512f93993f954369a343d35067c2301356e1fb9c0c30b671403, 0x9eab2a54d747aae2c913134d633403e41af5d87fc0986fcf7364121a0dd09e01c4abd083f6d9cad370a8fc605f270b66546aeba6d231e378b9dc5add7d5a45d662799c24137cdce44c465b5528e6a6e44aec1ef306a2786b6604e8ef4b43fb56c3a3eb24c16a5aa78377f92645c51f50000, 0x11e8d3f7d2cdc739a6bd69ce938991a6d2a2f020601b8c6cd4543649d3294d3041b23f3162e97ef20de162227bfe1b482a4ba3c9aeccb51b1a23597781b7de245e2e9a34de7655f1d9fbed7615c2e7ad2461ed49bced0bd4f0741fe12cfdd3f64c1cc48ef17f8f134f150bee5c4db78720c9, 0x8738284d7984b9e5ea02c8f1e3b1372ba034e6dd6d5d296dfc4e41d5efce4671216dd9e5c1800d5faae3606b20d50c50db73b9196300e94dc807a6cf0d8457947b16ae3e63da217332e640130c28deb4a5d390b14a726f50f4a5abd8305ef51855de070ace836c66e2530f873fa57af60, 0x2a814505071f0aeaa34b6bf0f2909d537dfed5832a5215d825d5174e9d44a6f468bb391e293f3222cea29f133eb826dede6d3fc657e4150709be80eaf1ec7eb240318b5f95adc872ca960254f94, 0x12a2680562b482d723808f1e7b807a35e59807297a60fa2357a003919c3bdf5ae5faf4cd341bdaa93f88a9859d543d26d15967c06a0bb37b13f6b006af13b4762e9b6979363ba74bdb5bc4e5f3ee75266b97b93e1d6bf2840cd22694b9f581b6c822b2b0744b69bd91433580000e2b302340, 0x8c0c72f799417e800710fbd2fb6d6f053abdcf4237875e10fe56945839733e1935b6adb740f6845d43cf48db419d984fe6715e69dd2e6bfcf516b3594c14ea0bdf315132667850260b62f0cb3398ff23731ceee27899f09cae97359b3fc9248eaa0e82dad2f2a358684b88d4e800324bb, 0x8ad141d7a42ce21f72d77bbe3fcad7b387ebd8ff9c2b2a4e22683d257301ae9d7bd0fe6ac0500cede10925d765ef559bb74a08a21da78333ad11f6aca039ab8647ae552bda659c44e07ec0ee13a0bb9a1a1f1cef338698618abf374a3404f611fffcde60ccf75fd231543225e053598a0, 0x8c6b6d291e22d8195d4ef0e1eb487ba84bdd7e9e02a55af2bb84eb86c4dafd69ee136713782832386dc30f13114316601501b26920fffa394c8b888b8b4e7ee2f270a74298cd1fe708990cf2742f48ed71b5a74ae4ebb54513d9b224f859d59c900ab9b7da811f1cf53081e81ba845575, 0x12a269d87c681710e373539d089eb9244013db8afafc649a57c271e10c5657c6122a4be40d486df0fe58fba0cb00eb4aec11b31b278ec866a791bde398035faec304a8c95ac9e16f9370a320346c52365577249ae277c64bb8cec1269cdf28313a3ee15258a42e14e46d0563826083d7e800, 0x1f280b7df485d9785a4a4ba44471be3d6e9a2888ab11b5838f6313dbf76044016b291320724dff4054db032cbfc77aae62275bc23ca6b340144c3a4a2b17bbfacc1206e4d91c2e50897d7b56fd9fd15d234e6ae1ceaf33d064baf8adb75a790bb7271c765ad646481460c5ab00000, 0x13963e759e0a007d0cf68761c075bf14d7f20be1349f590c5f89f787c8c66f7faabf34215fecacedd3b129269fd89bad817625f59198cf9b792b919d9aba8991848d7a353e3228598468511c251d88ce8233179d2933889ee470b1561129ed2b6f0a8584e21994f23e34e22f4145b4032340, 0x42146f9ae10156a85dee7a9802a90256d3613fc61221ffa668d4a4e93afc897a3349b76909affe8707b42012ebc2d1c8e85eaa5cdf4fc7fe34a904b82b38488cbf7257c716edd459d3ee0d9fa32c57cac13ebb9be18f118df38d299fdb536f52406650d4e681abdafe93efb32b2cfe0, 0x4235914fd4f3cbeebb7d6741c1258f329a1d5721c048a0572da1a30c87eaa96e5eb9607ff2770aa5ecfb145f1819dd806be0cebe2163ed0cce200850c54641ad6682d7a7bbe0bcbebe528f2ccd9183f70e5435b2e4a8a988b0e8d2fe00aa2833d277c218469a9b0f6d941009e3e0b40, 0x1299a744e25ab2cd00f04172056488c23cc04a9f9162e731a38a0a6adfba9f029337ea4d11da01dd6a60e5d9b7d854849a08c40ec9805a6c5971f6bbbda4855a1b764646d5553e721ab5d37bf07e89f4a284f1e35485d095211d5bc6e5ae390ae4c1f1a6c3ff540aaa4fb232b41e86aae800, 0x423624f95e5c1823350b13ec0696c3dee6351ecd4bfb0f7347c0a0c3de05f07270dd5e8bb40c51b0d45d759db53ca756389bd7fe9c7a5e3d5603f2b52b34430d265b3aea7fb9c7601a622f39333b9c5cef62aa65079b57d7e933635a6b20a41665f5b71c6b3a3552d83466b68b21f32, 0x1f28963d7c0359766f1f749874f299d5a6161a8944b39c08d9abfd569f53f8923f25f00664d545af02df899b64c6266c75ad4b2c761b7b0840ae8578c5d6928065d2460d63e8244d99e8cc626cf38df1c8a25edf0aca30683c2b91f27a17e032905cce6bee9eabc62b41e86aae800, 0x984eb9fe3f5e565d7575f2c2ffa9d82a56cbb6771195472a08a0354942b11d2b0eea80af6006b09db9ee24bfedd056de6afc2138639819a08c9e09c2785d73d3bebebff54af0a1faa45828e6c82728c69e879d1b79f6eda6dd7fdc96234220d8dd2cf98175082d8b86f1ca145b4032340, 0x145c73bbc30d6ed363d5bb5bcdbce7fa3868e79ebef1d5143f2bbc97bf409e9356db4dc249a0830656dfd2c7217410ef3d86a6cb7270c2ecba51de655af36d8d48ca7c588c9e319cc7080938cd8f3a7120de989a38f6f7d9e93ec033b31d8a1cb1392cc9dc103a5376c74ba49bb4b86730da, 0xea9b970cd25ee52a7b9d9113a66d09b54b82b3ef467404276089364a90153a41f9fe8e52767c82752f2e44825caa55b04912ec850ab37b5b84d1d50a84a3e69dd303be1e9f6b6bb1b40602e51638e176d79960e9baa7121fe329f08b2f9cb1e6823205542c21eda730328b9f1d, 0x143a74b3c47c0eeca50707f1f5e960d7fa380946d33e6e61db46b334ec93edb30b51cf3d8fb60a69db53998b5a8424a738136e719790b7a297578baa4b94c74e0aefa3ba50f0a0525f1df5c65b8e512e5405d77c758fddf0aca30683c2b91f27978de8633483cebc7d0ef912f15af3a0017a, 0x12a6447f76ea5584af83acc4fa01cb90f72e13456ffabd2ef7a09e5aaa31304e1f1d03c9cda3a9769b51b96cfd6a6a1dd4e8d793f655ad88f6f34dadf44e8f99b049ab2042bfa5647b30b81def8b98e587c609363df1eacc76c02fa603c1fd1fe672a6282a9304f1994f1bb52a525b6b7bda, 0x9d821e111a0ec87932f3f3019f320f171e92dc30a11e77fb8ff73de0674f380c45d194b153735f633ede00adbef82e1621e8b1844467c68fb6eed0658ad24e94b646f46be333ad16aeaf2c4efb29a03c5585adcbcfc13bf587eb35d36cb9e122d589dac5a825cfdad39aa21351440e57a, 0x1e1bfb5f7b4e7ccd0cd123ca98d71dd305e79323cf742e0bb9577bf7cdd646844089c91b74855e8e547d244734c1fc00e7e94092db00b3ab1b8a243e79e8a8658ee2ba4ce0dba2000a244b529c9c5d3994ad94f3eb36f49792a42468782e0651247a8adb96ee2a926dfc7e4faa5a8, 0xd2999238dcabd7ad9e33f0afe35d356e0a76e071f5e52750aa955ada6b93cbfe423f75a73b3a51b57e9fea870b5115df369ffb42c19b655e0fc3a462adf45206ec5736f1d9969bbcb3c042f07c42b81adc4df4653d5898299195feab9f29ff846e0784ac91904855458f14c32ea, 0x4a34071732546f8b5aa90824fbd844262fdcf2164f443a32e79c1040e3144df22c1eed81ae9b6879788656610acd1f0e65e67018426a9238df52c363249fe044ff25c795cebf9e89f30951f5d67f8f9dff37adc93e5a4c329c6b97e1c022cd035600841fe30e98a017d8e5c6cac020bb940, 0x48c218b3dc3f3121a72fa2fe6e966cf6060edb63eb9392a66a03c21bb696d8c4205cdd82387de5f7410aafd02b94146388666517aef089fbedb6c1284fe0f8da5ecf309a09ed39217c461af993e8137aff8d5644f95b1ac6bfd423b97e64a7f5d8bf5525e39e02b14440c0e367b7c00c7c0, 0x2bb41e780aa77d304c3b5e4b06118eabd45c7be76af7aa6bc88309fb55e0bd4abe5d94632665e6bfe9cc0b414897167aa8b2943da7a24a3ccb510b96b0e6885771d9e441ccebae9f2bde908e44f4d85f510c7d6fd4a0596f7e53945fc37bf0346ce98deb4e2c9569ead67ed775f705c, 0x4e61e4479f73f2e86057a697cce5da4321418cefcac5f279fdec28a0c2db2ee2b270dbf1144187bd5b5bd62c188c8c481a5d7123971adf2e1cc2819ae9d9679fd7d84d86cfcf87ad210bf496b486da2d4e6dc5ddb2c24a23f7551f7f0b5d1aecec28b380c6f1c2fb29e7dc49997fafb40, 0x158050a5fd3a33591b3939a7fc0249a30cb329d3f688c4a8bbbd8bd95aeafbd217246eb70b5b1e03adbc4572cb82dcc1416f9f569d41e214352f665f260bd32ab94b8c7d34a514a1751fc21ceab01d6e6d3872d35ea1904b413c576029c2b6930b430db9d69a7a558a2a5c3a302409b8ccd3, 0x160b7c4d7bc7323c4b6817601324334833d3d52d66f1584af107f2f6837e7e8cc1b146dc53f2eb5032bfd3453fbc0de495e6d19a13361d510cd4646336d877d9b096b6b21112444409d9fc71864948722e584376c3ea2f2a010bdd28f1dc1ebc1c47c7d2f6ef2128a47e6e2d804d000001b3, 0xbc3908d8eb0d9f1da817366f20c56ad0324fdbaff976e6eef227c7f1a68d1b795960150392975cefb3da226fed626074d3a1382d2336d900457887299d929a899e122020e3ddfad2b7fe95bc1ef63d8b4cc22f21458fd09b31c25c7c4f22f125b4c47f87d0807595e289bac4147af92b3c0, 0xaa8298188d1bef968769ed221f8e12ccc92b3d1ddb8d7705a2f87f2186418cdef76135bbb6dbf5803d4a7b8783cb4344fc7ea4eb03f6b0637c565a6d01146a57ca9acd4af5d6b2ea450a55a39eeacf476b0361cc544a788a8d704ee7306804b26f0ef23655cf8d68ee052cb585074f9c0, 0x149e32ccbc08ad5947d76173cb5181491289dff4dd193fbd27df67fa02dd241ed4ba6a89062266aff634e8698d4baedeeb82de5a443fba845a14f0bf288ab05f1a5026b9eb635f05aec79c8773bfa1896a19be5c005880284bf13b511ba83e17f716248bca0afc5154237176f212b, 0x1daa7c3c2505bfee053848db74da38bd1cf1381368f0853132bfb19337f808f2f87a883b3c327f6de6e781b11506201bc38a884d5abb19c329016f801f14e2c84b0a642f1361c3ab8043a083575a18c9b5cdc681f39d489702d4129b620aeccb965c06c690b3586f6964f2ad4b4021340, 0x17304234d5175b3137d08707852fb095721401b213065264af9210083e20c8225955a7d8b42b2f7ab84e73cf3e70940e6aedfe81eb82a087346fd07bcee2114a447009e92a064742f9e78be9150e5871a1decfd4ed22d63cff6a9ff30110d13f27533fe3eb14e6ebe80081873dfaf60f8000, 0x1793c41f427c64fb21584c09d44e2bde72e9652680715fd80cb23f4aad4c802714542f986922cbdca2bd6614d8571ae4a5423eed1ed6d510fc2b9a4ecd352738855e1a3c754965ed8db59e2cf2ea9c4e60b56671ba0d11bd0ea320995576a942fd0feb50242a6bd9ed629b4b9b334ec5d9d6, 0x17dfb00c53dd3f729b8258540142b6bae987ee1e8beb27e63bf7082c1583dda23a5d291ef868620e44c21135784ee0fb2adfcff367b418dd29e50c1af708e98a210183551b678c58aef6b698f48e67a37158dcbe111a7e439fd6924d9d9f9e70ec3fb515d89a986182f0183319ca5e4e79de]
noncomputable def x3a : List Nat := y3 (unp [] [0x17dfb0c76cdcafb8c2f5b0fb0079c60b0c543e85c78c35e46bb9405b43ea3cb3087a0129a8bfc6cb96d2c52d4b5cc3dd2960e63d39a507fed9eb6f6c7f069818904436b74b41b500b5dc7b3b5dd2385cfbcff14bfc5611cf2e8d42c7363ce5ba92079091f4c0f0d37de3b57b7598c8891043, 0x8452aa0fe95d6c1006926712b27acfe004654d2cd0baf95eed97dfff6751b476d0765541003bf363ccf4d82217b59fa1f6a899585c11205efe121e93855ace9daa55b90b85ce91429cc999be244ea4931297a72e52b68f3330626b2f5fa1107cf09edf9aad8d177960f9b7655c, 0x1852c1a4b5c63b080fee1e0392d1ad2f266810d526037db3e5d1542ec383325ad0d565a7ed127a67dfab1451e1f2aa59334a5855adab9b72d4b32dc4417cd6eea2042c686ae5d5474a09d2c078a253bb9641ae36083d74340000000000000000000000000000000000a209102b020b5000d5, 0x16fbe732e3072527e4c5d29ffa3ec0a72cd5aaf38443290024f4d4944a6223dd44c97bd2634ac8540aa16ed2ad04b8c5e77dfc3094c40060621f25b8ebb5834874af818f0ab3ee6c327b7dbd13665544d7f536cd066ce76cc4141b52d6a39def063d216be7cabad8d86af6b4875bfa0417a0, 0xb838b407b2392ed6c7b6ca3d06d59e59890a0d9ace13fbf03a8ae21f69616cc0a7f0c430863124044b1ca17a5f580d14894f120ab98c2ee446330d5f0c2d3c7a0986550800b0f9c9cb9f56ee9407123174f7e53087e4fcf30f8474fafdb23f74028218ceb347550e58a5a82e58002d891, 0x1d66a1db8420a1f6e6fbf25d647a1fb4bb2874123ea47441ab5e27f89860d914ea0ae49e75413a0dbb4c69f35d632eedd8cd50b9c7d89fedc600401fdcce61b64668538985bb12fd1402f2778d1b36e773f0452aa89c6dc89efef843cda40291e4b92ab09f72ae6f8de86d61ec4208000, 0xb8ff77ecced1fe4b7822a62048f5e430ccd9b2cdd9427fc5f5f198c78e1f2b28ec042280be21a464424187227b013065c7a7fab6bf59b085e5f930a597e16ccc547fdd717f5877805671f089b5fb74aae48204eea6772cf87660b090b45feb56ae60abcba7fcf33ca2aeb2322aa3c004e, 0x111e98934336a5997cc68d1fb73b739817ee40f45d84cfbeefc37e5f6197ab6215c164f271fbeeb97b652b86dcc7e0d8bdb1392623b097d2e4e276df0f9ec93b94447429f604207ae1ef21c0fe7d5fdf5f2d131a648e3b3568b57786ef49b860191201df748d497c795f1f8575e51c9f2, 0x198de3505851c3b8fc5fa0e291e7e26aaa3de88eb4f85553dcc326f0363ff3daf79cc0a47940710162f548379d758a35375e5003e2bd4d29211f30ff82adf4ac09c83e3ca841e4fa5f4467ef080834713effb94c7431f0abec1be8fce35da9ccadf1e0b3ee5bc29f79f4dc4390db80d3d62d, 0x197494b43ad1b80c90bdad3a41dc178b4550a7d54683f5336efe8187b00163c447a486a4354982fa8f6fa8172e7528ef7741070d59b20dfaae3999b9710f0580a93cf971554858cbc6842d26aac040fb9862beb94ea38ab457846696ef831898cc0e3bb7f27f15dd9e1a41db5a9688000204, 0x19a73d91d3ade62f0ab56eb1e3d209d69be7f951543c6181733747912d7c4638c08d9f427dada11d7413a7efebba9044bb43e212e64b858b390377957004d48b4ddd9b7ccf5f3d69bf6568843669d9466e00000000000000088e122fc89cb90317e68b77dc2a2a1657b4ddb540de92704203, 0x11906c2c421fd91bd9b45621e4f60813c1ba0e00700492d292aade6aa01e690f09212c693185bdf9781a85acd70e41e7526f1b7fa565cf39d5a669297e66fdf0f63c474dac4536afdfb23147788c414a724b6ae6c90bdd0993e47ed1f0222591b4ba265078715a7e813cc26b1b69c0000000, 0xc0cc632a01f7e68bb7817b7b00aca6388bd36452b401a5bd7d1d231dd53ee6351492ff130f061b82c4a763bd9756eae28f50f4f28566b063809c1ebb689a083c4b291953394ffda9c07469a5be5d36bc76191847f90e5e8ab85febd999fcacee550b710e9c51ada22b64e0672800016a4, 0x3b8bcfe9f4ea990abd21eade3ef62b399721ff576e98a1539cf130a8f46cd8d2255e0dbe4173ee58c8a0a4642c1753dd01effb80c781335974b5f3f76c73824da2e36500221e01dba11970cadde649c57691e9a70ea8a5abdcbea1bcc3daebd684d7fa6bc22ed85bc25e50b34a700000, 0x3b6fd78abb0ec45c661bc9359cab096b0948c08238d833717fc4666fc794caacc9306943cbeb4025c4f37621c1c61ada21afabfa266205145ae948acf9976e4ef9c8bb65ec35d8ea054c025a00aad54139cbf2e4da0e05fa20069fc3c815f30d4ba2bbdb999d1a83251a4f22d4dca209, 0xab977673af7f1f3a9313af9d0601d4d7cf4a18b5544b321d504751aa7e8c7bf0f70e939d810d61a2839b4305663734636b24abdac42e28a0000a])
noncomputable def x3b : List Nat := y3 (unp [] [0x17dfb0c76cdcafb8c3695df161000a8db25a9e70fb844a59c7cd638717666fd9e59bb9feac1ad0614dc5a6c005e963e9d8303e8af019178de2a99f698cf219dd6d5792fdb0c928e1b3bc948f941c3686bbcff14bfc5611cf2e8d42c7363ce5ba92079091f4c0f0d37de3b57b7598c8891043, 0x8452aa0fe95d6c1006926712b27acfe004654d2cd0baf95eed97dfff6751b476d0765541003bf363ccf4d82217b59fa1f6a899585c11205efe121e93855ace9daa55b90b85ce91429cc999be244ea4931297a72e52b68f3330626b2f5fa1107cf09edf9aad8d177960f9b7655c, 0x1852c1a4b5c63b080fee1e0392d1ad2f266810d526037db3e5d1542ec383325ad0d565a7ed127a67dfab1451e1f2aa59334a5855adab9b72d4b32dc4417cd6eea2042c686ae5d5474a09d2c078a253bb9641ae36083d74340000000000000000000000000000000000a209102b020b5000d5, 0x16fbe732e3072527e4c5d29ffa3ec0a72cd5aaf38443290024f4d4944a6223dd44c97bd2634ac8540aa16ed2ad04b8c5e77dfc3094c40060621f25b8ebb5834874af818f0ab3ee6c327b7dbd13665544d7f536cd066ce76cc4141b52d6a39def063d216be7cabad8d86af6b4875bfa0417a0, 0xb838b407b2392ed6c7b6ca3d06d59e59890a0d9ace13fbf03a8ae22004c16910949c851e9f6602a0b5429c03a4066c4c9ae2aa4281797924390f5aea24e3edbbdb049cd27adbecee0c3b56ee9407123174f7e53087e4fcf30f8474fafdb23f74028218ceb347550e58a5a82e58002d891, 0x1d66a1db8420a1f6e6fbf25d647a1fb4bb2874123ea47441ab5e27f89860d914ea0ae49e75413a0dbb4c69f35d632eedd8cd50b9c7d89fedc600401fdcce61b64668538985bb12fd1402f2778d1b36e773f0452aa89c6dc89efef843cda40291e4b92ab09f72ae6f8de86d61ec4208000, 0xb8ff77ecced1fe4b7822a62048f5e430ccd9b2cdd9427fc5f5f198c78e1f2b28ec042280be21a464424187227b013065c7a7fab6bf59b085e5f930a597e16ccc547fdd717f5877805671f089b5fb74aae48204eea6772cf87660b090b45feb56ae60abcba7fcf33ca2aeb2322aa3c004e, 0x13b983457f874f7ec1d9a2996793bee2bf61d2a01a7b649ead2d4b098eb37536d5b4951c3158b233770eea6c1beb9cd53eb9e63fe02c18d80d5276df0f9ec93b94447429f604207ae1ef21c0fe7d603097c564342ae3b3910e2e33e723fa72622b6418e1f37b497c795f1f8575e51c9f2, 0x198de3505851c3b8fc5fa0e291e7e26aaa3de88eb4f85553dcc326f0363ff3daf79cc0a47940710162f548379d758a35375e5003e2bd4d29211f30ff82adf4ac0f4a1bd28bd3ef57838c4a7baeefd6c0f6b3ff9a3e39c660e1b4ec705a7d482900331eb90d10ae270c83dc641bc540f37234, 0x197494b43ad1b80c90bdad3a41dc178b4550a7d54683f5336efe8187b00163c447a486a4354982fa8f6fa8172e7528ef7741070d59b20dfaae3999b9710f0580a93cf971554858cbc6842d26aac040fb9862beb94ea38ab457846696ef831898cc0e3bb7f27f15dd9e1a41db5a9688000204, 0x19a73d91d3ade62f0ab56eb1e3d209d69be7f951543c6181733747912d7c4638c08d9f427dada11d7413a7efebba9044bb43e212e64b858b390377957004d48b4ddd9b7ccf5f3d69bf6568843669d9466e00000000000000088e122fc89cb90317e68b77dc2a2a1657b4ddb540de92704203, 0x11906c2c421fd91bd9b45621e4f60813c1ba0e00700492d292aade6aa01e690f09212c693185bdf9781a85acd70e41e7526f1b7fa565cf39d5a669297e66fdf0f63c474dac4536afdfb23147788c414a724b6ae6c90bdd0993e47ed1f0222591b4ba265078715a7e813cc26b1b69c0000000, 0xc0cc632a01f7e68bb7817b7b00aca6388bd36452b401a5bd7d1d231dd53ee6351492ff130f061b82c4a763bd9756eae28f50f4f28566b063809c1ebb689a083c4b291953394ffda9c07469a5be5d36bc76191847f90e5e8ab85febd999fcacee550b710e9c51ada22b64e0672800016a4, 0x3b8bcfe9f4ea990abd21eade3ef62b399721ff576e98a1539cf130a8f46cd8d2255e0dbe4173ee58c8a0a4642c1753dd01effb80c781335974b5f3f76c73824da2e36500221e01dba11970cadde649c57691e9a70ea8a5abdcbea1bcc3daebd684d7fa6bc22ed85bc25e50b34a700000, 0x3b6fd78abb0ec45c661bc9359cab096b0948c08238d833717fc4666fc794caacc9306943cbeb4025c4f37621c1c61ada21afabfa266205145ae948acf9976e4ef9c8bb65ec35d8ea054c025a00aad54139cbf2e4da0e05fa20069fc3c815f30d4ba2bbdb999d1a83251a4f22d4dca209, 0xab977673af7f1f3a9313af9d0601d4d7cf4a18b5544b321d504751aa7e8c7bf0f70e939d810d61a2839b4305663734636b24abdac42e28a0000a])
noncomputable def y4 (tl : List Nat) : List Nat := unp tl [0x4b20b96b1fe36277d5c212e4d45032b5315b77b549d8fab47bb0961f8c4bb30f3d4d4d3123851b1ce015853e24ccaa848de541e7d65aa443a6c19cefbf567d6679f2b6c1f13152b917c4e57ac92c11b327330a5d7bf2b0e7f81fde000000000000000000000000000000000000000000221, 0x2467bc110ebbb71c8525bef5a61113142effe5c9d64daa6f913ae6f241c6d949a1e47cc66f6d243c5eda0af2601900a323125a229f2bd5a6c296bb92d82cb37710a9d2e372b4f4c82db358b3eff4ffed5a0b2351080b170c77dc06c8bbb8ea9800bd3f0d449d602797e7709678000c81f, 0x4cb662356831b2b691fb8df18d8c1a0df7a4dfeeb103d9d2cb15aea1d6d95dc282b423ed5b88b9712873cab09a0ef127dfd0e083ad9a7ce7feaeb878aefd5a13ecabedb2822006cb17a06cc4685949ce945e5bc8b0dfa2ef6ef0ff7b611d68e3120cdd7dd77eda0b5ca1d63189800000000, 0x3feb02e00f5d812d99089dd6feb21a274d1422b0522bc29cc8c88edff983fa4c5dbfddfade4ff9d5be918236b40dc9cce8f3f0e086ce74eb6bbe8348e09d5e549d2dd76533df29f5eae000000000000000000000f35764405274876a3eb409f67f74ba59ba942fd8c88000d0a3, 0x133ac9fc1a392fc1de1a696f16328229b82855ad9e581df5d8c7ec07409d3c773c390458302e30be32e651df0f6812370e96073c102866b345be5a72c04a5f0532432eb8000000042eb4a4c915d99d5084c6ce90e6fc3ea571f233b238dacdcf6a01eb232e4c6a251dc4f110a5b8067, 0x489b01be67add0e565f0cee05042a4b3e28c522bba883f8626790d2fc731f7b15414997954da1e29e8542814f1817edfa503da97a05419ab7484a9a1609e4146d9082c0379f5ea361109cb8ace33dadce2f9b658a46016fe293eff1e1cff084fa7fcc2ee99a00764776abf69c0, 0x604e6b34c4e5743afaef1350c0844852e872e99bda18a5a8067985197836a0c8bef816e80abed257578a32367f97d87cab380ef89eca65834886ea0d722e4ecc267b5f48410afa000000006b678656f50a74a0100c429a957d57e1485a456360eec015f4bd935a40ccaf8dc6db26cb28075, 0x30027f95454dec98b1cf4c11400f2d39cbda08fa8315922425cf392a283ad384dbb93bf3e5913683826f0c640068cb8e33a24a5988caac226cef882d34521385c1e52c5193aa78431ee60b0a0e9c2c6191c6e4129edde7fd0685871ec33cb5c147a6c1036de34d2d558f65088f4e7e520, 0x836103e437df9e0a40e2ac0b0f4fc828eb0dc101306043199f2e9798e816f49980e1cfabf7f3905c9bcd1f1812a8a6358a4fb593530d9069d5438484aa09f788719c788e0d7b8d64300fd15d88000, 0x437c3040d0bb764081f9240e7ad457507bb1399282192279cba73226eb13f51c831aa5294b3f32f27b971691054b1a60f4f569cc3e1ac998866dcf21265af3a2924d0bafd3f67c29c628cfcdb69b636f3d73a24030ea95b728800000, 0x7116aff856ed8be0ecb6c806493cfe24e0f6f0c1fa7074b125187952b35470b5dc2152480a961c7fac24058be317bb795a1e085df5f17ee77226c3253163b30a15b880292d447ef7a71904dd666077d4ed49656b8bcf78c7b5a565c353f50bb92dac6fbf09724dd70000000000000000000, 0x369b8e0775759134e4331f0cf3e6d814059094a25bd7eb7623849bd54d591e49fb77a2f7d358b2a830a27b2ea94c8972cea72fba3abf3cdd8ae6797ce8a6b18bdbee86001618e4341a51c5443090368eaf5f232af9c77de9b23f9b499dea75e32f5808cb02a7e5f1b121f96f1dc00008e, 0x77fcfb138eea4da3c3c0bb5a32458c3501886f6582d0001cd99f5c6525593c6062fbaff91772d8f8b702f2469ef64798916af4a57ab6e76ee2a8b50faf015679d8420a301c652076970d61ea49779fa19ee98c83446e1b5a3c2a5704ff75358789f50541b7b3bc7d316611c4299f5300093, 0x39f372213bf8e9dbe63d683290f97162070efffc1f20ca2ee0b44cf8f2036ba51b6ce9d163a692f0d89e2df5d17397382f973fbfa9a40500e2744a2d23ad7d2e7fcbd793688ee00000000041cb19b15f938e794a3c10bf03e91d2ce5d05551bc5adef2be057e03d498048a41b6c2e6000, 0xa8596fa4138648bfe07b80f1998c0979853eb03afdcc617bc2482104a59b55419abf71e2640595f0897e1fa3f0271d16169d70187e1a9bf36d5b79d1468e99539834cb30b86aa28b093f628a20f9087ed353192ffb20554d292e9da262664a8454f388a7419fb13b5fb, 0x1b9d85c8d6cd64e5cc300307e126bf769009aa50099f4d306347a64a652ebb429a5399d253587985230a27ecc5e12b53c0e35830caa2df949348064d95287b136000f0e27bdbe82886555ff2c0ddab5c47abd823cf05475f81b124d248b00566e272897ed24, 0x86fcb8876dcb49dd54a4ef6234fa23a177c0f5b3259db448d6c008dc908c6f1bc52ce8579a26ccef0f0a941e1cdfdfc1484345d836d8275582fc2df67c7ace53dbc81cf3471f3e8884e1dd234748af0946de606e9e88659bee81c6e2fdd2a5e69ad80000000000000000000000000000000, 0x8f24b2104cd0654543b53f66e7cc67a31a00c7cc66bcc36003297392fb495f8cc310bcc7cab874b1ff81bdda021b5cfcacc80047466e202d5d33b4af979d2414695220e890f06fb04cd84bb557d9c44beec4c5372e2c806d60e10ec053a275f646b5566263939678fb679181d7d78f4f00b, 0x970d43ae31f11fe780022311716bdc3ee70497414c0466a461c5792d0c87c4f8b63b65dde0d02a1cc9711470dc87a453dfd6690f6920d2442dcbe8e53ed164937cbcb08cbbaa487f8e18636f559430037e9a461ff894cf5ed2f3b9e9c0118f89a00281b7c95083c376d74443f055605551d, 0x2119a15653b2c42d926717ad1094d79afa8eb798494ac7836d5eaca044f971fa0cbbb9f92521b44bc8b106c7efabb15b111458dd3c75bcaeb16331a9383266306843ab7012511cc637aea7ee879fef32168a9265b0552e092b3949b008b82fb7d8fcc6856f57b5fae5eff693f38925c, 0x7cbb6c7674a67bb9b436e09133c27a0e57aa720af3ebd01581cebf0c55aaa5f7f6720251669391bd940a7bfa9313e397a19710f5f41fd315858002920e626d9c59105eded4d452d61ce3621c57b15c6f2ed5e2a47d8d7d0b99c800000000000000000000000000000000000000, 0x4c4b2263c1cad22a446e72155627d33084bd44906e74347bbdef85dacc7437f2cfe8bf9786352217ffa53b5dd9a304991edb6fcc971674c640238df4dd287d1ea96766c566cafb60363dfea126d692ad05b12087636cec6fd891aba7d15c1f54d1b1a49fa56b839bee2dd257ababc80c9, 0xa431c35e29ebebef0c58a739f0181695beaa49b17f66c5d58467517043c099139834b332f6972fca94429ece6788bd9c064a1ebf61489888d90d9b95b861f10a02cd51a3a3f09810a74143ed1b57099bf14496e8f7800774ee3b3405b0d80b918bcf8d153b766702d921ccab060039ae3a0, 0x118e0fee4e87e5024a5d066faddf762c00e2daeab4fe59467e033883612a270bae5195df6c8a6cc963b20afba55e9b956bfa140226bb7aeec77a02f59c61b51bf55001686a7104ab3f91629f72b11bd60e9b07ca1062ae1fd1b063e7ba17734a528dddb8b07144b6345711707f3e0, 0x118fbfb4959891b26d53119d40faee781deaf8a251eb8599e40704816b9d1065d0e9b0a50fbd3439fe03bbd1a0f5c5ce82eb27c1662c4f53a7fb101fe882d2fe2842ff1a0440650e426c7fd638f436830aaf2c72c19f2d4e769feee397ae8eea0467c6e34ae1f15b1b687093e48151c4a0, 0xaad2d569b2b89902173e081357f12490c67bd4df1bff7ba55e77b34f71ec1dc115f7ea846fc622236b28747c186d99ae5251ceaa5e1eaafaccc43deeb671ef4e5731e0407aea15ec32c8696cbb2428e45a1296288bb81283dfe8f1e6e9265fa44757a6a10ae2a3f8db3eedef14e5400000a, 0xad3234e44b1a5f8ffaa061736b74258924b8817ca0710dff5a6829f2b4e201a6c82103673b14804d20ae9582a572d111f6ed8dfb14b83c555c5c764051c8391866cac3d92c82171fe3125e837fd0548387b1ef7632dab60446e5dbe3e5325b4954e78af5094c0b025c5f30e2ba3362c00d8, 0x15a121f001916dc44206246c7fe6f7c0f1a4b8e0e6a16efa5e70a78932616fc1329139b6ada2f720d2442b45a64c06f113feb378d7fb4e2a36cd5aff95dce49e767283d1cae59e89677bcc0c45da082fb9ec00, 0xb0d3213cb94bee92e2eeada9a0f33b46242c3a538baccb70bb0e96ba86b9360258bdafb35112c69fa4e40beaa963e6496fc2d42fe1a9e6eb74bf03c90275bcbfca0733a7a19c718d695ad13f156f1149a045b1e7a60ee278f589ddd0c0ab27f1a7ca0b8dd5382216bd0b9823d3800000000, 0x838cf000e3368b81f8e4c3e84f4ec4c6a919435464a188615a1f10bfeb8a604bed96f3bb4dd37170b7cf28452bc68b23435062b8560994829545f9d75adb0ccc423035f88080204ab245d4f7dff6a1812f7840078f77f3e3fd7b66e6b95c296872c38c5aa36368b1d17e041485c001dc00, 0x3b8bcfe9f4ea990abd21eaddcc8e7db6a830d89eacb46d413282a087276f803888d681e4d86f68aed749b5e431b427db8df37c4ea440ecbdc239edb9718f54eca03b28ceeffe3785bebcb4898c7593ac8aa25a1836d0d284090f24559f201dbfd4496919de78a4f244a5b3505ff50000, 0xd2999238dcabd7ad9e30dd874af2e4f7e762f984b9cb0f6b81aaa9c49e2f4a1d8845096b94a0f6e3dc243ccc95bc45f5c8fde3f65f5707d0ab57b510478c54eca09b2cbb0942813457f1847fcb65d90a803c119d613de29236b5115205d52d3c0683e09e2a6b9a5b350002f0c89, 0x8e76f1f9496fcdfd590e1da417911d1a2d25d4a33ec2de15120c2ac4e73bf86152e33e73baa15db49879813fe733c99c94f2ffbce14b7c3a40bc87b171c3804c8ce03b8b818c6dce6154fc18d95dd8f4583d2a42aa6f66c976e9591c53e50e5b8974cc8808746f5165cb333940, 0xb8449ccd7b2bc6627a45558840972d11d480a24f12fc75633949b230c11bde655a3b9784c620aa74ea2240cfd139158056d5384a0acaa6997fc2690e20cc067cd9b4fd11ad27fe75681fe70f9828bc2f3b4bb1d2af4b3bac7355bd1992f0dbbbc65d79e3e54fd24dcb5dbf81fd11471ebc7, 0x56ed3e7af29bc19cd9ffd77c30dff7c054ec9d96d3caf6ca1fd138b6caf98e1f1a20f36280f62172800124465999e053ee9ce3c0c56cb121272fcb08b79c7de1720f6136248458ba6b4b3201d91e615b27de9fc5bf0639f8fda9c3638acfa6af5119c8bcb47cf409effdc11e0103b5689, 0x1d58d26972101a87f984d73a6d84e271a4958137875a2f331cad646e8a3910fa176aa80b099632678d3418ad33a80da7670cf379cba339c9dc9b4716836bc0966b16dadf545cd8cf006f6b40ab36488eb3e2606f6573cf2dc994ba07563f913eaad3bddb2db2829138117e653c74eac8a, 0x580a8aa67e73490c655fc536d682117e7844b8346386faadaf03ae99ed74e60bb24ae9ded97ef5c31118f9b1b23adf4321f3e0e03e4595a5d79fae4ede3ca9958cfd69fd1f775e5e5b79aaaa4aae4c0b3a29ba534e062836f5a4a79edaf1a69528552e4852f26d74b3fb66f27a5f15e0e, 0x3e22d4e4ad1858074e919196cbfebd1cac12b97a104fb2786d3e818a266afad0b4d6c55ab8dd40e8b413959531cbd9028b36d7ecd8b305f4e415643bcc01210801f4b1ced65cf3bc35a60fd6cb831f6c58eaf663418a036832bab2ba7ff9f70b9efaa9cd6d021c4b0eb4736416f18000, 0x3bc988b0be7ec42297fd240badbde1a335ef5d0e40fb0ec6789d4afafe3478a06978d4451e173ec437780f40a9c284c9365b15449696436cbf0fcb033988e228a7a135137f7afef66bd505ff50000, 0x2bb42825aff655443e991e2b03e4d4080b8f89ad059715aecb0dd6d4bf6b9607dfd3322142e0bba3882b574cda28fd8f4ce906dfbb6f6a1672584918a3b70d4bd7bd174148bbf6adc34065b5c93522aec54be112fe05a4242b6e1ee11b9f3f554d2a34f3b048c96000013e9bc08e800, 0x3b6fd7848c478043ffd5f4b7251a18648a555a1402f874963f782d93453d0d2d4921cc2be6aacc322b80f0113a89b531d96b7da8f3fbd555db8ed48dae7cba65811f98bed81544f713168eac0cf7dcc01f9269314559625df3350ef1b1048f2d4dad6cd323ec1bc70ea03106fae69340, 0xcd9ef77cc9ff0aaad1b721a21587ea2a69876ae255d5837424fc55b89fb194a7c941280301d08c4437f2fe3ea5514dddcd717e3f5bab87115b8d9adc4d9710e934b6dfcbf17b96780706b2b939bad6721562ab66e6c8d223d78a73cca9ae7a9d17cc236250284b6ee259eb339962554b729, 0xbf08d51206668adc42b6634ca753bd6c27f1703ad64197bb2eb84318ac75461469fcb9885b915c7ab76aba860bed68ca8b5318a863d7d2e0cd428349dfa88a9009e06d2b54023e76a1c01ddc756543538f18165ed657b5f33ed775ed1a198bd3febb42e467fcbb90a4c247a8b6c0883ee8e, 0xd5ed24c85cf8dd2a8dfc45f402f8caf3a0a370da4dfff62a6ba458f2fdaf9b53e99f7c24813cc443e1dd7cff964ff6f8c20065e54169e0a59b969c9b08f786afd49eb07ca9ef55a6f0bfae458313cb2333815d3ced888db3d24e38459b728b7094371cc221fb53340a225557547e0de8240, 0xd4bd15a14dbf81c370ac0234a7a4c9d549b311cb820ebef4255eabc5b3c23d9d0651ca43f040378c26998cf18206f69c2a8544614bd0da759000e7ee7b4b1bd020568e9f97f80ce8bdbbef22abf7f49ce69d5abd924da469fdf3048270d2e6ada55c437d1bfa91501a93a3aae1380023ecf, 0xdaa9d861dadff5170bed8faa0addd0d0f20f9cc0dd8c5e19026063a8f15a8968b4f359018ce10097191c32fb876e19fad8cb79250f7dd446e0fa45e643976b496d2aec72b4849b0099d5157aa3b1acb1ac054b481fb18ad1f214b51b12f6f47272257c20df2719db45cb479e97a237ccbe7, 0x31099af1b12ac8cd39cb846e7ed3a35871142df314325ca888d949aa3b4d67cec528b7c1d811291a5de0f8c32b649d2d798ee9e60b932ccacfda5932abca73af2ef796b16f4cab1659e0c5aec623db8e59db352870582a11dbe8fc041f8407734716c0f852998020249b9049047a0a0, 0xaa56b4f8976a93a2cb3b1aa589be84a4d96cbc13bf483a5a0597ed0776b56f8a681ca21b9cdc8ccd0a29369ee36ffd8d2eba22ec9513f2904eb87da08efc554ce5796fb9d85eb9aa94f5716fcd22ce1a6716b0c671418a1519ac72ddcaf9eaf8e29468c428efcd43a34e1e5114, 0xd5875b90f44140cc8237a036323c18abfece3eb4feec4d6fc010b2972e4da3befd356f86ef1621a99bbb4d53d19266c897e8404a49f94b539ea8e34fef6a79fc0864b36fe3c70f07ce60d0c298cad7efe4583566658e2a6c751ea0b48b5a6c71717cc6012c998a7c88858d6e54b85ff5740, 0xa425037e731cb132db2a00d6ade172c3d5986d9849c9c5da2ff744336580258b0308e17586e6441ad75817eb9b6065e44da6d0bdaf789e7d14c944b7c0c588e1e2d392ecea6682bbbaff92908e2c7439d4bfc7f846c60e6a32838a8b9f1d4f9775f556c169d400cfa99fdd47a0, 0xa7921d06a4fca166629dd2797def9b36dcbe92e4d64783f6b2fecc02ba9cd61970331e58699e97d58e50fbd6469ac7a5783944ffd66b8e3be120837b6f1d9e082e0b4b0053fbbf25d88b6e04fecf86bf84557fc09e01e15262c65583314a6debd211f9bafa6dcd20f2e2c36962, 0x1636326bff46ab7b618bb39643112bea7d218af9fc3ba9cc2329bffcb8803f1d86bb354e426b40866c46fbb910add92c577bc4872dd323f9f78674b6974a6f1faf69bd169af196d9e0c5010ee488233045729015698858bc7b088518ccb573e6bdcd4a1f09bcca21247ac64e0010e, 0xe81549daf5cd1afe8c6945d82dc9cb07c01052bbaa780a8e3292327a19c4579e563a36885417b4d74ebcd9d321fba2da0482a1e2561eb706b247e0cd12bfe39aef4b4ab7319e3477932f9cb9e2e973bee9fae656969c377c0e7cdeb4e556d44306c96f5d7ed3437e5021cb55af61c00010e, 0xea17704e8517c61ccfd4448104fb444fa2383fc0ceea664b7fb6645097efbfaf77933bec688d713e3b0a8d23647d9aa062acf22c73dc5386ac3e4f264395169eeed476caeb8c9fc13d7eb8fc70395c6f694b892508b4bb529b9efff355673a47791a643792958274e159479e97004c5a9e6, 0x349e895d93373c489aa2e73dbf275ecff0568452a104dbb76aa8e1680022fc17f0c396dd6f6362f6a2f354becb1f9f5f1335142f7d43f3162b144e03c2569d9554af39f89fe445eeaff41ec80ba280a2355fbbd520f0fe91e42840d5384cc5f8ad4f22f730b68f46c0938410b90012a, 0x6fd0e33e4014b21d710efc690e82e09afec7e55e71331662fbfdaaa9e26976fe6ae83bc42532a06407d745bffb85c1ca901099ff0ba445a963070188c13776faaa2865594f046cd8e1252fa8db356556991cc6b5d08b5be92d2779120a490ca0fe1ed87ac71650f1d3754ee1380023eed, 0x2f332b257c258713bad3b84b7b05465296d4d96ce43c3c5ec67f29320546737deb2d5ed6897edeebed28246505b729e8187df471ce8c24068da855c048352ca1ebee5cab52970c229c07f2a5963ca72e01463516189857e6d3e461501a7b189f8c04e70f6c01e159479e97004c5b7a0, 0xed9bb4a9990386f80d17f0e989fe69239b6524e6ec6277e988855f4e9befec6a7bebceb6bdbbb8ff66091966db1ba7955c77206f8b3d093ffea880ecb4f332465925a752c7ba91665b77a054d847c5e89c34690e8a403b71d312f82c81dc1cb3237f74d19fef2b55b02e4b825770d9575c0, 0x349e890e3c45f977444349b4c88f32604adcf96af6d956ef84fae728b968879cebc43cf4c8f61a4c8693d0750eabdb149f267b1ec340c7e632a9d49e44aaf98224a855f6f469d4476863555a91e61936e985f2c1ae5fb2c8153fc080f5c805f16886fc760355cbbd1837342dc00010e, 0xa73db7e1dc6a587348e66b58ed5c0c794a38416355ceba6d990769d1de872a32d0be52343e0ad76aaf61c977305a4a6f97206fb2aa6d77a535587a9826f5b41d99505540ad888c1e59f5cfb67d633c45d4628840b74a8dc2f3cda66d0840ed87ac71650f1d3754ee1380023eed, 0xf580c58e815ac421c220f031e6444bda5fe7c93acc1f14a6de60f6f62c3a5fcccd468645cc42a32f7137d5afae840510d79282a90ea3c9fcccd6f6cc2c42073cd4889362539287b689eb1e2da644ec1f92a8a20c607deb4e8c4b3bc014f1d0fe72b5d5242224f4b162c9b8a7f2d40023cae, 0xfab30c4492b41306495de90fe63ea36c6930cae4e1192c6ce9858a3611eb8950e4660cb73d93ebe135bdb1c62d9ce38d82e3b0afab39d15b72525a57ecf44112246c46f1d304a41e1b457abb8b7618afd7fbf60ae48e11c842999858a4f5d6609897939512cb2ffa86887ddae504b327217, 0xd8b15c3f1da00cd7187c67b4d4802042c279e9a61dafdfc9eb15c338ccf1d1ce1973a5f7dda2bd73df961513ad178cef86da267e361b4a76c722b978ad18b736d6ca88cd35f9c33d6745d74b4c97b87b6b879a93e732db91316fbac9b89efd1f2745c8b0234df14995a8c16cef301a921a0, 0x3dafb09f11d02c36a30ec296caaa1e737bf9a1ddbdac853c1c0ba579714fa61a78e523294398164053f782b952a7e7b2ecee9122fbebd419e2783c9f9f56eed462bae4563f97d9c9eb910a4e7b35b6de5585a9ba8b6d5c818622520df9f9e251b2cc642fce80319d1a194d109e8fc474912, 0x1afbb31c353984ff9bdddfc99a132eff27d0b00df64be5ef548f17449e032324edbc8ebe19a131f7f9771891856109c8c548fad6bca907d5bc2de47b58ce92a0b3be5bddbf088967b7d07e32ea3c0bd3a1200000000000000000000000000002a2c8bd3952a90bd782857cc000145, 0x3956dc9bf11a3a9f2b377b8c6768c12a57a1a5765f311e8b695694ed48cfe74a7e56abd5d822015b0179568ffaf0ee9e30a834ba626d9c8744019a5d4a96159c38af9d30b54169dc4a0868b6e3fe4defae1dbc9c5fd57f014e1deafe70d99e862141c171068f96fa89511068a001d48, 0xfc9b8be41c69a445e6745299079cde53e9069de10184de4c35325915a805978f04ae9cebbd0d71f0164e5191b4e3337969d75aeacdab62832141d09a6973a93050ee35cecb3ff6501c767b607bbeb826de94df89912e74155f9c068aed58b7b21f78b50f74d83e6cae078ad2dc4803e3900, 0xf6237c7f35dc6121c0b863bc6a62df297d78eac7b655149a0ccc3fde05500add369b0935510739926b8cda6187ec5016a55eff198305fc9ba852da584d2cb66d1caa7b3f8d4b2dbff075f9642c678ebcfa16d2f5c7f14f4e29ec2e57fdd7314511f5962e9a5fe10026d92f82592800, 0x3db905fbed42cc3e887c7498b48c5fe8f8d143610cc77270b45cd6b7d3444a24f1f7bb5fb99d39850549e35aa237d53d1316af414be4b3b52218f0003b2f1a208a6c5ff1865609d31df222010bf9bd226fed602fe1b00, 0x7d305dfc33971a629d6ff8be8120d7e34f4869a92812607cec69171730d5c26815a24a93595da24fc231095cbdbbac59b0cfa7cffa60ddaa01573325826d06128835e2792633f7de96d526c879794478e06c43f2d29fe7b7ee26f5178ec9831a8a99771fd2e53af2aecdc200000000000, 0x7d305def27bc2fb3d3d925c7990fe3bc2b65964b1d3fb64dc0142d3e5979af008b931180434521f2a61456842d0d995537d008c2721d5ce8ddd9b2978da89800d90f38263e45ca72bdc0c9cd797a91890096478e3ee912a500b4c545ed48d4746404f4903ef5deb57824ed92bb9100151, 0x3a1ad6056855155e22f8199e218841ec642c3a30c6af99f89e4634d019df997601b11ac1fdd5b3350bd347f66e8046d399096f6ae48da77954778b94a2501680668421d6b34539c3c919caf9a2134e344814d4b80d4e14a1c34c20, 0x10dae076f36c5498d4ae9f756b2915adb543bfcfe44ba01216f78b9e89024d1d5f92f58a1459bdd7e7f64852f3187c32ed4a221f5d77342d4c3898d03ca9ac778f286b47176d870f990f2cc9050580c577199f097ea923130b4d1d2247077c172700034522544b78c66c0000000000000000, 0x12f56497316d5704e90f5e2efb22158a39bf4a81ba40acad9cab367ee0fda575dd73eb81da980b5a42400475ed42c8e7c10f695dd4f96342157372757634482da414d216f4322f8d5fda31732ad9e9eb4782d87ebcb44888ce777d40e778425e8087a3f526feaad011a99ae27b0060b3237, 0x111a2511d8365b050a4bc7db1f3538f9831690d53923ec94019b1f36c152a7e1b207f104400390f41e8bf4a9a78a9805a1ce3f2771939dcae67a805439303d70964db9af8ffae993a719fc3772d1112989560cdefec0000000000000000000000000000000000052fc376c573cb872901318, 0x3b6fd7848c477f9ebfe6192d394de7cadda4dbe91c8ef7ce9551c066e021df7ac731daf0deeb5ad52503ca5d15823d6101d1856fdffd0941f53c54b86fc672686b6e729ebdb1d31f272a052a12170944b0339a95de706777b01a2d43561022f66d90c79b3a2a2bd03db7050425f0e9d7, 0x3b6fd784895ec008d7e35056fdb4d5f6ebbab1b11b2193995b2f0b08f631d4994b164994fc3a66433095dd3cd7ceb43e37b10299ee96a9b2b1ceb21d555e6f09da7c821af1c57a72ee01ad450ea50362654d9e62fc64f1d24c93439c307456ee04c4ffd5af53dffc5cc220e7fe850000, 0x6af08862d74ebc0faf902ddb55d3b93d63959ae9a7ef682e7846ab225b9b98225ab8fcce59fab229c3dafcf749883c1954eb3df41e7101cae41de5449246fbd1f7c7c400631d0a100b30713acc6b04b63d502c77a1074091896076469faeb78804e76c6445e1af23fa12222800, 0x7abcda8312ce46ef4035b7d7c930f5fdc1cf5d2908c7870823ca21932b564941f13811b85f8a87d61b23e20670e4055355fcc6da41609d8f4ef5f13662457e81698d4be5caeccab1add375730f1666fb5f52be27e4d46fc3af5ab0fb5b1d7b8b12208551dd6ca54d32e59e6812c000ac, 0x841e37c6e4acfae15d02d10508cb3cb93d6f81f931d4c2ccc7882cb38be178ecd1e85956d1cbeb8d1c1fc1954a00beb9d443632ef190ea3fe30ded19effca75151cf566213fcf997e7284bae304f56c69671cccff08d8bd4b8b1dc00a3142df215008ff33470e82ba2dd17aa0bfea0000, 0x7e4dc5f20954b3dc4444c0265f052de3b6e387054e1dd8d7f2bc8181ad1f37591115d0d2a55d1aaf8be31c42e78092f64e3e5a2c7232821e7f08812c978c2fe02427dc6e9ba9c5b508f6a21855e85805996df50f6cb501f512f93993f954369a343d35067c2301356e1fb9c0c30b671403, 0x9eab2a54d747aae2c913134d633403e41af5d87fc0986fcf7364121a0dd09e01c4abd083f6d9cad370a8fc605f270b66546aeba6d231e378b9dc5add7d5a45d662799c24137cdce44c465b5528e6a6e44aec1ef306a2786b6604e8ef4b43fb56c3a3eb24c16a5aa78377f92645c51f50000, 0x11e8d3f7d2cdc739a6bd69ce938991a6d2a2f020601b8c6cd4543649d3294d3041b23f3162e97ef20de162227bfe1b482a4ba3c9aeccb51b1a23597781b7de245e2e9a34de7655f1d9fbed7615c2e7ad2461ed49bced0bd4f0741fe12cfdd3f64c1cc48ef17f8f134f150bee5c4db78720c9, 0x8738284d7984b9e5ea02c8f1e3b1372ba034e6dd6d5d296dfc4e41d5efce4671216dd9e5c1800d5faae3606b20d50c50db73b9196300e94dc807a6cf0d8457947b16ae3e63da217332e640130c28deb4a5d390b14a726f50f4a5abd8305ef51855de070ace836c66e2530f873fa57af60, 0x2a814505071f0aeaa34b6bf0f2909d537dfed5832a5215d825d5174e9d44a6f468bb391e293f3222cea29f133eb826dede6d3fc657e4150709be80eaf1ec7eb240318b5f95adc872ca960254f94, 0x12a2680562b482d723808f1e7b807a35e59807297a60fa2357a003919c3bdf5ae5faf4cd341bdaa93f88a9859d543d26d15967c06a0bb37b13f6b006af13b4762e9b6979363ba74bdb5bc4e5f3ee75266b97b93e1d6bf2840cd22694b9f581b6c822b2b0744b69bd91433580000e2b302340, 0x8c0c72f799417e800710fbd2fb6d6f053abdcf4237875e10fe56945839733e1935b6adb740f6845d43cf48db419d984fe6715e69dd2e6bfcf516b3594c14ea0bdf315132667850260b62f0cb3398ff23731ceee27899f09cae97359b3fc9248eaa0e82dad2f2a358684b88d4e800324bb, 0x8a900d2ad17dcb0217109d79f420be03f1d321bf3f746fcee4717a6c18ecd2f1499029b2cc399e0506797c89310b1698f98c6bee1754d1d4385bd4bb7700306f46b3698ac2848cc4e07ec0ee13a0bb9a1a1f1cef338698618abf374a3404f611fffcde60ccf75fd231543225e053598a0, 0x1f18acfd970fb04c7b6af2e8820e47accc97ce16972c973db9ea0ef436395aaa80e710a036f48722a443ffcb87cf14038fb982bf95ec81d239b2d4b7432b125b016d198655372b621c7a7990ee531baa655c7da0f91e0d91831134bce49e14bb07fb49e72a3015102820006c17d75, 0xe9f2d1928106d1236d520969581626327f8b423870a4a97dff5763a223844b38917f0eea0bdbc48647d39fa8f38f994d9bccabc36c9b71d2e74f6ba11e13e6c4c949608d797ab21dd52cd09896cb44ef61e5a3a1756430eae64e35d5b3fe6cd285945db6f040c2381d1f87a4ba, 0x42146f9ae10156a8fc6f45c6cbe53be262147fb5501c44ab61a0a73a8250ffbfdabc105d6ca4b18b70bc7e10b427091c7f5ae783febb411c6de0811c99b65f60ec63791c44b5a420ca954e6937383447043ea4f91670b1b2b2d6c7c96ea124ba47e63ef9627ba297f281a6d98b348eb, 0x13963e77a8a0f5ce8a6c266c1e5855ea5a25179604a9282c94344c79a8c3c96b3901cdb8c5e70007aaff34b6e16d5ba19ddd594de4b58011ed95616936dbb7373a9e72f0398d879e8ab48c5012cd8ae678c6d0f02e73bface1e8553d7a3e0a77eda45806917d6bf9a191ba5a2b2f623e0b40, 0xea968e0e99d8ab795808a88603d969056635f74584dfa600235b88dc6418af11dd65b4c771e8e64e067d098dda9c62cd50e92c84fd9c93ab9942a9310b349e7852427f61dc9ba5543006d1352773d49e557f29f8c0dea70161db4c2f5caa2eddf4992e7da8d96bfcd3b4f0018d, 0x13debf0dee6b7be95ab937d87efa62d70e01bb9ccf00c4facc95a9c1bb52f570893379345c7d629c38a79c35459abbf0a47f7dd6f675c295fea5fcb0cfca938662a865d06520324514736dd6a92d2cc2cff0d471b246ecc25921c9e5560c6c5451629f9f17e8ce98afb43e6e725af3a0017a, 0x8e2ab90236db8dbeb1203c6b9b860ced7005744a00e103cd7d00a0d933715e3b8aa4651e60338c5815f70cda0bce886a7b3a1077020e405de0f0ff90283d73ec6c21290bca435b13873e77ec921f2a969d60bff0042372a0ef24a5d08170750bbbb8df05741bd6f895eeb3af73400017a, 0x12a6447f7600a0b5fad1c61fd0f2a07e9e4966eba5f07b5ce220335984a0c9c40d3795815a4ba151cb20bca795fd05f38ea5713482ddcc2f87878223ef67835e1ed3cb9ff0b058f07dab2bf8b5fac2197908c2c0553eb9909fdba409155d6cc2389ebee126061627ba297f281b0b6d517bde, 0x1437524d369e9eb5beed0df320b157c6cda41fb4cc2438579ed24f0fd7c763ab23edf401648fec5cc3b6c44ca63b261945e32fc167e878814de4845f9cae372600444a9195ea8701a1faedafdcce4daebdf04ee4aefad5ea1f8b16b70ceacaed798614194bb5cea4a7b1deab50302acd0000, 0x8d88d88b7c5095bbad5339ad09f750ad71e234dd8749b6c9bd66c103d9ad02ce5a77f8e655f672df53cdf89f2f9ef3b5d86c5903a2cf4e0803793b6c2e4f2177a2b44930da5a905afb72389def3cc1870a713c985e95e6ae86f444e227f992691ca16fb17858a6d0c4fc35e2b1b7b6400, 0x1299a744e25ab2cd00f04172056488c3e62d6a1c9093a75f8378bb08f48bd9b1856435e48fb50895b28e83cfa5727a8a66386d0ee28a88731a441ebee70be602e7790fef4b99955fd9a1587f9c78442cecd93a35aa064699085cf4e99fbc8b1a62f56cc9dc0482abefbe32eb07b51936e400, 0x983720637d22c91c34260eae2355679483592c7e9cb5c499da559bef5540bffc37eb690b26478cb2d1e8d49bec9d5917dff49321a67a2ae1d96fd60aead52e601c93a6794d3d12f54dc12bc9951f7abec33295a7ceee1177ca26370a7981249872cf38995ad5d74101ca5af860bc9ee3c, 0x149c8850505d4cd06d29a8d2d10fc67e2090630d7351817c0c2d3231bfa1525fcc448f563d8fbf6bac673f75ee97c4ce329543a23c53b13e18f8d69c5b403ecefa4d6c57d1ab0103b3acd3cb01bf988690284e04994a376f60e7a8a75504691b932ada0537fdb0b7503351167a0e32674920, 0x40db2b31bebc4aa50fc90ebaf16b17247bafde95d80716656e123f0df179004cd17d51be1b5b5d2bf76ff6caa60c89bc2a8fdba522fd167d5609d956714750764f2415525ff4aabc27ee16a82f169d399b5bf5482d25bac566ff6877e0a99174ad77acc4af773a4b3036a7383907de1, 0x9f444701d9e11e99d9b646c24ba0017e13b0040cbb17456d70acac6616c7258d7fb133a97a40b6c396a59de59d6eb6dcd98c3a658889233fcd611a0cb6716c2f399ec0ced4afbfac51800041d97d917f4af76559caabfa84d743c0e1fd49b0243a35db30a83f40b3b177cd940da3, 0x12cc448ba8c27ad9251c42ceb4c4cf99e522b75a178917c4be4a3e9578e38d4a73b25ce7a7999fc7dc6a74ce96844361667b03a9902552f01cd6a48cd8ff766ad97a836c73058039136ef230835b0fb7d10b747c8af8de8e3407f8d7e13de11601ae3e24d4d2007b0ef54beb61768a0622aa, 0x7e4da9f9aa17f0907fa6a8052ed773d5b70235f4ac3e823f3c487f5ef810efdc1447bbacffd4d40240abe4c51c7aa8503f7fc941da545545eaea0333f66ad24069942befe381fc8ac6b41a92c7aea5ca09a1ce7ceb12f6fc703ac28de3e7126f697761b9337660ddfc10398b714d2eb6ec, 0x1543aceabab1c4e61b6bca1955ece0e8661f8061a825084439a08a632459738ded373715fd1a03db03f3e0c65634e74948c35208f0ce21b81d85277335e02e46d0dbf3a375462e83026e332aa9ddaddf4ec667a59f9a8fea3cfcb63cd54c197da7c9d604b0182dcbe93704880b3f81553720, 0x1e31040ff227a4c3462fa26b069159a80d66d845bd86d6520a5aad720e568b107346f946254953d2b237ed099192041f1f37c2a5837b4abbbb4c42af6930b492916b8dc18c8f926165397ed5a0d6743ad2336d48406c2e8769cf11a89d335931c25c5956c8bf48b22fa9137c00005e, 0x1501c76fcd4a15934ce009b7c5d65835fe10701fc7afbb342f6f23497de037bcd8ffe041f88c90afaa9396ce6a445c48feadd7971663b587384a42099868349c9c1b4ea2ab510e1d5b521ed219e51ac90c27c728be091cc91e073a0f9b8bfc8b6882e8278aa8f8de55f7796199c2802d2800, 0x23d9f763a977157fc297517069fdd20cd6ba0b4c83ef79e045608ebb9a6f37d0edc72586f5efb800b82ac37adc9430989966ced0aff111a7e1106e6a2ed67b5c34cfd2eed22b5da2210d4ae8bd91165e636044a53cd525b25fb6e875733060687cfbbaa99910da4825c93d3099720, 0x4c0c11a9b657f701580df91ce42410369d81a0eb279344c45f4450b8b490b33336e0f8a7afd01cc4e13fe54f1e1fdf3cd50b38348a5c0b3709173bac95f6ad1ed1cf749ad566d4f815d3d5de7cab166d2056336929f478c29cf65a129be52c40018755c9564bb8d571b9870e80001b3, 0x2bb41e780aa77d304c3b5e4b06118eabd45c7be76af7246a355b1026e0b2707ccacfdff4909ec49444208a2ad32005d47dbd38d86ba5ac6dd245ed5ebacd9a1017e609888da3657d27931be1e8a5700ce58e29b4c35ac66df8fe975ba6e2c0dd09636ffd9baaf7dde6b1bc0d204d800, 0x457783e2e6f373595a45fa86156ca69c7aac7f1a00a10710ea20bfc7148fe0d322a073029512463b2ff85bb0b3992ad5b2506d528377fbd3c1b5a5364c95fbe0b1182d927d2374168d38f02324ddf48eea147e12ac43840e62ab380ae7f5e6aafef84d3afa53bdf2888a1c61a0557fafb40, 0x62be83d67e90b72b516efbc89046d613425e5f52d92fb0aec24c4dff1ff5ef959e054f1376b6431ef8cfae284b6aa6166e8fa69c1bb7ab9847f8ac0364387b8d02067b6b0d6ebc1a8ef7182df088700cdd2f4d96793416da660e9b8733a027761a730e4c8e492aa5906fb6091371ec0000, 0xa847ff84f31ede7be9027d5fd8f4097e8fe9c58e665f0cbfb14f0edef442ba7faef5489c8ba009fad21f54d669a160b9709440f02c8e93e5faa11a875a84c954504073d923d728963f0169b2aa1f705d256f60df3b159db9a99db4c248d741cf1fa192fb580f4194340594a1e4ff0a3fc, 0xaa738f4cf06c8d67d336021220d405b90123dd8eaf5dbe6ce05e8d4e6bf2f1e4b6579af6df0ebfb045256f759a055ecb097a23d4c3ce971ff31716defc9fed0a5fcc5dee952664c0240d090bf625297205d6cc66b86f2475d3219df0951a20d2bcb3929e9a44296640ac59b39fd2815c5]
noncomputable def x4a : List Nat := y4 (unp [] [0x164ac5c8ee6e0012444d3c7a1ceca08243c041230fc2052e342651fa8473a9f89522473f35236b800511b91ba1bf63ecae7606306a91daff3ee7793a5b06e5dc79f95792776edf6e320e28f0144f1153aa618b85afb8e1f3ed8a64b00dbe4f5e72c4b8fd854e3bd0d50642538728df892800, 0x1185c710ed80b6c18aff0227c4f057106f905e1509baadaf2ed5d9140d6e48ae7fa48e9ef8309aa5bb65ac73c2b9812654686b82b0c1504d5cbaa4b9ded3914b4056deaa37b07c7fa40d1bb9a4a2922b3a965ce25c389d9f0593e012ba2a23335dab432d3da3d381164e909c40963, 0x51d03ac586d760218bb63048551a7f78da2d94a63769be475e42d68bb89ea85cc789b76d53182671103b2adbe9eaaab6921a3e3a4ef0e7314bef8ff415c6a11ad0166f9871437bfafea9ba97cecd7c4715bf572b66175550000000000000000000000000000000000000007f24bc575, 0x3bed9c3ee29f5c0f554e1a0a0799c2f0edc9f4bdbde3a292316575a29fe892efcc47b8dafbcfaa7be162fb37c79ffafe7a6056467fce32f4f3497347cd960778d9024ba17b36208b2b38e125cfd9dd7cacc7662b3fc8a94394b5dd88f7c3ff87c3aa207380a25abb1dd1ffcd0656280, 0x174984f06d6bc96e2ba6f5337a30ac6b06812fb9990dc86d4f9696c82e432496945a33d4ef0baa912d461d2b842ef17b0f5601a3e5ed4312998287dcc94468f8f6a29d05fb5906677965d7de5f71584e3a17f47f1e1702cca535fd32a858fdc12e12f50b230a5d9be23f6cdd4a9586085800, 0x17a1ee81693c22e69038ee6490ac78921be4aa0e3aa1c416b0a0d5a0e762718f0ddc586475577a161d657fabb30ba291e49524413cc8f9cb5f759d2a64901edd5f19d81af92abada8e1532bdc2776849154bca60315f0c095a38d7e9a95cc7348cd4b9f190c9977456caca3fcf61975646b8, 0x176121adfa28c11520a9f05a445aa91991516b8c33e4e8372aac62e28157ccf9108cd6516c77cedc86e25e8bd0b967ef7a55ed952cdbbf86d14a07fabfcd714404106ac504c6d41c9c897d2026a51b8de4e896338c2f41f42a34b71fa1a3adf8b6272bf345d6de75ab7eb437eecefe00ef40, 0x1168e8145ccae2dcb7f71f5700a2842d8232aa5290d5fc86fb1611b471f779870d4b4fa1504b3d9b083f09793c21473fd5bc1925b3b974732abf6fa6516012df34a13e02a291f259e975675133292040f8f7544ad533a147264f60872ac3c7b22902e5146c461c7190cd830e330e7520e, 0x28778950a1bdaea0bcf47b3f83953f86a20fcab806abb0ee852d40bde28890d51012afa25bc89cb440f297080f7716771e1655e0aa8fe94c06a66e4f9be9c9b4360bf785cd7e15ba9b84d6b2c56e1f3b90b805f4d5b88711d7aa849dae762a15a2898faa94e74dc4390db80cfb800, 0x1754746d1a741ad8df6ba83bde65d54c018938e564c71770dc94c29f7c73626cd9da034c08df03e718b1036fdbccb2ad319437cb903b4c9bf80e8c422ed651366cb648d44285aa20e4a3897e6d429a84d13b6ce6d7e495127f0d1c3b23a7de171e398dc1eb99dc58a9eb5fc636deaab41360, 0x1328dccb84d4d3ef008b8561e76b90baeaaf360b823d1daa15ce66f3c57a265a139fe1e2b93384e97f60525fdc0e8e759ef69be63c72d3984fdb83b2346f6d38a428b85c893c1a3e550545f4dce59c00000000000000000006b678d1c0abd1f8c28b1c62ac10146bb4e5400000a, 0x1dcdd7a0a3862190d7779af249b88f49c07571375ff52ec820506c30f902cb1779a7bc58aee666fae84b97f55f302f69e0dbe1fa38f82c1823458a38d4d19bc4c29b0751ea33375c8c37243265c17a5e35d77a7e78baa37e1a5f06c02ab79d6407ae7e27e8301592b39dc0a4b6b800, 0x8ffeb477c3026afe84ac8c1334606890b6624a1dbf9c96e5c6effe5d9d6b40aadf32b13067ed16b6b4612290364bb86f8cb8e29d20801bc05c52760c8ca21ed9573c1a06ce22e12f947224294f4d74dbf58c4633008a121ada7e2c26a1102449d062d3a019a7649e542d2800, 0x18dcc277f2d19c18bef47a5f3afcf2ae5a8bf07c8c06583491c00b4dc47250b3552596f4782b9ba3d15e1bdb5ec363dc3779b614ccd57362fd8639b69de321d59911356b1f35245fa00fbd7ff7f910847177cd65b757982abd9b571250cc7a078d8359b2c447a82266ce3d12646556ec1bae, 0xd299c0dc28c72d41a14d11155a652413bfa9c4baa295cf28574777038d5c4d9009c234a78b942b96a9e55ae0696b2bc1783cb98bb4da819d3bb356f3f7b06149d7bcbb18e3aa192549d15999a85517691a8dd676b848a031e9c93d8956ceb875e002b5bb80324c0c672803156d7, 0x80474f8dc2d26ea6719d7fa51d1297af1471aa565be8510e281edab7eb7d552c2f43bf4a7d1e2a153936c97df91c749791fe915240a])
noncomputable def x4b : List Nat := y4 (unp [] [0x164ac5c8ee6e0012444d3c7a1cf24cc650e857fda737c414784c2c06463bf40e839519bc0df8456b96a84788f0064e027605d2bf38d5d9a0636908355baacdd16b95e78f2001414695511d594f5239fd3cb52785afb8e1f3ed8a64b00dbe4f5e72c4b8fd854e3bd0d50642538728df892800, 0x1185c710ed80b6c18aff0227c4f057106f905e1509baadaf2ed5d9140d6e48ae7fa48e9ef8309aa5bb65ac73c2b9812654686b82b0c1504d5cbaa4b9ded3914b4056deaa37b07c7fa40d1bb9a4a2922b3a965ce25c389d9f0593e012ba2a23335dab432d3da3d381164e909c40963, 0x51d03ac586d760218bb63048551a7f78da2d94a63769be475e42d68bb89ea85cc789b76d53182671103b2adbe9eaaab6921a3e3a4ef0e7314bef8ff415c6a11ad0166f9871437bfafea9ba97cecd7c4715bf572b66175550000000000000000000000000000000000000007f24bc575, 0x3bed9c3ee29f5c0f554e1a0a0799c2f0edc9f4bdbde3a292316575a29fe892efcc47b8dafbcfaa7be162fb37c79ffafe7a6056467fce32f4f3497347cd960778d9024ba17b36208b2b38e125cfd9dd7cacc7662b3fc8a94394b5dd88f7c3ff87c3aa207380a25abb1dd1ffcd0656280, 0x174984f06d6bc96e2ba6f5337a30ac6b06812fb9990dc86d4f9696c82e432496945aadbfc1417f610dfac32118cd513bf9c873fe7829ae0e39f6c893a500ffba2946ec54f21668e231a5ff09910d584e3a17f47f1e1702cca535fd32a858fdc12e12f50b230a5d9be23f6cdd4a9586085800, 0x17a1ee81693c22e69038ee6490ac78921be4aa0e3aa1c416b0a0d5a0e762718f0ddc586475577a161d657fabb30ba291e49524413cc8f9cb5f759d2a64901edd5f19d81af92abada8e1532bdc2776849154bca60315f0c095a38d7e9a95cc7348cd4b9f190c9977456caca3fcf61975646b8, 0x176121adfa28c11520a9f05a445aa91991516b8c33e4e8372aac62e28157ccf9108cd6516c77cedc86e25e8bd0b967ef7a55ed952cdbbf86d14a07fabfcd714404106ac504c6d41c9c897d2026a51b8de4e896338c2f41f42a34b71fa1a3adf8b6272bf345d6de75ab7eb437eecefe00ef40, 0x14029a1594d46dfbdcc0ebaf51dfd06f69be1b80dc9ee855c14a2078c9a42ba39609de9d2d91e32deffa8f456001b512fbe702355670296656c0a66d516012df34a13e02a291f259e975675133292040f8f7544ed0e727283959fbe0e93cdb5a39fd30864469a56870cd830e330e7520e, 0x28778950a1bdaea0bcf47b3f83953f86a20fcab806abb0ee852d40bde28890d51012afa25bc89cb440f297080f7716771e1655e0aa8fe94c06a66e4f9be9c9b4361049cb7421a057cb9a190b465b6890eb0fca448222bd263d944fbaa4574c3597b4c15accf43dc641bc540ef5400, 0x1754746d1a741ad8df6ba83bde65d54c018938e564c71770dc94c29f7c73626cd9da034c08df03e718b1036fdbccb2ad319437cb903b4c9bf80e8c422ed651366cb648d44285aa20e4a3897e6d429a84d13b6ce6d7e495127f0d1c3b23a7de171e398dc1eb99dc58a9eb5fc636deaab41360, 0x1328dccb84d4d3ef008b8561e76b90baeaaf360b823d1daa15ce66f3c57a265a139fe1e2b93384e97f60525fdc0e8e759ef69be63c72d3984fdb83b2346f6d38a428b85c893c1a3e550545f4dce59c00000000000000000006b678d1c0abd1f8c28b1c62ac10146bb4e5400000a, 0x1dcdd7a0a3862190d7779af249b88f49c07571375ff52ec820506c30f902cb1779a7bc58aee666fae84b97f55f302f69e0dbe1fa38f82c1823458a38d4d19bc4c29b0751ea33375c8c37243265c17a5e35d77a7e78baa37e1a5f06c02ab79d6407ae7e27e8301592b39dc0a4b6b800, 0x8ffeb477c3026afe84ac8c1334606890b6624a1dbf9c96e5c6effe5d9d6b40aadf32b13067ed16b6b4612290364bb86f8cb8e29d20801bc05c52760c8ca21ed9573c1a06ce22e12f947224294f4d74dbf58c4633008a121ada7e2c26a1102449d062d3a019a7649e542d2800, 0x18dcc277f2d19c18bef47a5f3afcf2ae5a8bf07c8c06583491c00b4dc47250b3552596f4782b9ba3d15e1bdb5ec363dc3779b614ccd57362fd8639b69de321d59911356b1f35245fa00fbd7ff7f910847177cd65b757982abd9b571250cc7a078d8359b2c447a82266ce3d12646556ec1bae, 0xd299c0dc28c72d41a14d11155a652413bfa9c4baa295cf28574777038d5c4d9009c234a78b942b96a9e55ae0696b2bc1783cb98bb4da819d3bb356f3f7b06149d7bcbb18e3aa192549d15999a85517691a8dd676b848a031e9c93d8956ceb875e002b5bb80324c0c672803156d7, 0x80474f8dc2d26ea6719d7fa51d1297af1471aa565be8510e281edab7eb7d552c2f43bf4a7d1e2a153936c97df91c749791fe915240a])
noncomputable def y5 (tl : List Nat) : List Nat := unp tl [0x4b20b96b1fe36277d5c212e4d45032b5315b77b549d8fab47bb0961f8c4bb30f3d4d4d3123851b1ce015853e24ccaa848de541e7d65aa443a6c19cefbf567d6679f2b6c1f13152b917c4e57ac92c11b327330a5d7bf2b0e7f81fde000000000000000000000000000000000000000000221, 0x2467bc110ebbb71c8525bef5a61113142effe5c9d64daa6f913ae6f241c6d949a1e47cc66f6d243c5eda0af2601900a323125a229f2bd5a6c296bb92d82cb37710a9d2e372b4f4c82db358b3eff4ffed5a0b2351080b170c77dc06c8bbb8ea9800bd3f0d449d602797e7709678000c81f, 0x4cb662356831b2b691fb8df18d8c1a0df7a4dfeeb103d9d2cb15aea1d6d95dc282b423ed5b88b9712873cab09a0ef127dfd0e083ad9a7ce7feaeb878aefd5a13ecabedb2822006cb17a06cc4685949ce945e5bc8b0dfa2ef6ef0ff7b611d68e3120cdd7dd77eda0b5ca1d63189800000000, 0x3feb02e00f5d812d99089dd6feb21a274d1422b0522bc29cc8c88edff983fa4c5dbfddfade4ff9d5be918236b40dc9cce8f3f0e086ce74eb6bbe8348e09d5e549d2dd76533df29f5eae000000000000000000000f35764405274876a3eb409f67f74ba59ba942fd8c88000d0a3, 0x133ac9fc1a392fc1de1a696f16328229b82855ad9e581df5d8c7ec07409d3c773c390458302e30be32e651df0f6812370e96073c102866b345be5a72c04a5f0532432eb8000000042eb4a4c915d99d5084c6ce90e6fc3ea571f233b238dacdcf6a01eb232e4c6a251dc4f110a5b8067, 0x489b01be67add0e565f0cee05042a4b3e28c522bba883f8626790d2fc731f7b15414997954da1e29e8542814f1817edfa503da97a05419ab7484a9a1609e4146d9082c0379f5ea361109cb8ace33dadce2f9b658a46016fe293eff1e1cff084fa7fcc2ee99a00764776abf69c0, 0x604e6b34c4e5743afaef1350c0844852e872e99bda18a5a8067985197836a0c8bef816e80abed257578a32367f97d87cab380ef89eca65834886ea0d722e4ecc267b5f48410afa000000006b678656f50a74a0100c429a957d57e1485a456360eec015f4bd935a40ccaf8dc6db26cb28075, 0x30027f95454dec98b1cf4c11400f2d39cbda08fa8315922425cf392a283ad384dbb93bf3e5913683826f0c640068cb8e33a24a5988caac226cef882d34521385c1e52c5193aa78431ee60b0a0e9c2c6191c6e4129edde7fd0685871ec33cb5c147a6c1036de34d2d558f65088f4e7e520, 0x836103e437df9e0a40e2ac0b0f4fc828eb0dc101306043199f2e9798e816f49980e1cfabf7f3905c9bcd1f1812a8a6358a4fb593530d9069d5438484aa09f788719c788e0d7b8d64300fd15d88000, 0x437c3040d0bb764081f9240e7ad457507bb1399282192279cba73226eb13f51c831aa5294b3f32f27b971691054b1a60f4f569cc3e1ac998866dcf21265af3a2924d0bafd3f67c29c628cfcdb69b636f3d73a24030ea95b728800000, 0x7116aff856ed8be0ecb6c806493cfe24e0f6f0c1fa7074b125187952b35470b5dc2152480a961c7fac24058be317bb795a1e085df5f17ee77226c3253163b30a15b880292d447ef7a71904dd666077d4ed49656b8bcf78c7b5a565c353f50bb92dac6fbf09724dd70000000000000000000, 0x369b8e0775759134e4331f0cf3e6d814059094a25bd7eb7623849bd54d591e49fb77a2f7d358b2a830a27b2ea94c8972cea72fba3abf3cdd8ae6797ce8a6b18bdbee86001618e4341a51c5443090368eaf5f232af9c77de9b23f9b499dea75e32f5808cb02a7e5f1b121f96f1dc00008e, 0x77fcfb138eea4da3c3c0bb5a32458c3501886f6582d0001cd99f5c6525593c6062fbaff91772d8f8b702f2469ef64798916af4a57ab6e76ee2a8b50faf015679d8420a301c652076970d61ea49779fa19ee98c83446e1b5a3c2a5704ff75358789f50541b7b3bc7d316611c4299f5300093, 0x39f372213bf8e9dbe63d683290f97162070efffc1f20ca2ee0b44cf8f2036ba51b6ce9d163a692f0d89e2df5d17397382f973fbfa9a40500e2744a2d23ad7d2e7fcbd793688ee00000000041cb19b15f938e794a3c10bf03e91d2ce5d05551bc5adef2be057e03d498048a41b6c2e6000, 0xa8596fa4138648bfe07b80f1998c0979853eb03afdcc617bc2482104a59b55419abf71e2640595f0897e1fa3f0271d16169d70187e1a9bf36d5b79d1468e99539834cb30b86aa28b093f628a20f9087ed353192ffb20554d292e9da262664a8454f388a7419fb13b5fb, 0x1b9d85c8d6cd64e5cc300307e126bf769009aa50099f4d306347a64a652ebb429a5399d253587985230a27ecc5e12b53c0e35830caa2df949348064d95287b136000f0e27bdbe82886555ff2c0ddab5c47abd823cf05475f81b124d248b00566e272897ed24, 0x86fcb8876dcb49dd54a4ef6234fa23a177c0f5b3259db448d6c008dc908c6f1bc52ce8579a26ccef0f0a941e1cdfdfc1484345d836d8275582fc2df67c7ace53dbc81cf3471f3e8884e1dd234748af0946de606e9e88659bee81c6e2fdd2a5e69ad80000000000000000000000000000000, 0x8f24b2104cd0654543b829f1d90a62eab63f9118d08b971ff04ebf041852d03859290ed752212edab727d6d0d2e1615f3c6f2c2869200f7f4ffc1254b46d6c14b8a879b80fab57c2f451a3b0ea3bdbf11d49e3931c10e27b2cc915e71cdd2c92186c185f58006278fb67b4095098ae7f00b, 0x970d43ae31f11fe780039856ea0ad9e2b523fbe780ebb885b346c4cc2e5bb040deaf753b69cc0a594151f9758341114a9d505e11e8ae4c2ac2580517f1d870ccb68603777e1db1ee0b68aced5bdf495be34e65046e0abf57462a3b4508e48f89a00281b7c950850ecb7ffb0ff0556055523, 0x2119a15653b2c42d926717ad1094d79afa8eb79849615232e1e70d8f19ac97e36c38469b4a22f5b74a2caf4620a7cf8e3cdc809c5275c7bb6f7849a40383f733867bf295e5f0865b5fa2f65dd04b1f181e31cb23126fb181d8509516deb14d1ba214c6856f57b5fae5eff693f38925f, 0x7cbb6c7674a67bb9b436e09133c27a0e57aa720af3ebd01581cebf0c55aaa5f7f6720251669391bd940a7bfa9313e397a19710f5f41fd315858002920e626d9c59105eded4d452d61ce3621c57b15c6f2ed5e2a47d8d7d0b99c800000000000000000000000000000000000000, 0x4c4b2263c1cad22a446e72155627d33084bd44906e74347bbdef85dacc7437f2cfe8bf9786352217ffa53b5dd9a304991edb6fcc971674c640238df4dd287d1ea96766c566cafb60363dfea126d692ad05b12087636cec6fd891aba7d15c1f54d1b1a49fa56b839bee2dd257ababc80c9, 0xa431c35e29ebebef0c58a739f0181695beaa49b17f66c5d58467517043c099139834b332f6972fca94429ece6788bd9c064a1ebf61489888d90d9b95b861f10a02cd51a3a3f09810a74143ed1b57099bf14496e8f7800774ee3b3405b0d80b918bcf8d153b766702d921ccab060039ae3a0, 0x118e0fee4e87e5024a5d066faddf762c00e2daeab4fe59467e033883612a270bae5195df6c8a6cc963b20afba55e9b956bfa140226bb7aeec77a02f59c61b51bf55001686a7104ab3f91629f72b11bd60e9b07ca1062ae1fd1b063e7ba17734a528dddb8b07144b6345711707f3e0, 0x118fbfb4959891b26d53119d40faee781deaf8a251eb8599e40704816b9d1065d0e9b0a50fbd3439fe03bbd1a0f5c5ce82eb27c1662c4f53a7fb101fe882d2fe2842ff1a0440650e426c7fd638f436830aaf2c72c19f2d4e769feee397ae8eea0467c6e34ae1f15b1b687093e48151c4a0, 0xaad2d569b2b89902173e081357f12490c67bd4df1bff7ba55e77b34f71ec1dc115f7ea846fc622236b28747c186d99ae5251ceaa5e1eaafaccc43deeb671ef4e5731e0407aea15ec32c8696cbb2428e45a1296288bb81283dfe8f1e6e9265fa44757a6a10ae2a3f8db3eedef14e5400000a, 0xad3234e44b1a5f8ffaa061736b74258924b8817ca0710dff5a6829f2b4e201a6c82103673b14804d20ae9582a572d111f6ed8dfb14b83c555c5c764051c8391866cac3d92c82171fe3125e837fd0548387b1ef7632dab60446e5dbe3e5325b4954e78af5094c0b025c5f30e2ba3362c00d8, 0x15a121f001916dc44206246c7fe6f7c0f1a4b8e0e6a16efa5e70a78932616fc1329139b6ada2f720d2442b45a64c06f113feb378d7fb4e2a36cd5aff95dce49e767283d1cae59e89677bcc0c45da082fb9ec00, 0xb0d3213cb94bee92e2eeada9a0f33b46242c3a538baccb70bb0e96ba86b9360258bdafb35112c69fa4e40beaa963e6496fc2d42fe1a9e6eb74bf03c90275bcbfca0733a7a19c718d695ad13f156f1149a045b1e7a60ee278f589ddd0c0ab27f1a7ca0b8dd5382216bd0b9823d3800000000, 0x838cf000e3368b81f8e4c3e84f4ec4c6a919435464a188615a1f10bfeb8a604bed96f3bb4dd37170b7cf28452bc68b23435062b8560994829545f9d75adb0ccc423035f88080204ab245d4f7dff6a1812f7840078f77f3e3fd7b66e6b95c296872c38c5aa36368b1d17e041485c001dc00, 0x3b8bcfe9f4ea990abd21eaddcc8e7db6a830d89eacb46d413282a087276f803888d681e4d86f68aed749b5e431b427db8df37c4ea440ecbdc239edb9718f54eca03b28ceeffe3785bebcb4898c7593ac8aa25a1836d0d284090f24559f201dbfd4496919de78a4f244a5b3505ff50000, 0xd2999238dcabd7ad9e30dd874af2e4f7e762f984b9cb0f6b81aaa9c49e2f4a1d8845096b94a0f6e3dc243ccc95bc45f5c8fde3f65f5707d0ab57b510478c54eca09b2cbb0942813457f1847fcb65d90a803c119d613de29236b5115205d52d3c0683e09e2a6b9a5b350002f0c89, 0x8e76f1f9496fcdfd590e1da417911d1a2d25d4a33ec2de15120c2ac4e73bf86152e33e73baa15db49879813fe733c99c94f2ffbce14b7c3a40bc87b171c3804c8ce03b8b818c6dce6154fc18d95dd8f4583d2a42aa6f66c976e9591c53e50e5b8974cc8808746f5165cb333940, 0xb8449ccd7b2bc6627a45558840972d11d480a24f12fc75633949b230c11bde655a3b9784c620aa74ea2240cfd139158056d5384a0acaa6997fc2690e20cc067cd9b4fd11ad27fe75681fe70f9828bc2f3b4bb1d2af4b3bac7355bd1992f0dbbbc65d79e3e54fd24dcb5dbf81fd11471ebc7, 0x56ed3e7af29bc19cd9ffd77c30dff7c054ec9d96d3caf6ca1fd138b6caf98e1f1a20f36280f62172800124465999e053ee9ce3c0c56cb121272fcb08b79c7de1720f6136248458ba6b4b3201d91e615b27de9fc5bf0639f8fda9c3638acfa6af5119c8bcb47cf409effdc11e0103b5689, 0x1d58d26972101a87f984d73a6d84e271a4958137875a2f331cad646e8a3910fa176aa80b099632678d3418ad33a80da7670cf379cba339c9dc9b4716836bc0966b16dadf545cd8cf006f6b40ab36488eb3e2606f6573cf2dc994ba07563f913eaad3bddb2db2829138117e653c74eac8a, 0x580a8aa67e73490c655fc536d682117e7844b8346386faadaf03ae99ed74e60bb24ae9ded97ef5c31118f9b1b23adf4321f3e0e03e4595a5d79fae4ede3ca9958cfd69fd1f775e5e5b79aaaa4aae4c0b3a29ba534e062836f5a4a79edaf1a69528552e4852f26d74b3fb66f27a5f15e0e, 0x3e22d4e4ad1858074e919196cbfebd1cac12b97a104fb2786d3e818a266afad0b4d6c55ab8dd40e8b413959531cbd9028b36d7ecd8b305f4e415643bcc01210801f4b1ced65cf3bc35a60fd6cb831f6c58eaf663418a036832bab2ba7ff9f70b9efaa9cd6d021c4b0eb4736416f18000, 0x3bc988b0be7ec42297fd240badbde1a335ef5d0e40fb0ec6789d4afafe3478a06978d4451e173ec437780f40a9c284c9365b15449696436cbf0fcb033988e228a7a135137f7afef66bd505ff50000, 0x2bb42825aff655443e991e2b03e4d4080b8f89ad059715aecb0dd6d4bf6b9607dfd3322142e0bba3882b574cda28fd8f4ce906dfbb6f6a1672584918a3b70d4bd7bd174148bbf6adc34065b5c93522aec54be112fe05a4242b6e1ee11b9f3f554d2a34f3b048c96000013e9bc08e800, 0x3b6fd7848c478043ffd5f4b7251a18648a555a1402f874963f782d93453d0d2d4921cc2be6aacc322b80f0113a89b531d96b7da8f3fbd555db8ed48dae7cba65811f98bed81544f713168eac0cf7dcc01f9269314559625df3350ef1b1048f2d4dad6cd323ec1bc70ea03106fae69340, 0xcd9ef77cc9ff0aaad1b721a21587ea2a69876ae255d5837424fc55b89fb194a7c941280301d08c4437f2fe3ea5514dddcd717e3f5bab87115b8d9adc4d9710e934b6dfcbf17b96780706b2b939bad6721562ab66e6c8d223d78a73cca9ae7a9d17cc236250284b6ee259eb339962554b729, 0xbf08d51206668adc42b6634ca753bd6c27f1703ad64197bb2eb84318ac75461469fcb9885b915c7ab76aba860bed68ca8b5318a863d7d2e0cd428349dfa88a9009e06d2b54023e76a1c01ddc756543538f18165ed657b5f33ed775ed1a198bd3febb42e467fcbb90a4c247a8b6c0883ee8e, 0xd5ed24c85cf8dd2a8dfc45f402f8caf3a0a370da4dfff62a6ba458f2fdaf9b53e99f7c24813cc443e1dd7cff964ff6f8c20065e54169e0a59b969c9b08f786afd49eb07ca9ef55a6f0bfae458313cb2333815d3ced888db3d24e38459b728b7094371cc221fb53340a225557547e0de8240, 0xd4bd15a14dbf81c370ac0234a7a4c9d549b311cb820ebef4255eabc5b3c23d9d0651ca43f040378c26998cf18206f69c2a8544614bd0da759000e7ee7b4b1bd020568e9f97f80ce8bdbbef22abf7f49ce69d5abd924da469fdf3048270d2e6ada55c437d1bfa91501a93a3aae1380023ecf, 0xdaa9d861dadff5170bed8faa0addd0d0f20f9cc0dd8c5e19026063a8f15a8968b4f359018ce10097191c32fb876e19fad8cb79250f7dd446e0fa45e643976b496d2aec72b4849b0099d5157aa3b1acb1ac054b481fb18ad1f214b51b12f6f47272257c20df2719db45cb479e97a237ccbe7, 0x31099af1b12ac8cd39cb846e7ed3a35871142df314325ca888d949aa3b4d67cec528b7c1d811291a5de0f8c32b649d2d798ee9e60b932ccacfda5932abca73af2ef796b16f4cab1659e0c5aec623db8e59db352870582a11dbe8fc041f8407734716c0f852998020249b9049047a0a0, 0xaa56b4f8976a93a2cb3b1aa589be84a4d96cbc13bf483a5a0597ed0776b56f8a681ca21b9cdc8ccd0a29369ee36ffd8d2eba22ec9513f2904eb87da08efc554ce5796fb9d85eb9aa94f5716fcd22ce1a6716b0c671418a1519ac72ddcaf9eaf8e29468c428efcd43a34e1e5114, 0xd5875b90f44140cc8237a036323c18abfece3eb4feec4d6fc010b2972e4da3befd356f86ef1621a99bbb4d53d19266c897e8404a49f94b539ea8e34fef6a79fc0864b36fe3c70f07ce60d0c298cad7efe4583566658e2a6c751ea0b48b5a6c71717cc6012c998a7c88858d6e54b85ff5740, 0xa425037e731cb132db2a00d6ade172c3d5986d9849c9c5da2ff744336580258b0308e17586e6441ad75817eb9b6065e44da6d0bdaf789e7d14c944b7c0c588e1e2d392ecea6682bbbaff92908e2c7439d4bfc7f846c60e6a32838a8b9f1d4f9775f556c169d400cfa99fdd47a0, 0xa7921d06a4fca166629dd2797def9b36dcbe92e4d64783f6b2fecc02ba9cd61970331e58699e97d58e50fbd6469ac7a5783944ffd66b8e3be120837b6f1d9e082e0b4b0053fbbf25d88b6e04fecf86bf84557fc09e01e15262c65583314a6debd211f9bafa6dcd20f2e2c36962, 0x1636326bff46ab7b618bb39643112bea7d218af9fc3ba9cc2329bffcb8803f1d86bb354e426b40866c46fbb910add92c577bc4872dd323f9f78674b6974a6f1faf69bd169af196d9e0c5010ee488233045729015698858bc7b088518ccb573e6bdcd4a1f09bcca21247ac64e0010e, 0xe81549daf5cd1afe8c6945d82dc9cb07c01052bbaa780a8e3292327a19c4579e563a36885417b4d74ebcd9d321fba2da0482a1e2561eb706b247e0cd12bfe39aef4b4ab7319e3477932f9cb9e2e973bee9fae656969c377c0e7cdeb4e556d44306c96f5d7ed3437e5021cb55af61c00010e, 0xea17704e8517c61ccfd4448104fb444fa2383fc0ceea664b7fb6645097efbfaf77933bec688d713e3b0a8d23647d9aa062acf22c73dc5386ac3e4f264395169eeed476caeb8c9fc13d7eb8fc70395c6f694b892508b4bb529b9efff355673a47791a643792958274e159479e97004c5a9e6, 0x349e895d93373c489aa2e73dbf275ecff0568452a104dbb76aa8e1680022fc17f0c396dd6f6362f6a2f354becb1f9f5f1335142f7d43f3162b144e03c2569d9554af39f89fe445eeaff41ec80ba280a2355fbbd520f0fe91e42840d5384cc5f8ad4f22f730b68f46c0938410b90012a, 0x6fd0e33e4014b21d710efc690e82e09afec7e55e71331662fbfdaaa9e26976fe6ae83bc42532a06407d745bffb85c1ca901099ff0ba445a963070188c13776faaa2865594f046cd8e1252fa8db356556991cc6b5d08b5be92d2779120a490ca0fe1ed87ac71650f1d3754ee1380023eed, 0x2f332b257c258713bad3b84b7b05465296d4d96ce43c3c5ec67f29320546737deb2d5ed6897edeebed28246505b729e8187df471ce8c24068da855c048352ca1ebee5cab52970c229c07f2a5963ca72e01463516189857e6d3e461501a7b189f8c04e70f6c01e159479e97004c5b7a0, 0xed9bb4a9990386f80d17f0e989fe69239b6524e6ec6277e988855f4e9befec6a7bebceb6bdbbb8ff66091966db1ba7955c77206f8b3d093ffea880ecb4f332465925a752c7ba91665b77a054d847c5e89c34690e8a403b71d312f82c81dc1cb3237f74d19fef2b55b02e4b825770d9575c0, 0x349e890e3c45f977444349b4c88f32604adcf96af6d956ef84fae728b968879cebc43cf4c8f61a4c8693d0750eabdb149f267b1ec340c7e632a9d49e44aaf98224a855f6f469d4476863555a91e61936e985f2c1ae5fb2c8153fc080f5c805f16886fc760355cbbd1837342dc00010e, 0xa73db7e1dc6a587348e66b58ed5c0c794a38416355ceba6d990769d1de872a32d0be52343e0ad76aaf61c977305a4a6f97206fb2aa6d77a535587a9826f5b41d99505540ad888c1e59f5cfb67d633c45d4628840b74a8dc2f3cda66d0840ed87ac71650f1d3754ee1380023eed, 0xf580c58e815ac421c220f031e6444bda5fe7c93acc1f14a6de60f6f62c3a5fcccd468645cc42a32f7137d5afae840510d79282a90ea3c9fcccd6f6cc2c42073cd4889362539287b689eb1e2da644ec1f92a8a20c607deb4e8c4b3bc014f1d0fe72b5d5242224f4b162c9b8a7f2d40023cae, 0xfab30c4492b41306495de90fe63ea36c6930cae4e1192c6ce9858a3611eb8950e4660cb73d93ebe135bdb1c62d9ce38d82e3b0afab39d15b72525a57ecf44112246c46f1d304a41e1b457abb8b7618afd7fbf60ae48e11c842999858a4f5d6609897939512cb2ffa86887ddae504b327217, 0xd8b15c3f1da00cd7187c67b4d4802042c279e9a61dafdfc9eb15c338ccf1d1ce1973a5f7dda2bd73df961513ad178cef86da267e361b4a76c722b978ad18b736d6ca88cd35f9c33d6745d74b4c97b87b6b879a93e732db91316fbac9b89efd1f2745c8b0234df14995a8c16cef301a921a0, 0x3dafb09f11d02c36a30ec296caaa1e737bf9a1ddbdac853c1c0ba579714fa61a78e523294398164053f782b952a7e7b2ecee9122fbebd419e2783c9f9f56eed462bae4563f97d9c9eb910a4e7b35b6de5585a9ba8b6d5c818622520df9f9e251b2cc642fce80319d1a194d109e8fc474912, 0x1afbb31c353984ff9bdddfc99a132eff27d0b00df64be5ef548f17449e032324edbc8ebe19a131f7f9771891856109c8c548fad6bca907d5bc2de47b58ce92a0b3be5bddbf088967b7d07e32ea3c0bd3a1200000000000000000000000000002a2c8bd3952a90bd782857cc000145, 0x3956dc9bf11a3a9f2b377b8c6768c12a57a1a5765f311e8b695694ed48cfe74a7e56abd5d822015b0179568ffaf0ee9e30a834ba626d9c8744019a5d4a96159c38af9d30b54169dc4a0868b6e3fe4defae1dbc9c5fd57f014e1deafe70d99e862141c171068f96fa89511068a001d48, 0xfc9b8be41c69a445e6745299079cde53e9069de10184de4c35325915a805978f04ae9cebbd0d71f0164e5191b4e3337969d75aeacdab62832141d09a6973a93050ee35cecb3ff6501c767b607bbeb826de94df89912e74155f9c068aed58b7b21f78b50f74d83e6cae078ad2dc4803e3900, 0xf6237c7f35dc6121c0b863bc6a62df297d78eac7b655149a0ccc3fde05500add369b0935510739926b8cda6187ec5016a55eff198305fc9ba852da584d2cb66d1caa7b3f8d4b2dbff075f9642c678ebcfa16d2f5c7f14f4e29ec2e57fdd7314511f5962e9a5fe10026d92f82592800, 0x3db905fbed42cc3e887c7498b48c5fe8f8d143610cc77270b45cd6b7d3444a24f1f7bb5fb99d39850549e35aa237d53d1316af414be4b3b52218f0003b2f1a208a6c5ff1865609d31df222010bf9bd226fed602fe1b00, 0x7d305dfc33971a629d6ff8be8120d7e34f4869a92812607cec69171730d5c26815a24a93595da24fc231095cbdbbac59b0cfa7cffa60ddaa01573325826d06128835e2792633f7de96d526c879794478e06c43f2d29fe7b7ee26f5178ec9831a8a99771fd2e53af2aecdc200000000000, 0x7d305def27bc2fb3d3d925c7990fe3bc2b65964b1d3fb64dc0142d3e5979af008b931180434521f2a61456842d0d995537d008c2721d5ce8ddd9b2978da89800d90f38263e45ca72bdc0c9cd797a91890096478e3ee912a500b4c545ed48d4746404f4903ef5deb57824ed92bb9100151, 0x3a1ad6056855155e22f8199e218841ec642c3a30c6af99f89e4634d019df997601b11ac1fdd5b3350bd347f66e8046d399096f6ae48da77954778b94a2501680668421d6b34539c3c919caf9a2134e344814d4b80d4e14a1c34c20, 0x10dae076f36c5498d4ae9f756b2915adb543bfcfe44ba01216f78b9e89024d1d5f92f58a1459bdd7e7f64852f3187c32ed4a221f5d77342d4c3898d03ca9ac778f286b47176d870f990f2cc9050580c577199f097ea923130b4d1d2247077c172700034522544b78c66c0000000000000000, 0x12f56497316d5704e90f5e2efb22158a39bf4a81ba40acad9cab367ee0fda575dd73eb81da980b5a42400475ed42c8e7c10f695dd4f96342157372757634482da414d216f4322f8d5fda31732ad9e9eb4782d87ebcb44888ce777d40e778425e8087a3f526feaad011a99ae27b0060b3237, 0x111a2511d8365b050a4bc7db1f3538f9831690d53923ec94019b1f36c152a7e1b207f104400390f41e8bf4a9a78a9805a1ce3f2771939dcae67a805439303d70964db9af8ffae993a719fc3772d1112989560cdefec0000000000000000000000000000000000052fc376c573cb872901318, 0x3b6fd7848c477f9ebfe6192d394de7cadda4dbe91c8ef7ce9551c066e021df7ac731daf0deeb5ad52503ca5d15823d6101d1856fdffd0941f53c54b86fc672686b6e729ebdb1d31f272a052a12170944b0339a95de706777b01a2d43561022f66d90c79b3a2a2bd03db7050425f0e9d7, 0x3b6fd784895ec008d7e35056fdb4d5f6ebbab1b11b2193995b2f0b08f631d4994b164994fc3a66433095dd3cd7ceb43e37b10299ee96a9b2b1ceb21d555e6f09da7c821af1c57a72ee01ad450ea50362654d9e62fc64f1d24c93439c307456ee04c4ffd5af53dffc5cc220e7fe850000, 0x6af08862d74ebc0faf902ddb55d3b93d63959ae9a7ef682e7846ab225b9b98225ab8fcce59fab229c3dafcf749883c1954eb3df41e7101cae41de5449246fbd1f7c7c400631d0a100b30713acc6b04b63d502c77a1074091896076469faeb78804e76c6445e1af23fa12222800, 0x7abcda8312ce46ef4035b7d7c930f5fdc1cf5d2908c7870823ca21932b564941f13811b85f8a87d61b23e20670e4055355fcc6da41609d8f4ef5f13662457e81698d4be5caeccab1add375730f1666fb5f52be27e4d46fc3af5ab0fb5b1d7b8b12208551dd6ca54d32e59e6812c000ac, 0x841e37c6e4acfae15d02d10508cb3cb93d6f81f931d4c2ccc7882cb38be178ecd1e85956d1cbeb8d1c1fc1954a00beb9d443632ef190ea3fe30ded19effca75151cf566213fcf997e7284bae304f56c69671cccff08d8bd4b8b1dc00a3142df215008ff33470e82ba2dd17aa0bfea0000, 0x7e4dc5f20954b3dc4444c0265f052de3b6e387054e1dd8d7f2bc8181ad1f37591115d0d2a55d1aaf8be31c42e78092f64e3e5a2c7232821e7f08812c978c2fe02427dc6e9ba9c5b508f6a21855e85805996df50f6cb501f512f93993f954369a343d35067c2301356e1fb9c0c30b671403, 0x9eab2a54d747aae2c913134d633403e41af5d87fc0986fcf7364121a0dd09e01c4abd083f6d9cad370a8fc605f270b66546aeba6d231e378b9dc5add7d5a45d662799c24137cdce44c465b5528e6a6e44aec1ef306a2786b6604e8ef4b43fb56c3a3eb24c16a5aa78377f92645c51f50000, 0x11e8d3f7d2cdc739a6bd69ce938991a6d2a2f020601b8c6cd4543649d3294d3041b23f3162e97ef20de162227bfe1b482a4ba3c9aeccb51b1a23597781b7de245e2e9a34de7655f1d9fbed7615c2e7ad2461ed49bced0bd4f0741fe12cfdd3f64c1cc48ef17f8f134f150bee5c4db78720c9, 0x8738284d7984b9e5ea02c8f1e3b1372ba034e6dd6d5d296dfc4e41d5efce4671216dd9e5c1800d5faae3606b20d50c50db73b9196300e94dc807a6cf0d8457947b16ae3e63da217332e640130c28deb4a5d390b14a726f50f4a5abd8305ef51855de070ace836c66e2530f873fa57af60, 0x2a814505071f0aeaa34b6bf0f2909d537dfed5832a5215d825d5174e9d44a6f468bb391e293f3222cea29f133eb826dede6d3fc657e4150709be80eaf1ec7eb240318b5f95adc872ca960254f94, 0x12a2680562b482d723808f1e7b807a35e59807297a60fa2357a003919c3bdf5ae5faf4cd341bdaa93f88a9859d543d26d15967c06a0bb37b13f6b006af13b4762e9b6979363ba74bdb5bc4e5f3ee75266b97b93e1d6bf2840cd22694b9f581b6c822b2b0744b69bd91433580000e2b302340, 0x8c0c72f799417e800710fbd2fb6d6f053abdcf4237875e10fe56945839733e1935b6adb740f6845d43cf48db419d984fe6715e69dd2e6bfcf516b3594c14ea0bdf315132667850260b62f0cb3398ff23731ceee27899f09cae97359b3fc9248eaa0e82dad2f2a358684b88d4e800324bb, 0x8a900d2ad17dcb0217109d79f420be03f1d321bf3f746fcee4717a6c18ecd2f1499029b2cc399e0506797c89310b1698f98c6bee1754d1d4385bd4bb7700306f46b3698ac2848cc4e07ec0ee13a0bb9a1a1f1cef338698618abf374a3404f611fffcde60ccf75fd231543225e053598a0, 0x1f18acfd970fb04c7b6af2e8820e47accc97ce16972c973db9ea0ef436395aaa80e710a036f48722a443ffcb87cf14038fb982bf95ec81d239b2d4b7432b125b016d198655372b621c7a7990ee531baa655c7da0f91e0d91831134bce49e14bb07fb49e72a3015102820006c17d75, 0xe9f2d1928106d1236d520969581626327f8b423870a4a97dff5763a223844b38917f0eea0bdbc48647d39fa8f38f994d9bccabc36c9b71d2e74f6ba11e13e6c4c949608d797ab21dd52cd09896cb44ef61e5a3a1756430eae64e35d5b3fe6cd285945db6f040c2381d1f87a4ba, 0x42146f9ae10156a8fc6f45c6cbe53be262147fb5501c44ab61a0a73a8250ffbfdabc105d6ca4b18b70bc7e10b427091c7f5ae783febb411c6de0811c99b65f60ec63791c44b5a420ca954e6937383447043ea4f91670b1b2b2d6c7c96ea124ba47e63ef9627ba297f281a6d98b348eb, 0x13963e77a8a0f5ce8a6c266c1e5855ea5a25179604a9282c94344c79a8c3c96b3901cdb8c5e70007aaff34b6e16d5ba19ddd594de4b58011ed95616936dbb7373a9e72f0398d879e8ab48c5012cd8ae678c6d0f02e73bface1e8553d7a3e0a77eda45806917d6bf9a191ba5a2b2f623e0b40, 0x12d5054e19bbe99d1ddb28cd5f8343c946625643c5a3e0746f6bf3c9b3406985ce3854981a299dd7127900d6255cb7bd444a7a83499751d264a15908f818cf9ba4a0418d0df9d54e243c79b7931e5e8e1ed1fca242d358e33b61ba0516bad6d472b9e20bb446816a6d0c4fc35e2aa11e818d, 0x42146f9ae10156a85dee7a9802a90256d3613fc61221ffa668d4a4e93afc897a3349b76909affe8707b42012ebc2d1c8e85eaa5cdf4fc7fe34a904b82b38488cbf7257c716edd459d3ee0d9fa32c57cac13ebb9be18f118df38d299fdb536f52406650d4e681abdafe93efb32b2cfe0, 0x4235914fd4f3cbeebb7d6741c1258f329a1d5721c048a0572da1a30c87eaa96e5eb9607ff2770aa5ecfb145f1819dd806be0cebe2163ed0cce200850c54641ad6682d7a7bbe0bcbebe528f2ccd9183f70e5435b2e4a8a988b0e8d2fe00aa2833d277c218469a9b0f6d941009e3e0b40, 0x12a6447f7600a0b5fad1c61fd0f2a07e9e4966eba5f07b5ce220335984a0c9c40d3795815a4ba151cb20bca795fd05f38ea571347e3bd911b550362a0db498271484f0d789126fc7419841f411928f5ab731dc52e485d095211d5bc6e5ae390ae4c1f1a6c3ff540aaa4fb232b41e86aae800, 0x1437524d369e9eb5beed0df320b157c6cda41fb4cc2438579ed24f0fd7c763ab23edf401648fec5cc3b6c44ca63b261945e32fc167e878814de4845f9cae372600444a9195ea8701a1faedafdcce4daebdf04ee4aefad5ea1f8b16b70ceacaed798614194bb5cea4a7b1deab50302acd0000, 0xea2334a29afb48a1660f6a688bd673d6a102e35dbdffa41c53df7ffd9dc90d83c215f27f22f023e92fe24fa6b157fbdc054d0d2064e4b263974059800f6397e689e5d4f1cffecb0eb9c112d3c5d5ae08920dcaeb9e3feb42bf5a98bb0f4b16fb17858a6d0c4fc35e2b1b7b6400, 0x8cb3732e4dc68f15922166da3339731ed4e07ac79f01dbb8cf694fce627f6285537b765e798cc25b0fd6dfb504385b93328209cf1d72c3a1ab1151b8d5e1e130fc798402abbbe1a1cb70cd1f3275e5144dce97019daf048c286f77f61da2624bf86111eb5980133b224fc5e58073a069a, 0x1436b186c6ba4bd997261299d7c22da7988da56cf7cfeba41407869caaa6a0556fac8969e6bb0632010dd635edb30d35932c89e36dd3ecb79c74e9eed5b9e14d202ff3f27586eabe3bda0b8f57862b3c82fdcda583b5fbb75c783d6968ecd708309b4cb4d64d35382071a0bec0de2b2d0000, 0x149c8850505d4cd06d29a8d2d10fc67e2090630d7351817c0c2d3231bfa1525fcc448f563d8fbf6bac673f75ee97c4ce329543a23c53b13e18f8d69c5b403ecefa4d6c57d1ab0103b3acd3cb01bf988690284e04994a376f60e7f813b904ec332ef8d122a4dc85d500f75eeb3af73400017a, 0x40db2b31bebc4aa50fc90ebaf16b17247bafde95d80716656e123f0df179004cd17d51be1b5b5d2bf76ff6caa60c89bc2a8fdba522fd167d5609d956714750764f2415525ff4aabc27ee16a82f169d399b5bf5482d25bac566ff6877e0a99174ad77acc4af773a4b3036a7383907de1, 0x7a695ed77b81c928b3a4d5ca9218fed4d02e8a5d5ee05a4ed2e6f099ffd6f8b34958cbe108f6ed677403d6d0c270ae4105a38cb84bbe22f21ba11a0cb6716c2f399ec0ced4afbfac51800041d97d917f4af76559caabfa84d743c0e1fd49b0243a35db30a83f40b3b177cd940da3, 0x12cc448ba8c27ad9251c42ceb4c4cf99e8177180f0dde60097ce985895a0690de51346193bc03a8fdcdc01d7e8aa5eea13faeb06d1b857495712876b76d0695b740378e6d3058039136ef230835b0fb7d10b747c8af8de8e3407f8d7e13de11601ae3e24d4d2007b0ef54beb61768a0622aa, 0x7e4da9f9aa17f0907fa6a8052ed773d5b70235f4ac3e823f3c487f5ef810efdc1447bbacffd4d40240abe4c51c7aa8503f7fc941da545545eaea0333f66ad24069942befe381fc8ac6b41a92c7aea5ca09a1ce7ceb12f6fc703ac28de3e7126f697761b9337660ddfc10398b714d2eb6ec, 0x1543aceabab1c4e61b6bca1955ece0e8661f8061a825084439a08a632459738ded373715fd1a03db03f3e0c65634e74948c35208f0ce21b81d85277335e02e46d0dbf3a375462e83026e332aa9ddaddf4ec667a59f9a8fea3cfcb63cd54c197da7c9d604b0182dcbe93704880b3f81553720, 0x1e31040ff227a4c3462fa26b069159a80d66d845bd86d6520a5aad720e568b107346f946254953d2b237ed099192041f1f37c2a5837b4abbbb4c42af6930b492916b8dc18c8f926165397ed5a0d6743ad2336d48406c2e8769cf11a89d335931c25c5956c8bf48b22fa9137c00005e, 0x1501c76fcd4a15934ce009b7c5d65835fe10701fc7afbb342f6f23497de037bcd8ffe041f88c90afaa9396ce6a445c48feadd7971663b587384a42099868349c9c1b4ea2ab510e1d5b521ed219e51ac90c27c728be091cc91e073a0f9b8bfc8b6882e8278aa8f8de55f7796199c2802d2800, 0x23d9f763a977157fc29751706a074793b9718113a9dabaff8289517ad8a6d454bfa13aa975f1235da2cb3d6c91f296b02a38a54500cfaeb496a1fc750b9118554450eb569554dc62fded2fa34027085f50bd9fdb38fbc1b25fb6e875733060687cfbbaa99910da4825c93d3099720, 0x4c0c11a9b657f701580df91ce42410369d81a0eb279344bce25ac08138bfb7e2db780f16171520e45afa9c6ae146e07d371f3184959baa404ff9de147de011d725df242beedda2f815d3d5de7cab166d2056336929f478c29cf65a129be52c40018755c9564bb8d571b9870e80001b3, 0x2bb41e780aa77d304c3b5e4b06118eabd45c7be76af7246a355b102682840ed43beb1a3d90002ddeceb54b34b173f53ccbb42a3e51684e0db819b15dc3d35216aa23e1269218ae1e7553a58f5938e88c002c1c3dcecaf119615a50359de3d1ad05f398f6d5ce54e0d47fbc0d204d800, 0x3e5cbf200f54bc4d9b86aa615c4eedc10f249f0dac57346590baec0257ad084b9e62b9bb7c66532ba43b6e18860a63511feeca58c7beca77f33966656671ab50b1182d927d2374168d38f02324ddf48eea147e12ac43840e62ab380ae7f5e6aafef84d3afa53bdf2888a1c61a0557fafb40, 0x62be83d67e90b72b516edad8fe53982e92fb98dbaa977735660a1970ff7cfaa88d3b2641e65c4bbd18d8c4ecd9c596242d7eb4bb92591be286fe35b5bbeca4f1e6d0735c0c89cd79de789b0761c55a8861717a20a4d03aafee6a0b8733a027761a730d227d9a7267c27a5944f956ff8000, 0xa847ff84f31ede7be9027d5fd8f4097e8fe9c58e665f0cbfb14f0edef442ba7faef5489c8ba009fad21f54d669a160b9709440f02c8e93e5faa11a875a84c954504073d923d728963f0169b2aa1f705d256f60df3b159db9a99db4c248d741cf1fa192fb580f4194340594a1e4ff090dc, 0xaa738f4cf06c8d67d336021220d405b90123dd8eaf5dbe6ce05e8d4e6bf2f1e4b6579af6df0ebfb045256f759a055ecb097a23d4c3ce971ff31716defc9fed0a5fcc5dee952664c0240d090bf625297205d6cc66b86f2475d3219df0951a20d2bcb3929e9a44296640ac59b39fd2815c5]
noncomputable def x5a : List Nat := y5 (unp [] [0x164ac5c8ee6e0012444d3c7a1ceca08243c041230fc2052e342651fa8473a9f89522473f35236b800511b91ba1bf63ecae7606306a91daff3ee7793a5b06e5dc79f95792776edf6e320e28f0144f1153aa618b85afb8e1f3ed8a64b00dbe4f5e72c4b8fd854e3bd0d50642538728df892800, 0x1185c710ed80b6c18aff0227c4f057106f905e1509baadaf2ed5d9140d6e48ae7fa48e9ef8309aa5bb65ac73c2b9812654686b82b0c1504d5cbaa4b9ded3914b4056deaa37b07c7fa40d1bb9a4a2922b3a965ce25c389d9f0593e012ba2a23335dab432d3da3d381164e909c40963, 0x51d03ac586d760218bb63048551a7f78da2d94a63769be475e42d68bb89ea85cc789b76d53182671103b2adbe9eaaab6921a3e3a4ef0e7314bef8ff415c6a11ad0166f9871437bfafea9ba97cecd7c4715bf572b66175550000000000000000000000000000000000000007f24bc575, 0x3bed9c3ee29f5c0f554e1a0a0799c2f0edc9f4bdbde3a292316575a29fe892efcc47b8dafbcfaa7be162fb37c79ffafe7a6056467fce32f4f3497347cd960778d9024ba17b36208b2b38e125cfd9dd7cacc7662b3fc8a94394b5dd88f7c3ff87c3aa207380a25abb1dd1ffcd0656280, 0x174984f06d6bc96e2ba6f5337a30ac6b06812fb9990dc86d4f9696c82e432496945a33d4ef0baa912d461d2b842ef17b0f5601a3e5ed4312998287dcc94468f8f6a29d05fb5906677965d7de5f71584e3a17f47f1e1702cca535fd32a858fdc12e12f50b230a5d9be23f6cdd4a9586085800, 0x17a1ee81693c22e69038ee6490ac78921be4aa0e3aa1c416b0a0d5a0e762718f0ddc586475577a161d657fabb30ba291e49524413cc8f9cb5f759d2a64901edd5f19d81af92abada8e1532bdc2776849154bca60315f0c095a38d7e9a95cc7348cd4b9f190c9977456caca3fcf61975646b8, 0x176121adfa28c11520a9f05a445aa91991516b8c33e4e8372aac62e28157ccf9108cd6516c77cedc86e25e8bd0b967ef7a55ed952cdbbf86d14a07fabfcd714404106ac504c6d41c9c897d2026a51b8de4e896338c2f41f42a34b71fa1a3adf8b6272bf345d6de75ab7eb437eecefe00ef40, 0x1168e8145ccae2dcb7f71f5700a2842d8232aa5290d5fc86fb1611b471f779870d4b4fa1504b3d9b083f09793c21473fd5bc1925b3b974732abf6fa6516012df34a13e02a291f259e975675133292040f8f7544ad533a147264f60872ac3c7b22902e5146c461c7190cd830e330e7520e, 0x28778950a1bdaea0bcf47b3f83953f86a20fcab806abb0ee852d40bde28890d51012afa25bc89cb440f297080f7716771e1655e0aa8fe94c06a66e4f9be9c9b4360bf785cd7e15ba9b84d6b2c56e1f3b90b805f4d5b88711d7aa849dae762a15a2898faa94e74dc4390db80cfb800, 0x1754746d1a741ad8df6ba83bde65d54c018938e564c71770dc94c29f7c73626cd9da034c08df03e718b1036fdbccb2ad319437cb903b4c9bf80e8c422ed651366cb648d44285aa20e4a3897e6d429a84d13b6ce6d7e495127f0d1c3b23a7de171e398dc1eb99dc58a9eb5fc636deaab41360, 0x1328dccb84d4d3ef008b8561e76b90baeaaf360b823d1daa15ce66f3c57a265a139fe1e2b93384e97f60525fdc0e8e759ef69be63c72d3984fdb83b2346f6d38a428b85c893c1a3e550545f4dce59c00000000000000000006b678d1c0abd1f8c28b1c62ac10146bb4e5400000a, 0x1dcdd7a0a3862190d7779af249b88f49c07571375ff52ec820506c30f902cb1779a7bc58aee666fae84b97f55f302f69e0dbe1fa38f82c1823458a38d4d19bc4c29b0751ea33375c8c37243265c17a5e35d77a7e78baa37e1a5f06c02ab79d6407ae7e27e8301592b39dc0a4b6b800, 0x8ffeb477c3026afe84ac8c1334606890b6624a1dbf9c96e5c6effe5d9d6b40aadf32b13067ed16b6b4612290364bb86f8cb8e29d20801bc05c52760c8ca21ed9573c1a06ce22e12f947224294f4d74dbf58c4633008a121ada7e2c26a1102449d062d3a019a7649e542d2800, 0x18dcc277f2d19c18bef47a5f3afcf2ae5a8bf07c8c06583491c00b4dc47250b3552596f4782b9ba3d15e1bdb5ec363dc3779b614ccd57362fd8639b69de321d59911356b1f35245fa00fbd7ff7f910847177cd65b757982abd9b571250cc7a078d8359b2c447a82266ce3d12646556ec1bae, 0xd299c0dc28c72d41a14d11155a652413bfa9c4baa295cf28574777038d5c4d9009c234a78b942b96a9e55ae0696b2bc1783cb98bb4da819d3bb356f3f7b06149d7bcbb18e3aa192549d15999a85517691a8dd676b848a031e9c93d8956ceb875e002b5bb80324c0c672803156d7, 0x80474f8dc2d26ea6719d7fa51d1297af1471aa565be8510e281edab7eb7d552c2f43bf4a7d1e2a153936c97df91c749791fe915240a])
noncomputable def x5b : List Nat := y5 (unp [] [0x164ac5c8ee6e0012444d3c7a1cf24cc650e857fda737c414784c2c06463bf40e839519bc0df8456b96a84788f0064e027605d2bf38d5d9a0636908355baacdd16b95e78f2001414695511d594f5239fd3cb52785afb8e1f3ed8a64b00dbe4f5e72c4b8fd854e3bd0d50642538728df892800, 0x1185c710ed80b6c18aff0227c4f057106f905e1509baadaf2ed5d9140d6e48ae7fa48e9ef8309aa5bb65ac73c2b9812654686b82b0c1504d5cbaa4b9ded3914b4056deaa37b07c7fa40d1bb9a4a2922b3a965ce25c389d9f0593e012ba2a23335dab432d3da3d381164e909c40963, 0x51d03ac586d760218bb63048551a7f78da2d94a63769be475e42d68bb89ea85cc789b76d53182671103b2adbe9eaaab6921a3e3a4ef0e7314bef8ff415c6a11ad0166f9871437bfafea9ba97cecd7c4715bf572b66175550000000000000000000000000000000000000007f24bc575, 0x3bed9c3ee29f5c0f554e1a0a0799c2f0edc9f4bdbde3a292316575a29fe892efcc47b8dafbcfaa7be162fb37c79ffafe7a6056467fce32f4f3497347cd960778d9024ba17b36208b2b38e125cfd9dd7cacc7662b3fc8a94394b5dd88f7c3ff87c3aa207380a25abb1dd1ffcd0656280, 0x174984f06d6bc96e2ba6f5337a30ac6b06812fb9990dc86d4f9696c82e432496945aadbfc1417f610dfac32118cd513bf9c873fe7829ae0e39f6c893a500ffba2946ec54f21668e231a5ff09910d584e3a17f47f1e1702cca535fd32a858fdc12e12f50b230a5d9be23f6cdd4a9586085800, 0x17a1ee81693c22e69038ee6490ac78921be4aa0e3aa1c416b0a0d5a0e762718f0ddc586475577a161d657fabb30ba291e49524413cc8f9cb5f759d2a64901edd5f19d81af92abada8e1532bdc2776849154bca60315f0c095a38d7e9a95cc7348cd4b9f190c9977456caca3fcf61975646b8, 0x176121adfa28c11520a9f05a445aa91991516b8c33e4e8372aac62e28157ccf9108cd6516c77cedc86e25e8bd0b967ef7a55ed952cdbbf86d14a07fabfcd714404106ac504c6d41c9c897d2026a51b8de4e896338c2f41f42a34b71fa1a3adf8b6272bf345d6de75ab7eb437eecefe00ef40, 0x14029a1594d46dfbdcc0ebaf51dfd06f69be1b80dc9ee855c14a2078c9a42ba39609de9d2d91e32deffa8f456001b512fbe702355670296656c0a66d516012df34a13e02a291f259e975675133292040f8f7544ed0e727283959fbe0e93cdb5a39fd30864469a56870cd830e330e7520e, 0x28778950a1bdaea0bcf47b3f83953f86a20fcab806abb0ee852d40bde28890d51012afa25bc89cb440f297080f7716771e1655e0aa8fe94c06a66e4f9be9c9b4361049cb7421a057cb9a190b465b6890eb0fca448222bd263d944fbaa4574c3597b4c15accf43dc641bc540ef5400, 0x1754746d1a741ad8df6ba83bde65d54c018938e564c71770dc94c29f7c73626cd9da034c08df03e718b1036fdbccb2ad319437cb903b4c9bf80e8c422ed651366cb648d44285aa20e4a3897e6d429a84d13b6ce6d7e495127f0d1c3b23a7de171e398dc1eb99dc58a9eb5fc636deaab41360, 0x1328dccb84d4d3ef008b8561e76b90baeaaf360b823d1daa15ce66f3c57a265a139fe1e2b93384e97f60525fdc0e8e759ef69be63c72d3984fdb83b2346f6d38a428b85c893c1a3e550545f4dce59c00000000000000000006b678d1c0abd1f8c28b1c62ac10146bb4e5400000a, 0x1dcdd7a0a3862190d7779af249b88f49c07571375ff52ec820506c30f902cb1779a7bc58aee666fae84b97f55f302f69e0dbe1fa38f82c1823458a38d4d19bc4c29b0751ea33375c8c37243265c17a5e35d77a7e78baa37e1a5f06c02ab79d6407ae7e27e8301592b39dc0a4b6b800, 0x8ffeb477c3026afe84ac8c1334606890b6624a1dbf9c96e5c6effe5d9d6b40aadf32b13067ed16b6b4612290364bb86f8cb8e29d20801bc05c52760c8ca21ed9573c1a06ce22e12f947224294f4d74dbf58c4633008a121ada7e2c26a1102449d062d3a019a7649e542d2800, 0x18dcc277f2d19c18bef47a5f3afcf2ae5a8bf07c8c06583491c00b4dc47250b3552596f4782b9ba3d15e1bdb5ec363dc3779b614ccd57362fd8639b69de321d59911356b1f35245fa00fbd7ff7f910847177cd65b757982abd9b571250cc7a078d8359b2c447a82266ce3d12646556ec1bae, 0xd299c0dc28c72d41a14d11155a652413bfa9c4baa295cf28574777038d5c4d9009c234a78b942b96a9e55ae0696b2bc1783cb98bb4da819d3bb356f3f7b06149d7bcbb18e3aa192549d15999a85517691a8dd676b848a031e9c93d8956ceb875e002b5bb80324c0c672803156d7, 0x80474f8dc2d26ea6719d7fa51d1297af1471aa565be8510e281edab7eb7d552c2f43bf4a7d1e2a153936c97df91c749791fe915240a])
noncomputable def x6 : List Nat := unp [] [0x4b20b96b1fe36277d5c212e4d45032b5315b77b549d8fab47bb0961f8c4bb30f3d4d4d3123851b1ce015853e24ccaa848de541e7d65aa443a6c19cefbf567d6679f2b6c1f13152b917c4e57ac92c11b327330a5d7bf2b0e7f81fde000000000000000000000000000000000000000000221, 0x2467bc110ebbb71c8525bef5a61113142effe5c9d64daa6f913ae6f241c6d949a1e47cc66f6d243c5eda0af2601900a323125a229f2bd5a6c296bb92d82cb37710a9d2e372b4f4c82db358b3eff4ffed5a0b2351080b170c77dc06c8bbb8ea9800bd3f0d449d602797e7709678000c81f, 0x4cb662356831b2b691fb8df18d8c1a0df7a4dfeeb103d9d2cb15aea1d6d95dc282b423ed5b88b9712873cab09a0ef127dfd0e083ad9a7ce7feaeb878aefd5a13ecabedb2822006cb17a06cc4685949ce945e5bc8b0dfa2ef6ef0ff7b611d68e3120cdd7dd77eda0b5ca1d63189800000000, 0x3feb02e00f5d812d99089dd6feb21a274d1422b0522bc29cc8c88edff983fa4c5dbfddfade4ff9d5be918236b40dc9cce8f3f0e086ce74eb6bbe8348e09d5e549d2dd76533df29f5eae000000000000000000000f35764405274876a3eb409f67f74ba59ba942fd8c88000d0a3, 0x133ac9fc1a392fc1de1a696f16328229b82855ad9e581df5d8c7ec07409d3c773c390458302e30be32e651df0f6812370e96073c102866b345be5a72c04a5f0532432eb8000000042eb4a4c915d99d5084c6ce90e6fc3ea571f233b238dacdcf6a01eb232e4c6a251dc4f110a5b8067, 0x489b01be67add0e565f0cee05042a4b3e28c522bba883f8626790d2fc731f7b15414997954da1e29e8542814f1817edfa503da97a05419ab7484a9a1609e4146d9082c0379f5ea361109cb8ace33dadce2f9b658a46016fe293eff1e1cff084fa7fcc2ee99a00764776abf69c0, 0x604e6b34c4e5743afaef1350c0844852e872e99bda18a5a8067985197836a0c8bef816e80abed257578a32367f97d87cab380ef89eca65834886ea0d722e4ecc267b5f48410afa000000006b678656f50a74a0100c429a957d57e1485a456360eec015f4bd935a40ccaf8dc6db26cb28075, 0x30027f95454dec98b1cf4c11400f2d39cbda08fa8315922425cf392a283ad384dbb93bf3e5913683826f0c640068cb8e33a24a5988caac226cef882d34521385c1e52c5193aa78431ee60b0a0e9c2c6191c6e4129edde7fd0685871ec33cb5c147a6c1036de34d2d558f65088f4e7e520, 0x836103e437df9e0a40e2ac0b0f4fc828eb0dc101306043199f2e9798e816f49980e1cfabf7f3905c9bcd1f1812a8a6358a4fb593530d9069d5438484aa09f788719c788e0d7b8d64300fd15d88000, 0x437c3040d0bb764081f9240e7ad457507bb1399282192279cba73226eb13f51c831aa5294b3f32f27b971691054b1a60f4f569cc3e1ac998866dcf21265af3a2924d0bafd3f67c29c628cfcdb69b636f3d73a24030ea95b728800000, 0x7116aff856ed8be0ecb6c806493cfe24e0f6f0c1fa7074b125187952b35470b5dc2152480a961c7fac24058be317bb795a1e085df5f17ee77226c3253163b30a15b880292d447ef7a71904dd666077d4ed49656b8bcf78c7b5a565c353f50bb92dac6fbf09724dd70000000000000000000, 0x369b8e0775759134e4331f0cf3e6d814059094a25bd7eb7623849bd54d591e49fb77a2f7d358b2a830a27b2ea94c8972cea72fba3abf3cdd8ae6797ce8a6b18bdbee86001618e4341a51c5443090368eaf5f232af9c77de9b23f9b499dea75e32f5808cb02a7e5f1b121f96f1dc00008e, 0x77fcfb138eea4da3c3c0bb5a32458c3501886f6582d0001cd99f5c6525593c6062fbaff91772d8f8b702f2469ef64798916af4a57ab6e76ee2a8b50faf015679d8420a301c652076970d61ea49779fa19ee98c83446e1b5a3c2a5704ff75358789f50541b7b3bc7d316611c4299f5300093, 0x39f372213bf8e9dbe63d683290f97162070efffc1f20ca2ee0b44cf8f2036ba51b6ce9d163a692f0d89e2df5d17397382f973fbfa9a40500e2744a2d23ad7d2e7fcbd793688ee00000000041cb19b15f938e794a3c10bf03e91d2ce5d05551bc5adef2be057e03d498048a41b6c2e6000, 0xa8596fa4138648bfe07b80f1998c0979853eb03afdcc617bc2482104a59b55419abf71e2640595f0897e1fa3f0271d16169d70187e1a9bf36d5b79d1468e99539834cb30b86aa28b093f628a20f9087ed353192ffb20554d292e9da262664a8454f388a7419fb13b5fb, 0x1b9d85c8d6cd64e5cc300307e126bf769009aa50099f4d306347a64a652ebb429a5399d253587985230a27ecc5e12b53c0e35830caa2df949348064d95287b136000f0e27bdbe82886555ff2c0ddab5c47abd823cf05475f81b124d248b00566e272897ed24, 0x86fcb8876dcb49dd54a4ef6234fa23a177c0f5b3259db448d6c008dc908c6f1bc52ce8579a26ccef0f0a941e1cdfdfc1484345d836d8275582fc2df67c7ace53dbc81cf3471f3e8884e1dd234748af0946de606e9e88659bee81c6e2fdd2a5e69ad80000000000000000000000000000000, 0x8f24b2104cd0654543bb90e947d2b2be41de269ca15238d52fa4ec5d656301415924a53ca68655b023ae8e436e7dd8db18ce5796db1322b739e05ed681551829c5c2e0b18cb4ca9925c21ba69520bdc7df2b2a699c7b1c9b5de67bec47bb27a27a2aa38fceec1c78fb67fed980e5c76700b, 0x8b2fc9fff4b3a2d21576b816e3d29b6e38997c85639c53cd9fd095cc1690e49ac1aa642d1364d1b931d345684e2854f6bdc2807f6c94e5e9c65cd2e40b922c5d0108205ba0bb5fe409dc5748b0b344a6c915e9e9bb55db559ae7a2dafc030f89a00281b7c950869158ef7afdf055605552a, 0x9bcc23debefaafe6b4d23659e682aa408f198e2829f739d187231e7f90dafc0504e5a930f81828782c0c71fa6e0c8f20a718bf04648b45c36d85228f536218f9fa06ce24ed484f3e4265adfd1d9574a0b70b2205693794f0487847d3068dadafcb9eddb280a0623029753fe82beea11b8ae, 0x98a24f58bc5c0298eeb7d4bc2e7ca8749e20fd737d1b5a835ed69b0750bb2186c5bfa71bbc2b917c31d0c75b1816ce54a895470239a9caab0d7297c9bc9df385402fca30a698a6b4fd159673e11348cc8e769f0764dd46476688e19a661b1db4f5c7de10760d66c7ba9c1e97568f6ac22a0, 0x4ce58fdae30ba9bd117829b04b145094294d4e58d5f7e05ce0c2a4ac17b5d1b34f596cc869a57e70ec734681c332c6e7c2e9a95f197505f28734f8063174a07687abefcfe17fa7f9142c0e6bcdf4c812e0fbcc9fe00000000000000000000000000000bb5c8a715007bfc87126a981ee1, 0x1175faa72b1ed122e20488296d50baf000ac229a2bb0c51fb1dd2cf97362caf7344d1c15e0f5a2802c66f959b8d75e23822bfa6bfa1ab848002ffa9edb8fefecbb6ac0a1984e7cbeddcef5066486bc00, 0xa93e24d4540cd2b4a5b9d883d61406ff652689e2a316d88f111d4a74a0f78b1aeb6c762aa606f43044e3469e84ffc51193c31c66e8f3873c2aa862e061abf1cc9661aed9e00fddbec51637a1533452abc9302c24f53077243b22bf3210db735a0397191488bc267523ca1800007df1abe40, 0xadfca9f5230d558b7dd915752dd99bf2e6186a7ee2a1c3ce562447d4af71681505122e342382c3a16e03ab7c8c429ae1b84956d36eb105c30e6ca6dbfc00a13e2fa97aa397f61b3594f33d44f9180e6fd4b9e2b747fcf187176964268f438629a16af7eb4f7790e0572526734bba5600000, 0xace0b3da7ec0bd55fa396559bfc0168bfad5c366255f06ca1a34d0a7cd3edd995706df6d2b0ee2e4b65671207c57b27d2aac60379c9f330d08744b31caeae6d5bc32b6825209eee5233f7121a769872fa07b278a1bda0eacdada2e9987c3f6e08cc8981c456e0ae0a8bbfc5dc2078b1445c, 0x18848e5730bbc6e924242fb7b337965d4b94feb35d2a3349f88120e72515f3bb93694ee8bcf1347debf94e4d33c70db618b7f11c9918fd2a471c745a3b2de2d8911cbf630580019a570dcfd1637c0dc5a8a2658ba4ab17d982beeb4109a3169900fd7a8b06372f296e24a6c719d8cec00, 0x1b4b290762e8b06f20495c82329f17beefb72e2f64f256daa13cae09425ae357ba5eca67d4429d02d599c60db85b42bc354d3c058ba01c4fd25191466a1605b3042724866dbfc048662, 0xca32d6b2e2f43300297225dbd389eba0b48db6f8d00df526086180f6102ce82435ac2e898199055560ffdde2b80336f8ee644067f7de10d9a4a0a005e1bfc6688cdf6831ccd51bd2a676851f945e5acc0552f558b6eaa3ea6fc03c284000003f380e0, 0x5570c5ce89a6c861bfc38fc745558310871ff261a036ef8c3692c7d964b648761b29cfdb7c059779fc0150fb4a5233e7bc2c154af58d539b55d9829e0260fe2a1e5bd9071a9fa62eda02361be683b5bed5784d7050a165b2c58857371817dcfbb8b9ec660000000000000000000000000, 0x12ebcc231ae6543e753a8a4b3156788e4ef57e6c2c93a036629e13e14848f22edee1731a2e86d688a127b86d8530a12a3fa8e7f365d6481728cd66252df728f70584cfc662a97988c9e7f978d85d716a569e7184ac0877f60fa5e787a7dc24ebff8c903fea7d3fabf007883177b85, 0x71e1ca7c9aca624244ddfc0156de3657257e0d68a3134552546df70a40e9647a716190c7d88c05ba0064893da43eeaa1d58c86fda55b53a123b00e7b2ded27dba634382c5246c57b1d57354f6859c85d49665e0c59c3708204772eb183e335dcfc7f1d5f736afd07853806533013ec69a6, 0x52d726d6d504433f8499a91873d17c7c557807dcbd3489b2cf1fbf2bd3810fe5cb4d562f93f13b983f9d34987b1cf92443c5a4f06bc10101cdae61d4dfb0395318c41b12d3eb5425c26abdcfdf64cc407355e371957ddf3ada940c5353007a84d3aa5f784176632a6b9a5b350002f1949, 0x515aaefd68d32bfc54cdfff48cdfdc7bd2e583610ebd8005642102a8f34517c56ee1c96cd5f14ed564df0e1f2383f8cd3183a6ac15bcd56509a481547c72617911b34e3f13bfee242150d58a40b993d48ac8cc33735298a808124bb5bdbb15f83aa36c5c3f1dbb80324c0c672802f1b60, 0x12ebcc231ae6543eafc7ff4cd33fad266dee30860acd1f57e6c3e0e1da90d5da6c3083cef6c7d39960e3072db55d8bcb03de57cad51dd413dab9ab5424f22a29e37654c2211a50cbcd9b39f061cb720ec6857aa254952ee76d756430e68419cef1dacdbc340b416da661a2d526c00, 0xc28c8f7f86d3c20d910d1d4a390a32e5cc6dab24c5af61ad83616c6e1851a60daee7fe7ee698b679b3674f1f378e6f58af7fb49b8e0b506f9748fac31c67dbe7d85f2137d7974d0e8a53a72c93f0b033735b32d41ba1bd771427e4ba2e67fda91eeb5349b2079f04b0c8c4e79e9b59c69a6, 0x1d8406c5bf0fa4529e14bbc5d666b25e9776afcfc85f6e32ed19a33486d6b1f273d9396e33c24ff76e5472dd87eac7396ac3f7b404d1d0a11d60b5c842b0920b783fa27757ba9aa0574d83508b01faf4963e8239555df0110656048d46ea6eae0bbae60841d9c97c6f98e4d16be13e3b6, 0xc0f7a50d0480b8438c831e4ebc8d4d242f27f7829834885db316b57a7a7213dd5962c437849bb5c9d4cf928d6e5caaa17e12a82f96d8252768d00415e9fbac8201fc522e459ac83b441aba1a27922c48135dbd20b011f9124c343016c16780b3fcdd3255d870902d16843b5eebeb60f8000, 0xd2999238d25cec5c8994c2f081c15beb842f9d7bb19d7c3012713ba296bcc1c582bd55a76a85178516943ffab6489367d179232eb3cbc69a66ea9ffde5e498e2d4f5a3255019a054ba9c8348ffefab590addaa5a903bd125a0e11c807924dbeb464fb38f7f8a5edbdbd5b2cd374, 0x23c57586eff19f734f53046e70edcd6cdbaa5decee31dc0b9326d9ac3b9844057433e417f43e7566d2d53113624e42e8c6e36b2406b464d973c63feef9ed010de16a0df8687722cfda84ddee15ba86a337361bbbb3761a22df446565c954a, 0xcb3ed987b9a5ae3a833bf635beef614e220830401dd83669376f34ec300933219558de5e6f5e7fca50c67644870a03bebd888b49266dae7bc5dd363f9b394f8077c97658ff26e4df5d5123328f2f0ba5e71e50e42bbe1e4a25ad9e1bb76e1c436becffea7fd010000000000000000000000, 0x3b6fd78a1c7e64bfce8f9ae16ed8d66ed979906a20cdd83b9ca0a1165ffba2aba37a09532614de254905dc5a3c8c4277bea34c505181fbfc2e57ed3aedd9efc14ebd5c7fd48209cc9210f8399cc60cff69db1cc623d16f6c38323dbcfae4c2e899d9a37892f5d0456e33d84000022101, 0xd066b19806cd1d6fdc072aa3132a4abcd97b013a86cc5ac43bfbf74f3b2eef1c5e7c2ef14b5f368014df8923b3a13efbaf8a38741e03fe75d7742930667ebd83dd402b07ad29c972a8ee84911f8581aa1ce117ec043a38a51fb33547ef0d78b3f284e74fcab9001b43683b5d072dff50000, 0xd5233e1e90ebe932c011453cdce1ffafbfa73081f1b964c498fd7ce2b2e561211fd840c575b75fa28b42ee78da5c81765ff6cf8f3cc2dd78d11865b8e31c298c00e1011dc98b21ec97285719ce5b295caf417691ee97a76c1de03083420910c50ed130bfb6577f85b93cfebc949352a4ee1, 0x303fb9a2705684a955307d3cf5e887ec096e3177adb19cbc6e1d81fbec3a3fa1d15628985b2117219b3dc2adcbf2693d2242d12c590a371e2f8b10adf9d6fc49536df18767aec2128ac8f7dd2f11b8c6b3f6ec8035777361fc79a8901f9df755a85efd35497a4ca36892f118eff75c0, 0xab46062352aa9c2b8c9704737df0d4df4f324010ff7e7c70f4159f3471d9552c9989ff6a58d382a04689c955bb17df39ebe3c1270eec18ef39d48ca557602d5936f3912c579e7799fe0f9d204dcab86239cdbef522225b64bccc6544048e1f0da3e79d18583839aab88a000000, 0xd5ed5411fd79e55a9dac5aee529365cc58b490ea1440f3f0039e79dc651c1a765cf77020fe3441c6016d554cfddfc2d528d9120d4bbc64638d4de3822a519438771bbfb1c9c55b82e5406ef315e04f60568efab0ae4c20e2d235114b4800157e400db55f6541d7fc1e1cf393749006a0114, 0x6862e8cc0b298cf517f6c87d3c3d490918ba90c5a65c45f0178d2fcfe0d440dc0c49a8e2d90ce67bae7d1cebf564509d1e3f7f201dce15fbd730758a6a68232475b0b1d7d3557dccedd9c19368d71b16bbbc9e9ae708a1623cbb84e6f1d190efd8a09febfa2eb9fb66c437c71b3b00000, 0xd915ac7b753568cb4a1728ec169632c6c0bdef36a409f3da63336c14565252467e17414c841b5994b8a17a3beb7f2fdef7ac8a9c5dd915614fe64f79c75f140abb636e6711d6e77c6204c8bf9c0c5d8d3b8cff6e944cb6b87fb880ddbe1d67f69f3f836965a04d4554adb50b68601c00000, 0xe7b7ddad6ba5fc9da9bc519075c974694494c634a0f38e7c60b8db89938dda223445003ef450b4bc910b546b3cc3664b912c5164f704ce00f4cdca9005b3faa325d93940006aee1f7228ad25d80eb2f95d543fbc37f6a07dbd0d0035e47efccbd2ae1dfda071142d5f24db71399ab397cf9, 0xd9df9201df02e301ea128d0c5c234391a932d4baf6862e09cf13e780a8241685fd6499ff223372047a26661f78d3b3a411aa706d24366a8d1549005ffa97b31f1f193d2a2b9ec384e6b0a755e8395fe7e42a82743193c178a26bd6bf679fc6e9d97203095b417b33a6e9cbb140a5d951400, 0xea739109533278afea75345a7a80f6e5413ce4cca915ad8f3fee5082c24e2d4e8ef0bfa8b772cf32f7909efd5e84f49088b4cde09ad32ae1260812e477547019f362c5a53a7df38fde93d385e3f6759b6dcb4f8f675eb70f62849555469f76ea4287ec6ea3de0ab9c761001d38f82d9cd14, 0xdd6e11c609dce704bcf4bbc8022ec3564ad56cf1d542193641cd95448c529de8dfc63afb8bc01a66b1b6833e994732b87abc2318d7bcde59e9e1f07624ff538f96a27d6faf7b848f47e5d9cf22aa18606cf208bcc5defb767b00d6246ca8fe4b674854424ccfb3e186844488bccefbc1c49, 0x16b48e9086adfeb66963f418df9d8284efa2ef34340298ae7c53cec4464a201d1f6ebd012a2df18c9c4d498e4f8f3a010da68c5c53f17cb17fb34ccd3cd457dcd1d12a23f946f7d76b2b64765508184b8e76817e66faefffca2271728fefe45722d568fbcdbbd29c7133b9929e118, 0xdc3e04750b9c2e328f98292abdbfa507c823753cdb8ad84952e1da4ec6afd6b270a2c93b03d511da3b2085d9d607764c6481f0c8b00524b6c80b96a02c79f2fc7de9346c4cc582bf1df7a4b7a4ea122742cf33594de55d4ed61c6006fe1820b25246c17f247e5b52520a0faed6acf93cb94, 0x16b48e9086adfeb803f37590b9600a8aa61071c1a580e9bc5abf77cd8c5d0ed7e3184bdab7b8427735c82b31961519f42919e2ec3b8226feb3b9b496fa5078f627b5644c99d278b88d8e699baa11a45ff65134634fadc2f43acda9523990a77751c06033e21af2e53e19dd80250e0, 0xd9df9201df02e301ea128d0ddde5017c3d9818dca04cfede8f5eb008f13d4a3e3aa5b0bbd7316ef60b0c1c0f16b5c7561c13bfbd21ef428c8a1fff4d1e4e2a959c680dfb110ca5cb131c775484a61af72038fbef143371de1266102b729f90127244dd575fb386ec7dc53e57aa8f053cb94, 0xf2cad829e0e422c247907972383f499edfd1c06a484013b950b621cce36c219d74247534c8bcdfe5103ba044b273009ec46bada78c44938a0e74cb7c2a5cfd0f31a0134e7675437dbb8190f128b3c3fbd5cf80249cbd5703b0625c5393122732d25659ab5d7b0b1f7b9340f8524c4dc4d14, 0x67a4b6cdab1c67ec30013e157387a9a50ca397ed4ccf02021352191573259611300631780e08b18c88db219e3d8fa9f21209eb465eb3060d3d5ebce45ec8afd0f83cfcded90eee698c8b0b6e68aa967a781540de25910dbc5be07f02243a22436d749bbb1b266f125cd79741745328d93, 0xda46195598f8bf64f6e38753d938b01df2c634af0ea0d674fdd364d2b633ceb18506657309c16df22c01ad59d5129ed3480ebef25bba1fbe6c74ffcc65d14bd6db8343beea7d8800a0c63b1d0e117b57fbd2eda3bbcd4562c2db7b52e744ffcb53f989d19287638dafc4c0cff8bff300117, 0x747beebf44108cedb7a997feee85dce296aeaf291b3612e83e9a97a07bca903eef0759fe76b4d608cad4a27afcc4645e50428abfc989aed78e551476aa861cbbdb1e2733fb827a1d0cf1ad9ea9be01dfec25697aa41cdda762102b729f90127244dd575fb38532692b181e92f98de2460, 0xdca5b01295087a5e5db527835daf3e1043358c6d7fffc66bfed11e254303b814ec314923638e5ad1ef48196644a663f39a491883c2fa5819440052af4b68afc6d027a835424e62acc8831b694ca8447dc9202346ca389450e09e7a02eaf5fbf5ca242cedd57942b50650db9373ea8024b8d, 0xfef9ce00a8f0e9615612df36b358b2adedbe79ebb86af620ac100662c9398f16476cea2f730541c30dcf3f567fa5c245fb65744cbd7e3092099824a43003484642dc9e0c0b1ff9aa82fe7b7a26e1901d2e3803c05960a7f6a25135b4ebbd3c527badefbfc9563345bbf8771b639125bdd17, 0x2de2bdf43a25c7e24e6ccd3ef2386b27d1f5a69ae2e2225faa6ee143ba6004a1070234a138898ff4b7e3d35a2fa959083fd225b41a2333d3a93e90171ef68b6fc50e46f5f0af0dc6f257736d1f923a0b8974ff599b6fb5f7d9f3f3172b512f0af22332172907292bc8a469f214eb983, 0x314f80690892d46772db13dc205c19ab74e9ccf1818f04587537fefb1d1f593f11edd5a0862f9e4393407e8053556db131c202089f80e8e34c54c4a7739935ab600139b0b3477aed625c230660917071c84e56c5eecdfa1e1aa804de1db90d4045baefdc08a7eff15c73be8dc6, 0x108ef485ff19c76039598ec965caa54256ab946579b2f2a92ba4e96e3fe12d804c98b0642d4cdc41bbe6edc6f790a20ad249e05e71f6c452852a70803046477bc544d72fb3eb169f46ca0e9ce000000000000019172f8db3d1d375ca314891278ae8ce2cee357af9988a58253f20f40f804f, 0x1075a5e5855c4a52187ff86c4b15aa0138bf3e2dc2f18c0dcd5d915def418e441ae5cd293c854dd8a49a1a5988af1f2269a56e812ae59c7450e61c7a2d7c7d289bdff5f00cf8eb044d120603dd49fb8d1d4c6be55372ed9e7840461d634eec03834da30d354308a193fb2aa0d66b5c00014e, 0xcc0a0de9cb319be162c3a34b4aa15f2c449a6490dd6e7dfb88163e9c258442b0cbabf323523ab59fc19674c6aacf70f3d4f909651b7b57001d15791d1cb693612262aaed6aab00307720c713ccfe36e92ccb75ce9da5b3abdb3715cb20d6df87e56a29cec42575a75ba95c7a4238002c70f, 0x9ada77387fee58b64e74b54d5896ff69c0ad9d6117bfdf28bec548b5350b60c9b0eac654c357d441042a48d4ca7758cb3e74d769a8b6ab54d0c4412861319d66ef37d17c36a13865e42264d9c2975866debf18f834d46d78f702fef91f877fe0484f01f605dc4a210a2bb32440, 0x24b3eeff667ae78745cf0697b3b928a07213ca8423ed61c2be57e433659e1ce0224e21d0fc3bd8271f0d865e77b1f90bfa8a635a083b9dbbf207fc5188dfc1906ed8de7607a51bb08e038d27c130deb05c5c1383c4149f9c5918f07c7c7528be033688bfd9c60, 0x7f6af6042652e15e92d911689deff11788f480f99c5b02a8f4916c3f8c997b804435ad86cc7eb1f711dd87536c14e071237643c4e6ae9382f2e1b8b08ec9c58dc663a178b95871a1b6757bce552977b588a6fcbc93abe6cfb5150b231039b54c6ab380000000000000000000000000000, 0x3bf626b2aedc357f6c69a132d320e4508e49c9d5ffb02d66c8fa05039a95cfe2e69c1ff071f98b53f6f63305a9b3112a16d177a755303f1607c9224d17fd5ddd49c97a6e9713b5745e7dd1c3eed448b70e58e0bb9d8bdd4bf484e1120d9956c8743a4bb09fe59eee7c8fb5efc673016, 0x22c4a21b84e854cbddcdf1eeecf3ed6bbd672a79dcbd9fe3005a7e029966d6664af4e324c074bb2ec176fc30d6bfcafd55c09ef0e37096ed777b34e9779e17edf9300f84a88b223cd33498e79dfc3c59cb8d1861060c3c35c3048a34c5652df8f7241013e0c0a02b1dd8e0, 0xd7f40ad80c93f38bdcfc44a8835b09e8e78be912e68be44a9757d74bc8954feecfe4cf9a10e2b64b323db0ea6eb6aa7750f5ed9e2f3eb26d39bf7c65ba264aeeb115be0dce91445fb481893c1a00bfd39724f2c528f4ece7d635504e0000000000000000000000000000000000, 0xc815c3885f8b9735e2cb2a389df604dc53849d33174430b5b587b40c3d5ba98601096bd96b2a7ad6765c2e0e80b379410b5afc74b84b23e40a2c0b6970a2ec09b464d0fce6196bcf13847331100886028f27940cc59ae9dc01ba8f945b762cde4ece4b9c9566f239a69bc5e6719434e015c, 0xdb0e59197dabfe9e9cfda4747e4f38d2f9f792534b674c0ccd702453658c5f3dd316b80141c3ec88aa6f188cda2d866fa4fe31b560d714c2530f835c8eccbc58fc2f183dc949b21000000000000000000000307a670ec5df486b4821cad754178e4a7d0a3beedef14e5400000a, 0x3e2c631467e31eaf0b14a38a5d7d567870edde7542a5f35e75575863b3ff988d128c7c69bc097f4e3688f0fb4293b2fc51ed1d3f6ce1bd2eea682e15af232c567bcc9ca5d424d658f708259a38a44c5dd90937708c2f433976cad478f4cef05b42f240033bf2c8165b9dfc09d488161, 0x3b6fd784895ec06bfe78485c0d91eb3a08c39f8ae1b380c15ea370460ce47f783cd709e96beee78b97b07104bf8520db264c9099501109981c8bf71d7e82479f3cc87c36403c0852ce0418fecdf7f9785f2a13d2db99153e08ce72426744ccbe46bccfd02aee31f6801d0ad937198163, 0x1bf8656b8d65ee9b71243345faabf3993985066ab4d6ac1d69a6787369a0c9288e9e2459368376c4956f45ed6136bbf441b10fea2d40776c5b89e67fb49647210159ef299f1facd9bebd5fae97269eedef371c2f0214a4a128db551ec05edc11cae15140f821c0c50ee5db52222800, 0x1164efdbf772ec97b6f5220eb722d4211f0da5873292f66ba82689e37d09acfded54e7719a094897d56c0b67604696b2868df83a43ef2478c32dc903613c370b49295b000eb801463e1ee1874f68577eb89b12326d711469cad1ceafd1da0f54444ef6a3b481702b2d3c79e343a80001540, 0xbc300a5e65d631564824a87375276e4c73ddc48f3ebc227c8581e0d1a6083e29bf3720934bb9eac8b5cf16139d81fc2460077d80a6a9838c01f19653b9c777f21dbc917c94b9202adc9beba523dececa16a035c397b7fca93e84264848680fcd3566ddd964797fafd7b13a2be13f06d6, 0x11dc642102876ec97eb87c28cb90d615ec9f9d7d0ad73e4e6dc00e1e556f20669135246f021d126b7edf16afb46f5dea2501c17eec5162f74d4069105070ecd48787730d2d1d4a340fa98097abc42e4e10964d2bd12f1c2c75f51eeafaec384b2a5a0147cf9481ffbc895b86e47929778000, 0x1dfff41adcf32ddc044dfc49ec928584fb07552676b38798d4a98958e532a2b223505762f433492570a766fa59fea7c283a9e335e9ce5f74608e64160dc36ea4ce6a2a0382f0bdc19d5effb0b601a47aed556dcbfd5cfa9bbe397099ceccf36185e0d4104bf38551d0a00665aaaaa, 0x4656d06713935d833b3f4152869ddb1982b4abf271ca111530731f39ad3be4cbc362d86fe72ea8217d797ce91e0442838aee43a48addd33ebde57cde59664853c83329c404e3b2490ff76e07b407c0f604c120048f0af7947e1503e1a7a742bfe715782b2ae0ce049ca27f08a975e8000, 0x11076aec65027f28e41e47a6dee1796bf22cf84ffe6bae039f149809e6f208341d859724b45b17875bfd29e86a14d794bf84c31bf8058d8034c22dde4a542e870b19950b4426f67dfed5a1a3598ffc6d066a05c02151e914a1ebbabd13eb677e64cf32bc0354e2c163ce2275574bd, 0x125a805f164cfe51d0064773ed8c1096a0fbe703e31bd8fa55e2d600ba73e676ff17a430d07f8f647a0682ab82f400d44bec08dc0d9e36f054227de7a55f07d6496bf510b419e8219a43d0c63f43e2d4309fbac19b70e7241ba162ed21d5304f52ced78112c74220cc1e48a7306db5e8b8af, 0xf9300d28089ff5794b49de3b906e0efddc881e7f79ce6bef9e065d68d03e2613b40cc3bf9810abd6fa02b8b3ff8ec71d20339768080a3b5881fa71acb3a1dffb8776ff4911deec2cc80caa0f3b5bc48db6611680, 0x434dc2f25bc82726895c7104cdaba4c2ea7e29ac5a6323731446c0e16b920ba9300ee7a460210634e07b0f44ae061dfd4a242f4ae1f20e6b01edbdae4cedff91fd6d46229c71d1389eabb792415fd7c332dadbb244da4efb1bda5fefd206b21afbb5e1d8170c7558aad978800000000, 0x434db40ac8ba4088b210717af5d385a47bc53d3110fbb49c180d45128a36d55506f482a7419f10084c00cba79cbf29f7a69e6544c68348f086806d566bf756c1bc8ddf99f72ed12e2da155effdf4c0a1e92ee9fda66491592436090dc201fa9b5e8fea150eb9b6ade02812ffcc33220, 0x8f486c4af5548041d7199d24ec485055f5fbc4fec2000acdc492f6cff886c80b18de4ba51dd2142df13e32ad288c6739592b8eac6286b5c60710fbffe6da051d0cf3b0fc898ff5a9bb54c7b56f251cab39581f42754d0b54645f14d7b4f56eca1ddc62693e1b68248f7803c761ecdb620, 0x12f210e914fe573fd8ffb40925aa79c135b5e9431240811288c2a03b9b948d3742a5a6168be3465c1829951b720cd377cf7f4523219a612cb0a629b700f4cc0ba69c25d8f1faf85abb292f67e5eae0a08e8a840880e98f10d4912dc7bc580bf5b0b4fa1c8e7e92dc41a9da150f51ccd52e40, 0x12c85dfded52b706516013ce91cf1ca562bd91b71ee92a379283513a06e55ccd928bb1fe9113e81778df6a8cdf2bfb7b810084f13d371902ec50889c75dbfbb6c9b6878e630f5df67fd0f2cfa09677e44bd0d2b737701b1a4d11f73ec27ec0a802906d01cb8aef9aa81c2ead93438e73f000, 0x1308036ce3ef8ec7459f811e2d5dce2ed93c7c5052c9d0ffc8de2ac821526a15b3efa910f7f26c13f9437657c10c3a4f516998520006b26ef86f1115a4039519697f9800a3cd2c033e8f8449f941bc874151590711ae543ed6f13150662bdeb7135886ac357a279cd770bec202fd0a612780, 0x8ea624f9168a187752d096db75f485c1ac9f7e56f3fb4956bcd5ebb60da0027bee1cb2e775f1fb5487385b847ef482519493a8b15a802c0825e7ecc71d4b1c98181ce0a7da4d5bb3436f200c73a5efbcff77b41725f7ad30cb7cc778fbaaed0a7fbff4781489f59b7cc203faa7c100000, 0x14115c56a813b99414f7c2d9ce8995f2c439c761694ea082b86981123ec3e8f4150a868f3a9602815361d2f33f20146a5cf6bf43e57064e91e24340e3125ea9577ef4b0886dd90dbb2a085560bc479ad52c4488a6e1b5cbfc493385d203145861e0fb6996d038078cb1e419451aeb6612780, 0xeeef2b3714bb546176d59ee7396e3cf2ac99645127d255516b642eda6aa2ea0756d78b117769e55ae0f8f37e97be79ae378b6226e4528ab9f57bdff72ac19746f9a0eaca8b86121091dc8aa7fc522c2e3f395e5ce25dcf3c408491b418a768464ee03c04b87cc54a84b70db056, 0x8f4c9e5a2bd964091b2312b63a6bc016d5e954b56e040b396c88818b0d5b5804185e5155635dd98edee5def5174651b55e4725e6ce0ea22cb33e53f52f79306e416faff85bfd81f943a240013420454f3c202ac082bd14eecfde9638232534e28a15d98ceb7a34e2cfa06a8f21e100181, 0x43d404f6eb75b51f14aedb172f1140c7182152d3c8e15f2ab57470419fb03c814216ad79b5c820453d49e52ee562dbe57ca041e64bec121193e7611b18f5b34acfff2080fca0807779c1e806abe09902de129bdd259e7456ab1c41a88b1f945dd946a975102e8fe3d4978966e588000, 0x8d6c2d1e4dcaedd7d57c4bab9e99005f9b14282a872f70649398d69e66283125d4ee515537bd7fa92cd926ea9ef0911d6f1e2751c760edb73c4bcbc6a9a7f2e83f9fe283aaa1a57f5502b883e801978150e795884549e402431406893f2564d71f121e3b60e09ed1c6ac1ef477dd8e520, 0x1492dde80c3f4a4b2945fc77b2ebeab71a417a35115a474331720fda1871c939e887343c39398bb8cd988df19abb5090b16ca1e60f33a7520038b4ca044fa41c0e430a0a7ea42d6eb0c2ae7440c413ec381d8d39042ff803679bfe4a6af5707ecb856a4300df0551136ae64c86d0f643f17c, 0x1fac187d8ba2f137ac33e2bd4969f03439cbd5454e7312397bfca33dca81f686c4cd3860bfba856112d8a969d7a6c8b97f1bab5311d9e979b0bd9910f38888848801646ad329696e8e8c4f962b8a62f5c3970b2e7e05d5e973ec35568cc5e186cd2006a3cbae764514473c36bf620, 0x8f051e96ea8bc93e123706d4e23ce4a70a61d35dfee43554385637bcac8c773da359779f1daa053befa0f4b7b7488edeb68619339854a5b5f2c58035af1cc2c40df32ebfa3ab1c170c01abcc98ecdb702f0463d6c80c80e85c1b51905ee8d7e24f9d078ae2ed800d1c9325b804ee333a1, 0x14ac1c8528ba422a886f54f5bc308559cff6f1981af1a90c58e23939f2d8631247f2fe580472f010ced1e6aa8dbe16f15bfdb83967d13b2c9c83171a575d008053fe8be45730c424607f8c8bb045675b80419161c22d646254f9c16c62f780e3f3505a0c93071066e853950ebc8975230400, 0x12feae100c149978eba74c69c5bcb6cf3b056dab19b4698c3e8910abc46563cf159ed6dc3a005cb4b86c6a5d20644539e21e7584fb53809edfa1046acdbffcf8f81a9a9a7c7882f41544ff19f6236845431d8d209556d6c990c7bf829d6677ae696780055b8bff8a08092340c3bd6d678803, 0x434db40ac8ba4095ae380337010d98c713f1cce0f06b6463de46b0d14223fbe0c5574759efd789fe1669dc92b09a9d95fb8a663665cd7b28723ed2ec162ba6f2d963614b1fd80d3805a66ef6de8d947bf2b350dfba9c741a0b28765def771a5f13493cb8f330adabd1362fdf5380181, 0x9e4050ece31862db660f7e3819554332981b205d7877814de7d9c8e633c9978de119bb18b844d0c170dc5d1d3cecbbce3fe438d7f5d81e695739bc9e12109197a222a60228b59b410cb0fb0ea7e7be4e6f91e5df47248977a471a12330bd03e1c3adf14f9e534e522093715fe5ecdb620, 0x8f486c4af5548041d7199d24ed1834e8e7c633f4a29b23f45c829e0a6a91163e536398b1afd975caaf18ecee9c961680b7752f606dcf3b64fd0034bfdad6055cddf87522e513091eba499cfa965af279fc5048f00134895000573fb49335c6d696f22847ad37ac5791a32b60e95ec32ea, 0x1550530e47115eecd046c79b5966e3bfd047b7c9fde18b05d2404f6cc3f6cac25c5c10607992c82a9d84fb64489f003b6f7b69725a33626b5e046885224f9b7e05b5dee6ecf9de07cf4b89174ec3e1e0f84473eb778781984f0539ef4838cabd39f2f2b95b249dfd9298dcc1b6b73a3d9f00, 0x350d271d2ce7b148326a3977b8760c9319525c2e56051602fe1eb7c5c33b04ade7c4aaeb4717c0fb803eb3b8f797c2174df6a8ff9e4206ac97f30810a6a29b71432a66df05cadbc9c04811361b82e48c2266b4f033b58481daccf9b71b23630590acbf4fd2ff20a2d3e17044d400399d4, 0x33a2ceafdee49047313ebe37d85373d8f83bc35e2c1571fdbac13c48ff1dd50fc6b90cbd592315f6f5bbdc895aa1cc0c00bf3c48645581c7daee1f173666f2aa5db5d5516ed889d9fe34d3c65393abb09f4f88d4164ed1571b89bed31102d07b7f85f43acc987b638e3e7b37552970000, 0xa6338c2ed7ae4ed23ffea35bcdabdacb135360b342ee67a27ed618045b38db1c5b0584bcbc128a954c07ff5e5a935613bf4b0aadac3e853ce80574912fcb543e5743d677c26f8173ee640cb2c87a651e5bbb75534f61cd736e010fdeb155190dd200008b, 0x23ae68ac14810175c40f624436f182d27bfca4940bb326225ff31b1e89e526d4763a3efc0ca9ed474e936e32f6544ab580be873fdc52cd6de38fa8be957bbbe37824e35d4d23d4efb6070b23132fbf066a28d1d1f88daabe590c380ddf8809edd3c9274000000000000000000000000000, 0xd299c0dc28c72d41a14d11149b832c91c62c494b46eb9462205d9bea89ba416556c556e1131c7a41cde760665c8691b84232b134d3b33f783e16939897b4346179f3e8633eee7950be5249522dfffc2107424ce2ef27fc5a49d682e282f3b196d3054fb5ba3c717b7be6ebd2b9c, 0x167d6311aab58527a9bb9a4cb6fc3fc6f0d1add63eb4864757252311067b5cb850a56118f7a2c8e78aa0fd8784ae2612ed1b3992da23fd57d56ff39bc96a95f91dd28648bc9d02cf75196b24bb885227e58c1eb8afea98c394efb8ecd7012af5128926602fdb999d1a8324fe0cd76f15240a, 0x1670c79d87c2f149c1bff9e3e5db6e3bd40c4540bfddc5cce35fff5da9bdb26b2b0abe1c0f4684923bde8557dfc4de5541b86d7b75a3e4c378cfb27c58d58a9c1621e152c96da0dd9ab379c73bc6b177c1f11005f327aa3533ec3ec4a7d323240fbeec116b1c7174d5d1f300243a8a721c00, 0x16d5f650f439c145d2d5ca4037b3e99056369d8ae6975252bfa5a6d62c8922efcb80ea206fa4bc415305e40244b06068cd73462504682e79ebc0bfe532f9cae2ebd1a04acc3d95f8da6ec1f3760b6279919aad5334fa3accd7dab966e519de1e493dbd67cc2d8698bfad1141191fda1870e9, 0x12f210e44f20f5ce881e6d92eec000f557a4d13ed79181fe0636e5d812efaada87a8ed9fe1cc3c0cc638f5177a2820d46436fdfa2b36e91c82275d1a86d01b083c4b0211a69adf1896e67d5675f975c01a7e07dc909ceaae7afbc7de6e52bc5b9a25a8aebcbf138de503db540dd39d701ce, 0x11936c414fa81cc972ed1bbf37bdcb19357ba9892bf1c0b3dfd2eacc6a5976663157237ce6517051b9ce61d94f3b5afbe389ad9c8c3d3bf58857bf7d0794c65448c6e3668f83b4fc90234ecb19009eb8aa754ed3c24e5b7ee8ce0a945f6fe2e660ce40cb92678e71dfb714c9318, 0x1f7b087ddc0838bd6ff0df89dd11b3e30e549526a65c129ccf95941e397382ade1333000000000]
noncomputable def x7 : List Nat := unp [] [0x4b20b96b1fe36277d5c212e4d45032b5315b77b549d8fab47bb0961f8c4bb30f3d4d4d3123851b1ce015853e24ccaa848de541e7d65aa443a6c19cefbf567d6679f2b6c1f13152b917c4e57ac92c11b327330a5d7bf2b0e7f81fde000000000000000000000000000000000000000000221, 0x2467bc110ebbb71c8525bef5a61113142effe5c9d64daa6f913ae6f241c6d949a1e47cc66f6d243c5eda0af2601900a323125a229f2bd5a6c296bb92d82cb37710a9d2e372b4f4c82db358b3eff4ffed5a0b2351080b170c77dc06c8bbb8ea9800bd3f0d449d602797e7709678000c81f, 0x4cb662356831b2b691fb8df18d8c1a0df7a4dfeeb103d9d2cb15aea1d6d95dc282b423ed5b88b9712873cab09a0ef127dfd0e083ad9a7ce7feaeb878aefd5a13ecabedb2822006cb17a06cc4685949ce945e5bc8b0dfa2ef6ef0ff7b611d68e3120cdd7dd77eda0b5ca1d63189800000000, 0x3feb02e00f5d812d99089dd6feb21a274d1422b0522bc29cc8c88edff983fa4c5dbfddfade4ff9d5be918236b40dc9cce8f3f0e086ce74eb6bbe8348e09d5e549d2dd76533df29f5eae000000000000000000000f35764405274876a3eb409f67f74ba59ba942fd8c88000d0a3, 0x133ac9fc1a392fc1de1a696f16328229b82855ad9e581df5d8c7ec07409d3c773c390458302e30be32e651df0f6812370e96073c102866b345be5a72c04a5f0532432eb8000000042eb4a4c915d99d5084c6ce90e6fc3ea571f233b238dacdcf6a01eb232e4c6a251dc4f110a5b8067, 0x489b01be67add0e565f0cee05042a4b3e28c522bba883f8626790d2fc731f7b15414997954da1e29e8542814f1817edfa503da97a05419ab7484a9a1609e4146d9082c0379f5ea361109cb8ace33dadce2f9b658a46016fe293eff1e1cff084fa7fcc2ee99a00764776abf69c0, 0x604e6b34c4e5743afaef1350c0844852e872e99bda18a5a8067985197836a0c8bef816e80abed257578a32367f97d87cab380ef89eca65834886ea0d722e4ecc267b5f48410afa000000006b678656f50a74a0100c429a957d57e1485a456360eec015f4bd935a40ccaf8dc6db26cb28075, 0x30027f95454dec98b1cf4c11400f2d39cbda08fa8315922425cf392a283ad384dbb93bf3e5913683826f0c640068cb8e33a24a5988caac226cef882d34521385c1e52c5193aa78431ee60b0a0e9c2c6191c6e4129edde7fd0685871ec33cb5c147a6c1036de34d2d558f65088f4e7e520, 0x836103e437df9e0a40e2ac0b0f4fc828eb0dc101306043199f2e9798e816f49980e1cfabf7f3905c9bcd1f1812a8a6358a4fb593530d9069d5438484aa09f788719c788e0d7b8d64300fd15d88000, 0x437c3040d0bb764081f9240e7ad457507bb1399282192279cba73226eb13f51c831aa5294b3f32f27b971691054b1a60f4f569cc3e1ac998866dcf21265af3a2924d0bafd3f67c29c628cfcdb69b636f3d73a24030ea95b728800000, 0x7116aff856ed8be0ecb6c806493cfe24e0f6f0c1fa7074b125187952b35470b5dc2152480a961c7fac24058be317bb795a1e085df5f17ee77226c3253163b30a15b880292d447ef7a71904dd666077d4ed49656b8bcf78c7b5a565c353f50bb92dac6fbf09724dd70000000000000000000, 0x369b8e0775759134e4331f0cf3e6d814059094a25bd7eb7623849bd54d591e49fb77a2f7d358b2a830a27b2ea94c8972cea72fba3abf3cdd8ae6797ce8a6b18bdbee86001618e4341a51c5443090368eaf5f232af9c77de9b23f9b499dea75e32f5808cb02a7e5f1b121f96f1dc00008e, 0x77fcfb138eea4da3c3c0bb5a32458c3501886f6582d0001cd99f5c6525593c6062fbaff91772d8f8b702f2469ef64798916af4a57ab6e76ee2a8b50faf015679d8420a301c652076970d61ea49779fa19ee98c83446e1b5a3c2a5704ff75358789f50541b7b3bc7d316611c4299f5300093, 0x39f372213bf8e9dbe63d683290f97162070efffc1f20ca2ee0b44cf8f2036ba51b6ce9d163a692f0d89e2df5d17397382f973fbfa9a40500e2744a2d23ad7d2e7fcbd793688ee00000000041cb19b15f938e794a3c10bf03e91d2ce5d05551bc5adef2be057e03d498048a41b6c2e6000, 0xa8596fa4138648bfe07b80f1998c0979853eb03afdcc617bc2482104a59b55419abf71e2640595f0897e1fa3f0271d16169d70187e1a9bf36d5b79d1468e99539834cb30b86aa28b093f628a20f9087ed353192ffb20554d292e9da262664a8454f388a7419fb13b5fb, 0x1b9d85c8d6cd64e5cc300307e126bf769009aa50099f4d306347a64a652ebb429a5399d253587985230a27ecc5e12b53c0e35830caa2df949348064d95287b136000f0e27bdbe82886555ff2c0ddab5c47abd823cf05475f81b124d248b00566e272897ed24, 0x86fcb8876dcb49dd54a4ef6234fa23a177c0f5b3259db448d6c008dc908c6f1bc52ce8579a26ccef0f0a941e1cdfdfc1484345d836d8275582fc2df67c7ace53dbc81cf3471f3e8884e1dd234748af0946de606e9e88659bee81c6e2fdd2a5e69ad80000000000000000000000000000000, 0x9209e6c18a685c83fd2f6953ad1327c74ba493f04b198087ece5290e398103f2577ccea6f018fa161f45a112013f1fa1217fc77072f61952057677858aafe5f2dce46e7f065b52f66b20d390710b3401c7c4c23541f106e0596e9fae35d7f67055087bedd546c678fb681b9fbadc0c0f00b, 0x37c2f9a4736b7c103111c422883946e7e975f23bd9b4a3124ac5dc4be7f0c0549ea4da12a813792dc94d6885a01744b8197e7a5d22fccb1fb931c9bf52d87e8a2c86cadee1d116d810bdcf3c4b78c495697e943b9319a18e9b4914a92d4eb01, 0x996cc46ad0597c512d5622dbdc43b2c4540f1ccbf74704befa1f54c3bbd6d89a1aa2778b720f8ba5211d3d24a11b2a7370b66816e17afe146ec25d0f43cee4c57eff1169171db012982309ce433e20a5968f8ef651ce95ef12ee4dc9c45f416c6ebebd32a267e6000000000000000000000, 0x498daafde44df0458b25067c1b491cff29498375e472f0e4f7c934c678e1d044bbf8188fc61436b2fd93c25d8c4f32005b3ed42e862d380f983774b5bbd0da3f01a2e86ed06fab75f26b95e10510474346f6feb31caf129aa22425376068efc651825205252aefe62412b289803722d44, 0x9f754042303d9dffe3806133160d685cf7873b50db37311b0e5cef95afdb19cc41f4f73f655b7e7cb93a5c5aa3cd0a04a9c83039e37833116c74c1036d546a274b30163c6e3de89ee831ec44f13ca000000000eea5e015aa71586b690348c2a8bbd7f0ef5c7fa2bad7a4f5049f2edce1800, 0xa2ea1e1b1eadd0c47861d77e8e0be6613ffa81f045bebadcc62555363a65e7843203e0104e5e801cfc8c1f5feb8ef5abbc121240aa84b7f94c1d989eed6f08e39fb6cea58986d739dd5f1a518bc0000000000000000268f65be8a6b2b7a5a7945286a336409a6c0c6b35a5ec78fd401ad40, 0xfcd0d2426edfbe05494c27ca40ea3072cf91df71d18106065a46ce6db8cf48b4eb00e6f9201d1d2b239dec9e349ca70bca689764726bb1a6091f2ecfb8c0da7674f41c28df3d86cb8b157e02ad76ecdee73610c97935c432e818593447fd1dbb134ea8f7fd01e2430e150c4f07c5fc7ace, 0xa5c613def2de451d34e225d9acc276cb6586285aed4a1ed182e12e2ca1bb7707036224ca9acf74497ed60091e0285a75aa0b7a3b7edb2227ba2c984acb41626eede5a2e8185b7d25e89dd0c061a8902780604c891f23c1b272e5dcb70a8bd7dba4b219aaa3acdec7be94d249597d1400000, 0xa75a3fe0b2c36e50a7417e97c9b6e38c8236e87cd42b4807002764867f23f934079db466eb9488d93184d72ba2e0960de73ac0bdd2eda38f5afe0292f5d09bd1bb63bbad400000004ffa5cfbef77cb4807a0ba33f116ae3c12d55c1288bcd1c4727b3b8b1927640bc587f065a1b7921be40, 0x3f8b67038932a8a7f57a4c593aee008564aa50c5558bd8e7faff9fd32b0974e39cce673768175f4608ffc7e979712ff95c8615d77274ce5522c4c6a1495f4163ecde0aeae549b6011dbe71ba1b04fded9dd9d1ce7ac6fdda17449672e04a2f73a993bb79cb65e81e384a0000, 0x262e16bd192213be66b038544a854866b93b9b877844c45b2124c9080572820eef50f26ae9c623648b3c814cae0d0b78efa8c05960ce4cf957de706afadb0417c31afbeede893bea4804f4bda5a2e50c3cc7b396e975683ea000baf46ea104090ceec101d20236e2e4d153725258000, 0x71e7bc04fe722fce418647075e7c36dbc174efbb7df133fe21cc2da959c5bd1afac0c4a008938ab7a60baa0d1b5c735ffde47c4e13b8a3fc1e95b250ebb3c77ae0c58baaab307ce9785f50f6801dd320c5757176e090476def5c38a8dd0de003a7cfca6cbe959f72fefc0df7e1f7d86800, 0x3b8bcfe9f4ea990abd21eaddca44b3c283cddc70d881e937736b5ef3d0b46698966800b82efa21cf50bb85c80a3c5bd225e410ba9be0b0bdae3acb349d199ee0d7a1d0205e255afaac7e992e1305174f7da9a789f1796afcd8d0ae30ffe42dfa35f9a4b425f8ee517619b3174001d45c, 0xa75a1ad13492e9bafa499c926256dd83f0845c0d785a79d56d2b832697b340edc580034a7240e09d6e9cba2b067b2fef97b13ae3f48ba4d09a83dbc54e99c86b61f653f46ee349939f002c40c42899e02dcf0324720f12a7249e05bbbb655eaf9537c304e9d2aee31f6801d0ad431468009, 0x11076aec65027f08b6c7e7d72a1ddc7bcbe3f8aadae939bf9d14d1a5f768acac91b9d6d8857a64f45eb1363cf0c5fcd7ec023555404394b8023e0aa77083c30bfa11f8c98876056437a9574fcbe21de53de0cd67ae79e9dc96ee5e35c37ee2ecd40fe50a8618b238011cb89804cd4, 0xac169dfdc48d6919a0c4731ce0441943bd391711a80d81c7dd7b7080b4522ed4d9d9eb055e6c6a99920045d79fae1a444d53b529f9bff22b395aa8ed794cd8ec61428b5db32b8577b5aefefc5775c68cf8684c75c536b359a7e51fdf6d9f1af414eb0077c785cbaa44c82dd65cf12d8b8af, 0x3e5cbf20126237b38ffc08e5e8c047926c86b7d5639d7e0e478dc4079c83d32f60235e2d716fd1ccbd32d1bda05502ae896052c4e61892b06ea7918ef1e87690fe494c6abd12096395dc8e534b2baca8cbfef3cb4895650186cb85ba46e8395b897521be25f0a5219287503fb6539ffe4da, 0xb8b824b2036d810c8eb6faf10767d0cfeddcdf457c4d6fab796cd79f10dc1df93696e9ad0ca2b9e6600f6f8af7a3e294e213d2059f749361a887241d2123715d6c2db11b0d0b0bde90e1152718f96c301caa2ef43632f52f56146c0a887d39ec7e819b3d9a1597c12efec113919ef60384f, 0x92ccee352939179db2fb9ca0cf3ea98a645d5fbddb2c15edcca9b06352509d07602eff886c7ced2bd930f972c734668957c1615ecd9d9c7536268b1c3b53b7b23e56579a504b15b3e0f28b1e96f156b7c5f7c7bc3150ec40376959e95eebec739f305a36055e8ce302d4279940, 0xbe3e94d3f60398e1f817b20d155be13fd78a0b80e24d3fdd112ee4c6f666b58eea986ae3d97482a332e26bfede3cda93069a82a3c328afcb58558fa15a87fc1e1f6641e3c23fcd8a452c5a4069bdea85ba72f9c0559469f983583fa82d70541607d2b81f3842eef22b77fdef6c0018f57f8, 0xc166ec4642f88e808655f83a29210bc4b555844decced9d2067b3f4c932131598b37ef32954051fa08990cc89b9bc989f929018520407d3a10cde86a98aebb9d7aa9b6f7a374b390b51099d169ba0450ab1d64bc3d2a8a4ac4a26918340fae76b39968fbd62a3747ad1e01d0acbe8a0000a, 0x5aa428aa1e49f67d220abe4b5879fb7b0ae4185bac5a0b4df79b23ac080d62072caf8e9580d52d9080f2d3daba4794612a03b98dbab846f9d359153c16e730e1688264cb0f8833c82c18d451520350afdbe41fa02c9ded0c1373d66e313afc5c39cb5fca6eea31f4a35f129814096dd95, 0x1d36324a2dcec9f5723e7d0111ed5e9bb2ee9a5bf163227a6c83182415369fbe12a3635793963fe7afa3a66a881ad6962207b3df546ad2fc1773e6c5e5ebff572f14d00a557917c1795174712f8b81bb6a7a3046d81e3bad2656092f89404adfd4f317e0cf757e9db1dda9255c0680, 0x5e285bfa23a0265d999331072e7243007e0b880dac957297ea709d82d9077b9099bbf5603adae58d0a7169411f25022df05fdf11393be30ca5cab0946ae42e27b7eda836b3dd5d1a1c10a67d2635277e5b897ad9a89b75acca15e190600836d4b2d6eaba2d5465465bda9b14e54001540, 0xcbaa3596529d9f2b81bd1724743848bf238d163e750d62636840807dc2f1c41fe2fea1a66a78913a8ad2e898a8937f085197a6dd1adfffe300b47e077889ecb70c2b1dc34c11aeea40fc660d4aba447e649e4087a9245d138e8aab39082537305569c6d638e7fb1f3cdba6c356d3c31f0fc, 0x2e26b1903eefa5d1483f6371021032eff5bcff94d3be4ac24c1e3d94746aa4653683fc5f54442aa644a47a1ad5b3b16ba4ab5856b57b884ee16555c34bc234e9805920d85440000000f0bbe6958452c9e31453a861f5aa3c661c76788f769552e2de06c633cff7fec3e64c4d87ff602, 0x2e26a757dc5ba85d258fc35f55eba48b4ab01102e2674d28f3eb5dba78300095a5ee86ed711bd0c549b16ca7b648259ddd811b469060b339a9ff104467458633ad851886bac7c4090029c2508ac25cbf44b4e6c2525f45efb0cc59a9e830d95df13f25ff83a3ca2d4093b91561db100, 0xd71c752037e43fff45acf5f7bf41909cd6d08512f5a4df15b0cfa02cdb1482c8f08b3c3c85b7a22daa9609921c4ee23eab219a7bab171bb0c06d86ef3ec429165398bd0e21ccfaf42f3e17a9d2aad2bcd2d4102d71c24d91f01d6324c74033bebb3098b7db9ab386cd1beff2d09e053a000, 0x2f1c961526f7b4b5b58243711d278d2fc0c1c2cc0dfedca313ffe738fdbbade1178de1ce891060c071df1862b8907d38b1a87b6beb4ca5dc33d76b8790eb146b9f44dd3b92ed968ec6efb62f8ee75a76c96a9158981e279b8af76feeb66bff6e28b116c9f5755f7a322146778dd0310, 0xd4bd16f146fe7a3f5c08c5cfe8da82948e42aeffe0610fa54a23fb7a05dffd821d074aafdc6429267b506bb904faef25a9a3b0901be9c3f8e7169b9674ddea61b62871f6c6bdffea28ee4241e5dc88b697dd9b7bb05b5c8bfb7adab4d461312e56923f278992c4afbec384cc4b434d00000, 0xde9c467aa1be25084ab16b060e9031d9e307874e119db126aa7f2b6d07b6eaadcfd741b165454e0e95d7a356956283313fa3b976be2a881af7d746b6af9c9202f8a601e27b99d98e6dd59f4a8e6f0054e1fff454baa3bc0f0ab0c6d4d65301da083a21a603e62c47491db1477020002320d, 0xe099f2ac3396cf61fa9083daaf2f84ec64ba1a85d8e5d39399bed57881cbccb0ce726d8f71da122950f19215bf27f7d2abe745b3018acdb7e644f039fa3577466eabfae6949ea46796a078fbb4ca5f0fa8db4a6827326dc6110f0176f32935a3a104fee120f4e01d5d92c8a8eb07e8882ba, 0xcc744bb524784af994b96fa417a9aca2c89b910d67664e9daa2193516913290213e4bc11ac5fa79652c4d799aa0561f947519e3e0277669f4887a8dc34edb8c247bdc9dba7e4d608325e80ad3477e01212dc1072a48fa3eff52103fd4c931f9290aa5d72006604fced79451e1daaad6f51d, 0xe3c394dee2627fd2bc90d28b029031848e999b5fcaee1a0a706640834bcd02d67f3f1ec96c22ad19bf66ab6afbddf45d764f6442d188558d7f4c0cb4b01a4f14f5c297790c73b81aa9cec4e92214ce6a95aee9791b027299e08bc403092c2c6a72e93ea67439f5755f7a32474264f47a660, 0x62404a42074fe2eb51ab29ed6f5041f2d6911fecbe82662e9de51830381c157a1e16f4dc77487d595310a58f15f56f9c02785aa140a3b876b28c3fad893e35e8bd99b3eff8ea2445f04dbd032f04b6f78e5520a3eb834852227bd54c2378e623ad4bbbd8c6ac0fe92c6c2200000026520, 0x6d687f7305309021ae47fc61438e80786675926f866f80a5aa2c50bb1c2821be5a90a9497fdccbfa5197af068527f0b35f673a379a0d4ac47843824bd2c57b650ebf502cf5717de7307467a4372ba0823c9f54abfd5bf80174e1c850f882694f7cf540e0249d31bb9a64352d923759107, 0xcf9ca4085163ca3423dd2b040f17ce38a662874c58ba161db4438e5f107264d093fa9a06702fc84c2cea6dcd77c835cd853b502805921d3edc0e7f9ef9bead4aad5b0f0d6a4a86d25cc0c0706e7444aa2ef66486d814c0a6eb27e10364ba612955a3b795b9681f3e2cff6ddaf4710023201, 0x62404a42074fe2eb51ab29ed6f77bc1c17ca4683919408f4022d996832daa69dd2cc80a9c94cd8f0756d01c9b04f90c0730fc3f85d6cf7e830d24c8bfeda5ca07d197994bbb16f6924eede24c6a5cc50016a89282317be215d3263fdc3132238217e8464ffb60e2bdb1ab086a00c18c00, 0x6d964b53843af5ffea95adde641e1ef246098f32c94bffa9ed04ef7d524b309939c44bf9f98cf6fc8f19b6f11fccd5ca9708c1e0489886ca66da8db7cc218026aa0da2485d79be5b9db51135008a072e67b4fecd50224bff6e82a36faf8942a7339e661605b696ec142f1e1419b498107, 0x61b32003ea10d7a010e08cb69db0d98412103fab75f017c95dffa786bf4ca17780d54909839a2960b8753f7c336d447d71715984907a0070628c12ab33a64bbb5827ac5d35f3acc4fadbecc97814db054492fb9d68f579324e58fa4aaaa899213ba1cc0e9d962cdf18b7ce44004aa92e0, 0xcf9ca4085163ca3423dd2b040f17ce38a662874c583245b2d17e9bf44434d46397098a7fd2ac3c45b83ba5c840d349aed0396820a435a6472676acfe01d344e65e9be88ff6fb43b30eb0ee3459cce2fbbbed3ddf689b80030e7efcf89c130cc17983d386d4e43c197014a357da99b4ba660, 0x29a39d9a6e08303b07a1038eb101eb46e95bc1792d825f4cde29f773a9189931334c1199d454f9f0ea7c1bb262c8f3e4b94e79ad40be9802e66ce9b13fb4f2377485994867353643c7d308e4eebc333710114b4703d7a1670b9104eaee120fb4dfb9250fa7086a00c18c00, 0xa3dec9b491233b42d862325729d36d5015d0e1d348ab90fc30bbb271254f5f4a20b3fb6cda0302940e035d0227cc8e84fb6d7c117cdc6c134e2629b0ee562b3163cc015f8d83b77e370af8a7e2271644d9147cdbab5e53779cdc20979fee9f950f7d1b0151db1477020002322f, 0xc5b6641f885910252ac07c6c5df5ee334358950249084227ca251454a4871439caceb0437382b7704cadb2da7ae922c55613fab59b8b39fbc9f05742215ba18ee3b47c8fe34aa2f85a026182ac8fcf4c0ad0aca7ffdfb1b070f17414be58b94e13300dd41de0ce2b4b63041900640800108, 0xbaa3fb6feae239466ded2d0ef6af8c40cfb159aba2150fb1002c1218902079a0c80498c4cfcf7a2b189b588682283145022b0e9b654df851a71b33f90a1f51445dde720a9593877ebc861ae50cdd37f39d345f3439319b5600f89679191a2531647b4067f0cdd5da1083f06e96efe0000cf, 0x76dfaf091891bed8fbd13323c5abe51b8116dc69a1e496efa9b058db1a502f77d558459be7cc40dddb4104f4388aa802918492ae327dbcd3b0a7f18e1614bc6838fcbb71d50515581fbe0f952ed61b400891973a52b485a87b8297e6aade57296daf93fa4b309e35da6f812cc42e9b0ec, 0x779de1babadb4fc661ec851c4b4524c36cf47aca4ca594ca902499bc1ab6c81dfb082c8ce699d69129225609d9a421d2a77c9d910406c3ee45c3607c3537b9d5996fb771fa863d3a5747a094b6c9f7994d3bd231b2b8cd6b6ac8c6d420000000000000000000000000000000000000000, 0x1a89ba381126748c04ba13409bc414b1dac8c1903f780f76547efbb62cafd017d721eecc794b033294c6c57b0aa69d8a88c648467a663daed1c03410d13c33ef7175fef94afb0c825cbd87f19a57cd1a89d7bb4d923eb5950ddfbc6b1d4d8515a08126ed2cb43c348e11c11d3ac40, 0xffc3cf0fdb84d7a55d70a86d102cfd23893d0ed26b01663c7316702a4ca0dc0dcbc726c612cae7a0ffd9f97f5535b69dfe5722e753611c8795aa6611ed93e6953b7e72fe3a85dd57d1f083f06a0b222e910e914b9f292f91e548e2e9d6ae5b89cb1140209e44b4cccd415d90fa65c22ac40, 0x457783e2e6f3725c9b886862551f5b53081971020c41104fa38641c8ed0c4d648ae95064c71f9eeaa273ea14abefda65c81f2ba2e7df1e0211f55f72e1ded4aa89abd6f128e98d6887cbf256c2ad1cb48d720451912844c1ac2b56d4fe7469174fb20cd6e9f6a6e9cd281f99d5eb1f71144, 0x39dd1ea07d72e3bc3c6d2a99cdde49f6e6354fbb1f25b39f326f7225c6e5646da8805f0fc29f562cf0e7839f35e0fe88e3625ef59089261a96568b3e7ad4cf46190c671225e6824350a6be2de4161fa6a745c23f72bc7d18f1f738d9a8d12b670b214104fceb17bb1e6c58371ec0000, 0x1b47bb8ae6c5eef020cca6576f0c152ec625adbdb09007145bb185dd5a3e322f12cb18914173e55af7aa7d3cc3691dcb125bfc529e701a0d2a1f28b66d6ccc7e2e6db6aed0387a5ac6b45a1b0d2078da6b0d2d95defbae4b58681716155bda102e957589fdc612ffb2e9518000000, 0xc5d3caf4bc5f2caf762ee426b5326e75934f7202cbf42dba331bb1ed237f975320673394039b1c6e5cd2c363403f7bb09702cba3b747c94ade1d78055cb9751431ae845dc1a9c597ffea8bef18090b3643dd13d2479fc7a092eb95083fb872c4bd247c0654b387460ef13b9c2f820b2bf60, 0x1093cb1bf71c9e800b83b168492619293155154dbd81e796b720516c7cb81b2cfb47131bd44be8a0b80edbd97d1eb523f8881893719d831238ec050bd79c1728966fa73e282566bd0a304f22e9e821af95be6f5f0c281f14dca3ff90a2b6a641e34d4d3e24b067ca222e9a8648d805d8c03a, 0x7cd1603a7bab0c18ec1fccf1a2aa268af71870fd57b369808cf2f03414e2390b942f86033703371246e1a856c0ce85f18dba9a0528c5b4477f2a2ce9d9a77db2a7da98f3d7e033a20741d2534bc787afcd4e36a6cba56c6eff6b4ee967e36204630981464e42d00e440a020000002ca00, 0xee4ac234848b3b9db77d40d64e77789edcbfda5c5df0dc93524bb8622139a60792acba80e10c7324d11c5ad4a52260ed9cf7865518a8996298ee4782fe7f29d8799c50238dfe440a4f59077970c043985e3a60de498599580e33dd86fe766c95f57afa0a8f289e572b4dd4000, 0x7e4da9f9aa17ef3157c76be565a66f3e23a39d6ffbf167cb81e254e08f1c4533d201d7416551875aec4356c6cada423ee36f916eb969e740b6f32a99e41ae9ef68f72977419c2293212af0672a1ae48103d8b61679617b78d94dc92f550000000000000000000000000000000000000000, 0x1100d66d7bdca6087b7fa622540a771706c4a5c343383c21f92f0fd1ef8fca55bc9288c431e25a368e0bf48fe3c2dd237977cb0cfe3b3602bca9e9d937cb65e4557d65bc6969a39bdcca8d8178dea3f76049e7d7f5f65e5b7ec900143470d884912530eca59e3410543f7d496851daa00000, 0x7e4da9f9aa7c34c4bcaa87b9ba49259628aafe44214bbf818369c4d46770e4a64d15bf9447ed2e1988d62fc74b1f638ba956b0d3ffa5a8605f3e58bd48d8f699382e63a7cb2087c8c159ac185cc2c265ede55b92872276ba6186bda50e642649b5fff49bdb999d1a8324fb002c36143c58, 0xd6b5eefb62d951c744b4b54f805714ab04e311b409004762b7d8e774c99ee0267ed640ef51ed7dd91b416d216aca60bb48b6aa48483a1d547856afee82a7aa78b7c24e2d8d6feddce4424e6711e3fea457127dc17f12640fb5a0ff46bcdb090f0c2fde655ddea02a005ff50000, 0x8124061388e6adab3ce684270acc694f696f981347a9fdc30ea486524d3bb5f943712fec216063e131702067b9e4d2a5ccf388c93fea3e9b4ef14b7e2e1ee0cbbbd5d8e85928795cc4a14ecc6efc6c8d2588c219876810074979b63fc888ecccc3f1f591c6dcae7efabd599deff874d60, 0xb8411c1add0bf01cc1e0d184108132e9b3eff86ca7610fd2d350cade576847dd5bd71139aaf58e1f79b3715531b8e67019a72cf20f249555e1b5796f927fc8074f3a87ff4d529f2f77c073e7e6005466de730aacbc49f8cd6dcb3f04809d23f99754bbfdbdc5ed696a4e617000421abb, 0x697b803cccbf6a3fb11299f629a833f9c841070aa5365686c75d1364dcda7c0b1ef3b2a53a1c024108f7abfa2454ede9c802a8e0f8fb6a8e2339e4fd4fe5ca142c1318fe0b6b7454f3799b0d0677b9b2f02a60b745ad29c6934ba2b45cb488e1175453c7810044bec26037c00, 0x715a48eefd6118cc33c255229699cbd68c39d6b1cc4b687ff4b6534405350fc645a8cb130ee603723dbf4fc94292eef5f406abe3bf9758e0f62729b801c702a60539ec0a1ccad321464405b2887b1a8ceba96d08d3db9a4b51547b88771af23e78f8e5eb9d6a36f14eb3f5000a, 0x3de26e1f278c0237ca01c2263e9075f267f0826d89fada2b16a4dab8065ccb36125a7a2cbd59a96cd9ee6ce11ce8448e3ac8e8caabbbe3e0397d191f4e2ffef69dc4ef4e59c0287103069293672b5866a8cd011ba3ac241c2179cb45567ea63c0f91abd201ca27ee620e397a014f5e4, 0x40db3987cccd576ce4994b978233ee5be3dd65bda0344fe7070820cfda4a967644fc29952529b29246797b8d04369e45b998f6d1872b2d990b4b13a87e6c36c9df3a01485295ef76e7d96c30b626db35113bea72bec5d080e7b36be117f1d8567965618b7eee94bc36cc22f9ec00000, 0xe639da351d55e0705e54cd2ee8c9070bf00473af428d18d7790d9fecbe15f104077a2b4aae2e5447acf5626da40ab3da7e5353681721d7448e24dd033be4836122df7a8bb23b0c2530f447e723b6374a1c8610ad28d2bf97ab366e268f326d26e206864704cce502d868000000, 0x120eb8199b6aff67698edff66ddba8072ba93a1b385c5724a339325c78d371c7aab19caed260173a2e3d41f824ad682d37df1b066f593b885c15b28e01bc2430753d2420df6e388fc702be56cd6ef0d894b070cd0b0f3586690ea9e113b6050c474f0c3bb0bd4162f96361032bb4ae018173, 0x1256780a9c8fcbe7d838552a947e3923cb45e6b605b725922fbacdb1760d4f35a3fdec9e0426e04fc4870c6825f863164c8214e7492833d7ead2a06ad61fc075db0a3da3c015a11bd758eef4dab7110107019a5d741f0146150d5a8d5944016a03f7aca05174e900d384652f9fe2f3a00000, 0xe63b056ba435584d247f96a63d680cc18eb181a09cbe9de76dcba3001cd1b5536514ac618ff1db17ac2bdccea5e8c7e6302d9f879c863602b11d523b74baac5745a2703f1f1fd4b23a32bf812999e3408db0f01d94b7aad889e2d24a3e819919f94c3e79aec164ea528ee31240, 0x1e85417da3fae75b42d28646605a86550bb1847c079222631b4a2047c9fb21ad3f52f462b8093fae044da64573bf7448bfadb9fe6488e4130bd84d640a8e5b78d037d811d57b16ab3109c9a4ada1d3c28ae7958c68b8e3680efbd15dc12bf7dc9a9e9762cb7707dffaac3c9300173, 0x1256e8f8b60b318e5b4e47dc3dc7a358a2eadf7241ad067f52e6d165acdc86f2c2d0a8dd45387d049a8a5dcdbda33fde1a43729bc559c0798ff88c8406020f7addb58a05e272b20a5eee8640deaa366f612d9a109830aee4a587086318ae4dc523afdb5914c167c4f605711d7e200689dc60, 0x8aef268a44470a9543852281625165323524a2b5eb17207944e75412ea843a8e9193d7685e32748c447fca55fc117f2c3079bb4fab087faa938a36baab402558b53f5415333cf9e3f50e72506a990f218bba5011dbd384a60996ebc7eec349ecb1838fb6faeb9b0a16e93708d03300000, 0x12413da0afb70e5a28e0cedae51e97c0144e9c93cb59147a1eb464c5118ee3959a550e85fd004016b2aaa08d75f353b92b5cbb66cb9cc97bb0f8f08c7b789ac1ffc65109434668bcb4b669b7d68cbdbfdb4782b440195d6613bd3a9a9677b1d4ed9d70bd1ec06f7c5e1d7b6389e6c1840000, 0x40fbfe1a7a290501fb293aa6db41628cdf97fe5855c97ef38a0808f2f2a2b4705d0b02e157461dcca28c4909c9d21ac41b025df975dc3ddd8d49423c311f160134b41d7f207de6bafdefa1455d87ef4aa45c83bde3cfad8776a8d1a7a8d7be2fd038963152b47b27500cb11774084cb, 0x1e94a73987a6e0880089c66bf5590eba2587323dd01c4f745acdb28c18db32177f832e14cc6039f36cd7ed38ed5a189ffcd37660ab6bf2acbb90877a8116ca7269961f2bfb07614c58873c7f40783ad0ad5495528254fd3be1efce473a28d39d96ab8d839b25122fc187cc68b4c00, 0x13fb4dd2de3e49a6b0331aed1080eece5102a1db46819bee642e1f2fde4d86c4ae1b23bff59dba200598ab38cffcf44897d9ea88b5c9ba6e6beeaca0104d1de44c2296c589eaf149fd226e00e31ec54d0cd59e168ffb7cc48c088c47b47726659643ca99e69a87ec0f0bbf4ae00b86031460, 0x98f55e45571816b945cadf1e3abb5b09f9b33d3967d7931c7e17a211a8581e677268543b5a591fe04846fc9a4e8b56321c9492a182d64a485b824426beb07e6b8eeef18ddf018a5210aeab5c274ff20aaae1f4a1ebc7f4ba445f1aa4564757ec2573a0bcdfbb33a845594e77b0cbab0a0, 0x11678819dbfa9595ef3ea3418fe5d2aa59a135280a11d2c476bf4e1158906cc99df3c056e0b5ca184c20c81b07fe8ba01ca9ee5be8843d5b3b700235d697084e86a284974bf656e13c5273abbe5b06d5da784f13951b8a14808139913beda42ffbb91d092b58818aab6acf8fd16e10856d9b, 0x114cc25f294a6f7bd9619addcf27a68a620a872274922b2d47e6a5d9e65372e1dd66ffde22d8c20a53154a319b8e9f8c87b53a0650cf65a8e6fe12fe9f16095ac1910023bef9cb247e7d19fc54a0d829e038fbba6cbf2504000000000000000000000000000bc6622ab557f7c454d052e300, 0x7e4daa06cd7f614458f87efa3b9f2f236bdcebf9e6a167c7fe6fb80bbca9e91583cb4c44953c347ec182c175df09d1d29b066f460c3e3670363a7d847649d653a8ae499468099ca9c2796cc99a930e954e1c413bbd144d6c564b19f5d7e43c4244f6f7ac156aea743a68a3f002d6733858, 0x150e6ec023ce44ae1e365847df186b2741e8dadc3c5d8dc69d6c3b2e0e2823c3293c3586940c510da8df66d2f966194f3449b9f2c4c22c085005ff705abd662cf9714a3e30cd0c43c8742c988eef4c5bd9330a72f7e95c2afa32d430e8bd16e910f4c236250574eaada8c618e21654001540, 0x1527ab898acc0d6e1fd697b4a9d6c63865801657c8fd2747787170811de06d1106109072193d82f2ee071d4c50205260a864511622a26eb608e73a95d602beba51fe329305b16ed0de10e62f9590dbae6bcf78c56c199857251f9bf0c8c2bf2d40de9e72320c6866894b56325c4e81ec32ea, 0x958d7610118953018aeb9490ee3f7f6f9365b68754efd1dbf7ca3d00ee58c3802245aa7466d178846b7d0b60d36bbe1484cebfd600ccf413eb3625c1a6420d667ef88f36fe6d7ca0fad63c004f9b0e600cd6082dd26dcb957ffcf62c531d835300a52b5fd5daee0653ff6825ec, 0x12fafb455f9e782a2fe4865c36c03e572398f3b444172be53c5f274dfe4d0e85cb60fd6f247a238dd7a7528ea7c7a44ea1411725508378aec79449e2f94b081ed8e0b3fd8fa0cb85bb1d4c27a75cfb5fe02106bbaeaa3379b3e94ece1676fa822454a7f2960786af5403fb4ddb383a75dd1, 0xca15dcd7b923bbfcef51571bd5a228a9f5330b8e2f363fc57025c4623e63ad4309cd64be3577bd6a175d7cea59658a5db2258cd0104add8abbecc72b38ccb8de44bc81ef7047d05f893bdfdb6f0eda63bb9592c13886c2ff821a09f7db7f7031d1f964418014c8ef72e0622de91ec6018, 0x55412b7c8a138c631899089167c0e1dc6750b1aadea98de13dac4b0ef6dc2c07215f1612690000000000001a9]
noncomputable def x8 : List Nat := unp [] [0x4b20b96b1fe36277d5c212e4d45032b5315b77b549d8fab47bb0961f8c4bb30f3d4d4d3123851b1ce015853e24ccaa848de541e7d65aa443a6c19cefbf567d6679f2b6c1f13152b917c4e57ac92c11b327330a5d7bf2b0e7f81fde000000000000000000000000000000000000000000221, 0x2467bc110ebbb71c8525bef5a61113142effe5c9d64daa6f913ae6f241c6d949a1e47cc66f6d243c5eda0af2601900a323125a229f2bd5a6c296bb92d82cb37710a9d2e372b4f4c82db358b3eff4ffed5a0b2351080b170c77dc06c8bbb8ea9800bd3f0d449d602797e7709678000c81f, 0x4cb662356831b2b691fb8df18d8c1a0df7a4dfeeb103d9d2cb15aea1d6d95dc282b423ed5b88b9712873cab09a0ef127dfd0e083ad9a7ce7feaeb878aefd5a13ecabedb2822006cb17a06cc4685949ce945e5bc8b0dfa2ef6ef0ff7b611d68e3120cdd7dd77eda0b5ca1d63189800000000, 0x3feb02e00f5d812d99089dd6feb21a274d1422b0522bc29cc8c88edff983fa4c5dbfddfade4ff9d5be918236b40dc9cce8f3f0e086ce74eb6bbe8348e09d5e549d2dd76533df29f5eae000000000000000000000f35764405274876a3eb409f67f74ba59ba942fd8c88000d0a3, 0x133ac9fc1a392fc1de1a696f16328229b82855ad9e581df5d8c7ec07409d3c773c390458302e30be32e651df0f6812370e96073c102866b345be5a72c04a5f0532432eb8000000042eb4a4c915d99d5084c6ce90e6fc3ea571f233b238dacdcf6a01eb232e4c6a251dc4f110a5b8067, 0x489b01be67add0e565f0cee05042a4b3e28c522bba883f8626790d2fc731f7b15414997954da1e29e8542814f1817edfa503da97a05419ab7484a9a1609e4146d9082c0379f5ea361109cb8ace33dadce2f9b658a46016fe293eff1e1cff084fa7fcc2ee99a00764776abf69c0, 0x604e6b34c4e5743afaef1350c0844852e872e99bda18a5a8067985197836a0c8bef816e80abed257578a32367f97d87cab380ef89eca65834886ea0d722e4ecc267b5f48410afa000000006b678656f50a74a0100c429a957d57e1485a456360eec015f4bd935a40ccaf8dc6db26cb28075, 0x30027f95454dec98b1cf4c11400f2d39cbda08fa8315922425cf392a283ad384dbb93bf3e5913683826f0c640068cb8e33a24a5988caac226cef882d34521385c1e52c5193aa78431ee60b0a0e9c2c6191c6e4129edde7fd0685871ec33cb5c147a6c1036de34d2d558f65088f4e7e520, 0x836103e437df9e0a40e2ac0b0f4fc828eb0dc101306043199f2e9798e816f49980e1cfabf7f3905c9bcd1f1812a8a6358a4fb593530d9069d5438484aa09f788719c788e0d7b8d64300fd15d88000, 0x437c3040d0bb764081f9240e7ad457507bb1399282192279cba73226eb13f51c831aa5294b3f32f27b971691054b1a60f4f569cc3e1ac998866dcf21265af3a2924d0bafd3f67c29c628cfcdb69b636f3d73a24030ea95b728800000, 0x7116aff856ed8be0ecb6c806493cfe24e0f6f0c1fa7074b125187952b35470b5dc2152480a961c7fac24058be317bb795a1e085df5f17ee77226c3253163b30a15b880292d447ef7a71904dd666077d4ed49656b8bcf78c7b5a565c353f50bb92dac6fbf09724dd70000000000000000000, 0x369b8e0775759134e4331f0cf3e6d814059094a25bd7eb7623849bd54d591e49fb77a2f7d358b2a830a27b2ea94c8972cea72fba3abf3cdd8ae6797ce8a6b18bdbee86001618e4341a51c5443090368eaf5f232af9c77de9b23f9b499dea75e32f5808cb02a7e5f1b121f96f1dc00008e, 0x77fcfb138eea4da3c3c0bb5a32458c3501886f6582d0001cd99f5c6525593c6062fbaff91772d8f8b702f2469ef64798916af4a57ab6e76ee2a8b50faf015679d8420a301c652076970d61ea49779fa19ee98c83446e1b5a3c2a5704ff75358789f50541b7b3bc7d316611c4299f5300093, 0x39f372213bf8e9dbe63d683290f97162070efffc1f20ca2ee0b44cf8f2036ba51b6ce9d163a692f0d89e2df5d17397382f973fbfa9a40500e2744a2d23ad7d2e7fcbd793688ee00000000041cb19b15f938e794a3c10bf03e91d2ce5d05551bc5adef2be057e03d498048a41b6c2e6000, 0xa8596fa4138648bfe07b80f1998c0979853eb03afdcc617bc2482104a59b55419abf71e2640595f0897e1fa3f0271d16169d70187e1a9bf36d5b79d1468e99539834cb30b86aa28b093f628a20f9087ed353192ffb20554d292e9da262664a8454f388a7419fb13b5fb, 0x1b9d85c8d6cd64e5cc300307e126bf769009aa50099f4d306347a64a652ebb429a5399d253587985230a27ecc5e12b53c0e35830caa2df949348064d95287b136000f0e27bdbe82886555ff2c0ddab5c47abd823cf05475f81b124d248b00566e272897ed24, 0x86fcb8876dcb49dd54a4ef6234fa23a177c0f5b3259db448d6c008dc908c6f1bc52ce8579a26ccef0f0a941e1cdfdfc1484345d836d8275582fc2df67c7ace53dbc81cf3471f3e8884e1dd234748af0946de606e9e88659bee81c6e2fdd2a5e69ad80000000000000000000000000000000, 0x8f24b2104cd0654543c5496316a14dacf55a1af0acae4fff9b7692811afd4b3c7c96801d33787491f19347277e5c751ac2df719d85420041ce1f3c98f22ae14ee63a9a43843d806ad795bb890faeb0bfbff7f4ce791854f757f156442fe4226e2af7db2053e9f878fb684f6aeffdbad700b, 0x970d43ae31f11fe78010b7c827a1c4a4f43e85bf5d0d997190d26d645ecef5ca4ac3ff853aa6ebcbd3df871020f5d8ee132cea02c31f2ab266876eabdaa038e44a9421ac5683bc5f3f51f7a478313b69a878f0087e9d77354c9f815fd09a0f89a00281b7c9508ae1c87731a5f055605553e, 0x2119a15653b2c42d926717ad1094d79afa8eb79849c6c2486e4cc1c1d6d2c27d99e8bf74f0a89c1b10d9257dfd16577481e133783575f974c6d7358c967303c18e7932c01e3de17a936e5752974d76a340a24a774be70120e3396865a192515cab00c6856f57b5fae5eff693f38927a, 0x7cbb6c7674a67bb9b436e09133c27a0e57aa720af3ebd01581cebf0c55aaa5f7f6720251669391bd940a7bfa9313e397a19710f5f41fd315858002920e626d9c59105eded4d452d61ce3621c57b15c6f2ed5e2a47d8d7d0b99c800000000000000000000000000000000000000, 0x4c4b2263c1cad22a446e72155627d33084bd44906e74347bbdef85dacc7437f2cfe8bf9786352217ffa53b5dd9a304991edb6fcc971674c640238df4dd287d1ea96766c566cafb60363dfea126d692ad05b12087636cec6fd891aba7d15c1f54d1b1a49fa56b839bee2dd257ababc80c9, 0xa431c35e29ebebef0c58a739f0181695beaa49b17f66c5d58467517043c099139834b332f6972fca94429ece6788bd9c064a1ebf61489888d90d9b95b861f10a02cd51a3a3f09810a74143ed1b57099bf14496e8f7800774ee3b3405b0d80b918bcf8d153b766702d921ccab060039ae3a0, 0x118e0fee4e87e5024a5d066faddf762c00e2daeab4fe59467e033883612a270bae5195df6c8a6cc963b20afba55e9b956bfa140226bb7aeec77a02f59c61b51bf55001686a7104ab3f91629f72b11bd60e9b07ca1062ae1fd1b063e7ba17734a528dddb8b07144b6345711707f3e0, 0x118fbfb4959891b26d53119d40faee781deaf8a251eb8599e40704816b9d1065d0e9b0a50fbd3439fe03bbd1a0f5c5ce82eb27c1662c4f53a7fb101fe882d2fe2842ff1a0440650e426c7fd638f436830aaf2c72c19f2d4e769feee397ae8eea0467c6e34ae1f15b1b687093e48151c4a0, 0xaad2d569b2b89902173e081357f12490c67bd4df1bff7ba55e77b34f71ec1dc115f7ea846fc622236b28747c186d99ae5251ceaa5e1eaafaccc43deeb671ef4e5731e0407aea15ec32c8696cbb2428e45a1296288bb81283dfe8f1e6e9265fa44757a6a10ae2a3f8db3eedef14e5400000a, 0xad3234e44b1a5f8ffaa061736b74258924b8817ca0710dff5a6829f2b4e201a6c82103673b14804d20ae9582a572d111f6ed8dfb14b83c555c5c764051c8391866cac3d92c82171fe3125e837fd0548387b1ef7632dab60446e5dbe3e5325b4954e78af5094c0b025c5f30e2ba3362c00d8, 0x15a121f001916dc44206246c7fe6f7c0f1a4b8e0e6a16efa5e70a78932616fc1329139b6ada2f720d2442b45a64c06f113feb378d7fb4e2a36cd5aff95dce49e767283d1cae59e89677bcc0c45da082fb9ec00, 0xb0d3213cb94bee92e2eeada9a0f33b46242c3a538baccb70bb0e96ba86b9360258bdafb35112c69fa4e40beaa963e6496fc2d42fe1a9e6eb74bf03c90275bcbfca0733a7a19c718d695ad13f156f1149a045b1e7a60ee278f589ddd0c0ab27f1a7ca0b8dd5382216bd0b9823d3800000000, 0x838cf000e3368b81f8e4c3e84f4ec4c6a919435464a188615a1f10bfeb8a604bed96f3bb4dd37170b7cf28452bc68b23435062b8560994829545f9d75adb0ccc423035f88080204ab245d4f7dff6a1812f7840078f77f3e3fd7b66e6b95c296872c38c5aa36368b1d17e041485c001dc00, 0x3b8bcfe9f4ea990abd21eaddcc8e7db6a830d89eacb46d413282a087276f803888d681e4d86f68aed749b5e431b427db8df37c4ea440ecbdc239edb9718f54eca03b28ceeffe3785bebcb4898c7593ac8aa25a1836d0d284090f24559f201dbfd4496919de78a4f244a5b3505ff50000, 0xd2999238dcabd7ad9e30dd874af2e4f7e762f984b9cb0f6b81aaa9c49e2f4a1d8845096b94a0f6e3dc243ccc95bc45f5c8fde3f65f5707d0ab57b510478c54eca09b2cbb0942813457f1847fcb65d90a803c119d613de29236b5115205d52d3c0683e09e2a6b9a5b350002f0c89, 0x8e76f1f9496fcdfd590e1da417911d1a2d25d4a33ec2de15120c2ac4e73bf86152e33e73baa15db49879813fe733c99c94f2ffbce14b7c3a40bc87b171c3804c8ce03b8b818c6dce6154fc18d95dd8f4583d2a42aa6f66c976e9591c53e50e5b8974cc8808746f5165cb333940, 0xb8449ccd7b2bc6627a45558840972d11d480a24f12fc75633949b230c11bde655a3b9784c620aa74ea2240cfd139158056d5384a0acaa6997fc2690e20cc067cd9b4fd11ad27fe75681fe70f9828bc2f3b4bb1d2af4b3bac7355bd1992f0dbbbc65d79e3e54fd24dcb5dbf81fd11471ebc7, 0x56ed3e7af29bc19cd9ffd77c30dff7c054ec9d96d3caf6ca1fd138b6caf98e1f1a20f36280f62172800124465999e053ee9ce3c0c56cb121272fcb08b79c7de1720f6136248458ba6b4b3201d91e615b27de9fc5bf0639f8fda9c3638acfa6af5119c8bcb47cf409effdc11e0103b5689, 0x1d58d26972101a87f984d73a6d84e271a4958137875a2f331cad646e8a3910fa176aa80b099632678d3418ad33a80da7670cf379cba339c9dc9b4716836bc0966b16dadf545cd8cf006f6b40ab36488eb3e2606f6573cf2dc994ba07563f913eaad3bddb2db2829138117e653c74eac8a, 0x580a8aa67e73490c655fc536d682117e7844b8346386faadaf03ae99ed74e60bb24ae9ded97ef5c31118f9b1b23adf4321f3e0e03e4595a5d79fae4ede3ca9958cfd69fd1f775e5e5b79aaaa4aae4c0b3a29ba534e062836f5a4a79edaf1a69528552e4852f26d74b3fb66f27a5f15e0e, 0x3e22d4e4ad1858074e919196cbfebd1cac12b97a104fb2786d3e818a266afad0b4d6c55ab8dd40e8b413959531cbd9028b36d7ecd8b305f4e415643bcc01210801f4b1ced65cf3bc35a60fd6cb831f6c58eaf663418a036832bab2ba7ff9f70b9efaa9cd6d021c4b0eb4736416f18000, 0x3bc988b0be7ec42297fd240badbde1a335ef5d0e40fb0ec6789d4afafe3478a06978d4451e173ec437780f40a9c284c9365b15449696436cbf0fcb033988e228a7a135137f7afef66bd505ff50000, 0x2bb42825aff655443e991e2b03e4d4080b8f89ad059715aecb0dd6d4bf6b9607dfd3322142e0bba3882b574cda28fd8f4ce906dfbb6f6a1672584918a3b70d4bd7bd174148bbf6adc34065b5c93522aec54be112fe05a4242b6e1ee11b9f3f554d2a34f3b048c96000013e9bc08e800, 0x3b6fd7848c478043ffd5f4b7251a18648a555a1402f874963f782d93453d0d2d4921cc2be6aacc322b80f0113a89b531d96b7da8f3fbd555db8ed48dae7cba65811f98bed81544f713168eac0cf7dcc01f9269314559625df3350ef1b1048f2d4dad6cd323ec1bc70ea03106fae69340, 0xcd9ef77cc9ff0aaad1b721a21587ea2a69876ae255d5837424fc55b89fb194a7c941280301d08c4437f2fe3ea5514dddcd717e3f5bab87115b8d9adc4d9710e934b6dfcbf17b96780706b2b939bad6721562ab66e6c8d223d78a73cca9ae7a9d17cc236250284b6ee259eb339962554b729, 0xbf08d51206668adc42b6634ca753bd6c27f1703ad64197bb2eb84318ac75461469fcb9885b915c7ab76aba860bed68ca8b5318a863d7d2e0cd428349dfa88a9009e06d2b54023e76a1c01ddc756543538f18165ed657b5f33ed775ed1a198bd3febb42e467fcbb90a4c247a8b6c0883ee8e, 0xd5ed24c85cf8dd2a8dfc45f402f8caf3a0a370da4dfff62a6ba458f2fdaf9b53e99f7c24813cc443e1dd7cff964ff6f8c20065e54169e0a59b969c9b08f786afd49eb07ca9ef55a6f0bfae458313cb2333815d3ced888db3d24e38459b728b7094371cc221fb53340a225557547e0de8240, 0xd4bd15a14dbf81c370ac0234a7a4c9d549b311cb820ebef4255eabc5b3c23d9d0651ca43f040378c26998cf18206f69c2a8544614bd0da759000e7ee7b4b1bd020568e9f97f80ce8bdbbef22abf7f49ce69d5abd924da469fdf3048270d2e6ada55c437d1bfa91501a93a3aae1380023ecf, 0xdaa9d861dadff5170bed8faa0addd0d0f20f9cc0dd8c5e19026063a8f15a8968b4f359018ce10097191c32fb876e19fad8cb79250f7dd446e0fa45e643976b496d2aec72b4849b0099d5157aa3b1acb1ac054b481fb18ad1f214b51b12f6f47272257c20df2719db45cb479e97a237ccbe7, 0x31099af1b12ac8cd39cb846e7ed3a35871142df314325ca888d949aa3b4d67cec528b7c1d811291a5de0f8c32b649d2d798ee9e60b932ccacfda5932abca73af2ef796b16f4cab1659e0c5aec623db8e59db352870582a11dbe8fc041f8407734716c0f852998020249b9049047a0a0, 0xaa56b4f8976a93a2cb3b1aa589be84a4d96cbc13bf483a5a0597ed0776b56f8a681ca21b9cdc8ccd0a29369ee36ffd8d2eba22ec9513f2904eb87da08efc554ce5796fb9d85eb9aa94f5716fcd22ce1a6716b0c671418a1519ac72ddcaf9eaf8e29468c428efcd43a34e1e5114, 0xd5875b90f44140cc8237a036323c18abfece3eb4feec4d6fc010b2972e4da3befd356f86ef1621a99bbb4d53d19266c897e8404a49f94b539ea8e34fef6a79fc0864b36fe3c70f07ce60d0c298cad7efe4583566658e2a6c751ea0b48b5a6c71717cc6012c998a7c88858d6e54b85ff5740, 0xa425037e731cb132db2a00d6ade172c3d5986d9849c9c5da2ff744336580258b0308e17586e6441ad75817eb9b6065e44da6d0bdaf789e7d14c944b7c0c588e1e2d392ecea6682bbbaff92908e2c7439d4bfc7f846c60e6a32838a8b9f1d4f9775f556c169d400cfa99fdd47a0, 0xa7921d06a4fca166629dd2797def9b36dcbe92e4d64783f6b2fecc02ba9cd61970331e58699e97d58e50fbd6469ac7a5783944ffd66b8e3be120837b6f1d9e082e0b4b0053fbbf25d88b6e04fecf86bf84557fc09e01e15262c65583314a6debd211f9bafa6dcd20f2e2c36962, 0x1636326bff46ab7b618bb39643112bea7d218af9fc3ba9cc2329bffcb8803f1d86bb354e426b40866c46fbb910add92c577bc4872dd323f9f78674b6974a6f1faf69bd169af196d9e0c5010ee488233045729015698858bc7b088518ccb573e6bdcd4a1f09bcca21247ac64e0010e, 0xe81549daf5cd1afe8c6945d82dc9cb07c01052bbaa780a8e3292327a19c4579e563a36885417b4d74ebcd9d321fba2da0482a1e2561eb706b247e0cd12bfe39aef4b4ab7319e3477932f9cb9e2e973bee9fae656969c377c0e7cdeb4e556d44306c96f5d7ed3437e5021cb55af61c00010e, 0xea17704e8517c61ccfd4448104fb444fa2383fc0ceea664b7fb6645097efbfaf77933bec688d713e3b0a8d23647d9aa062acf22c73dc5386ac3e4f264395169eeed476caeb8c9fc13d7eb8fc70395c6f694b892508b4bb529b9efff355673a47791a643792958274e159479e97004c5a9e6, 0x349e895d93373c489aa2e73dbf275ecff0568452a104dbb76aa8e1680022fc17f0c396dd6f6362f6a2f354becb1f9f5f1335142f7d43f3162b144e03c2569d9554af39f89fe445eeaff41ec80ba280a2355fbbd520f0fe91e42840d5384cc5f8ad4f22f730b68f46c0938410b90012a, 0x6fd0e33e4014b21d710efc690e82e09afec7e55e71331662fbfdaaa9e26976fe6ae83bc42532a06407d745bffb85c1ca901099ff0ba445a963070188c13776faaa2865594f046cd8e1252fa8db356556991cc6b5d08b5be92d2779120a490ca0fe1ed87ac71650f1d3754ee1380023eed, 0x2f332b257c258713bad3b84b7b05465296d4d96ce43c3c5ec67f29320546737deb2d5ed6897edeebed28246505b729e8187df471ce8c24068da855c048352ca1ebee5cab52970c229c07f2a5963ca72e01463516189857e6d3e461501a7b189f8c04e70f6c01e159479e97004c5b7a0, 0xed9bb4a9990386f80d17f0e989fe69239b6524e6ec6277e988855f4e9befec6a7bebceb6bdbbb8ff66091966db1ba7955c77206f8b3d093ffea880ecb4f332465925a752c7ba91665b77a054d847c5e89c34690e8a403b71d312f82c81dc1cb3237f74d19fef2b55b02e4b825770d9575c0, 0x349e890e3c45f977444349b4c88f32604adcf96af6d956ef84fae728b968879cebc43cf4c8f61a4c8693d0750eabdb149f267b1ec340c7e632a9d49e44aaf98224a855f6f469d4476863555a91e61936e985f2c1ae5fb2c8153fc080f5c805f16886fc760355cbbd1837342dc00010e, 0xa73db7e1dc6a587348e66b58ed5c0c794a38416355ceba6d990769d1de872a32d0be52343e0ad76aaf61c977305a4a6f97206fb2aa6d77a535587a9826f5b41d99505540ad888c1e59f5cfb67d633c45d4628840b74a8dc2f3cda66d0840ed87ac71650f1d3754ee1380023eed, 0xf580c58e815ac421c220f031e6444bda5fe7c93acc1f14a6de60f6f62c3a5fcccd468645cc42a32f7137d5afae840510d79282a90ea3c9fcccd6f6cc2c42073cd4889362539287b689eb1e2da644ec1f92a8a20c607deb4e8c4b3bc014f1d0fe72b5d5242224f4b162c9b8a7f2d40023cae, 0xfab30c4492b41306495de90fe63ea36c6930cae4e1192c6ce9858a3611eb8950e4660cb73d93ebe135bdb1c62d9ce38d82e3b0afab39d15b72525a57ecf44112246c46f1d304a41e1b457abb8b7618afd7fbf60ae48e11c842999858a4f5d6609897939512cb2ffa86887ddae504b327217, 0xd8b15c3f1da00cd7187c67b4d4802042c279e9a61dafdfc9eb15c338ccf1d1ce1973a5f7dda2bd73df961513ad178cef86da267e361b4a76c722b978ad18b736d6ca88cd35f9c33d6745d74b4c97b87b6b879a93e732db91316fbac9b89efd1f2745c8b0234df14995a8c16cef301a921a0, 0x3dafb09f11d02c36a30ec296caaa1e737bf9a1ddbdac853c1c0ba579714fa61a78e523294398164053f782b952a7e7b2ecee9122fbebd419e2783c9f9f56eed462bae4563f97d9c9eb910a4e7b35b6de5585a9ba8b6d5c818622520df9f9e251b2cc642fce80319d1a194d109e8fc474912, 0x1afbb31c353984ff9bdddfc99a132eff27d0b00df64be5ef548f17449e032324edbc8ebe19a131f7f9771891856109c8c548fad6bca907d5bc2de47b58ce92a0b3be5bddbf088967b7d07e32ea3c0bd3a1200000000000000000000000000002a2c8bd3952a90bd782857cc000145, 0x3956dc9bf11a3a9f2b377b8c6768c12a57a1a5765f311e8b695694ed48cfe74a7e56abd5d822015b0179568ffaf0ee9e30a834ba626d9c8744019a5d4a96159c38af9d30b54169dc4a0868b6e3fe4defae1dbc9c5fd57f014e1deafe70d99e862141c171068f96fa89511068a001d48, 0xfc9b8be41c69a445e6745299079cde53e9069de10184de4c35325915a805978f04ae9cebbd0d71f0164e5191b4e3337969d75aeacdab62832141d09a6973a93050ee35cecb3ff6501c767b607bbeb826de94df89912e74155f9c068aed58b7b21f78b50f74d83e6cae078ad2dc4803e3900, 0xf6237c7f35dc6121c0b863bc6a62df297d78eac7b655149a0ccc3fde05500add369b0935510739926b8cda6187ec5016a55eff198305fc9ba852da584d2cb66d1caa7b3f8d4b2dbff075f9642c678ebcfa16d2f5c7f14f4e29ec2e57fdd7314511f5962e9a5fe10026d92f82592800, 0x3db905fbed42cc3e887c7498b48c5fe8f8d143610cc77270b45cd6b7d3444a24f1f7bb5fb99d39850549e35aa237d53d1316af414be4b3b52218f0003b2f1a208a6c5ff1865609d31df222010bf9bd226fed602fe1b00, 0x7d305dfc33971a629d6ff8be8120d7e34f4869a92812607cec69171730d5c26815a24a93595da24fc231095cbdbbac59b0cfa7cffa60ddaa01573325826d06128835e2792633f7de96d526c879794478e06c43f2d29fe7b7ee26f5178ec9831a8a99771fd2e53af2aecdc200000000000, 0x7d305def27bc2fb3d3d925c7990fe3bc2b65964b1d3fb64dc0142d3e5979af008b931180434521f2a61456842d0d995537d008c2721d5ce8ddd9b2978da89800d90f38263e45ca72bdc0c9cd797a91890096478e3ee912a500b4c545ed48d4746404f4903ef5deb57824ed92bb9100151, 0x3a1ad6056855155e22f8199e218841ec642c3a30c6af99f89e4634d019df997601b11ac1fdd5b3350bd347f66e8046d399096f6ae48da77954778b94a2501680668421d6b34539c3c919caf9a2134e344814d4b80d4e14a1c34c20, 0x10dae076f36c5498d4ae9f756b2915adb543bfcfe44ba01216f78b9e89024d1d5f92f58a1459bdd7e7f64852f3187c32ed4a221f5d77342d4c3898d03ca9ac778f286b47176d870f990f2cc9050580c577199f097ea923130b4d1d2247077c172700034522544b78c66c0000000000000000, 0x12f56497316d5704e90f5e2efb22158a39bf4a81ba40acad9cab367ee0fda575dd73eb81da980b5a42400475ed42c8e7c10f695dd4f96342157372757634482da414d216f4322f8d5fda31732ad9e9eb4782d87ebcb44888ce777d40e778425e8087a3f526feaad011a99ae27b0060b3237, 0x111a2511d8365b050a4bc7db1f3538f9831690d53923ec94019b1f36c152a7e1b207f104400390f41e8bf4a9a78a9805a1ce3f2771939dcae67a805439303d70964db9af8ffae993a719fc3772d1112989560cdefec0000000000000000000000000000000000052fc376c573cb872901318, 0x3b6fd7848c477f9ebfe6192d394de7cadda4dbe91c8ef7ce9551c066e021df7ac731daf0deeb5ad52503ca5d15823d6101d1856fdffd0941f53c54b86fc672686b6e729ebdb1d31f272a052a12170944b0339a95de706777b01a2d43561022f66d90c79b3a2a2bd03db7050425f0e9d7, 0x3b6fd784895ec008d7e35056fdb4d5f6ebbab1b11b2193995b2f0b08f631d4994b164994fc3a66433095dd3cd7ceb43e37b10299ee96a9b2b1ceb21d555e6f09da7c821af1c57a72ee01ad450ea50362654d9e62fc64f1d24c93439c307456ee04c4ffd5af53dffc5cc220e7fe850000, 0x6af08862d74ebc0faf902ddb55d3b93d63959ae9a7ef682e7846ab225b9b98225ab8fcce59fab229c3dafcf749883c1954eb3df41e7101cae41de5449246fbd1f7c7c400631d0a100b30713acc6b04b63d502c77a1074091896076469faeb78804e76c6445e1af23fa12222800, 0x7abcda8312ce46ef4035b7d7c930f5fdc1cf5d2908c7870823ca21932b564941f13811b85f8a87d61b23e20670e4055355fcc6da41609d8f4ef5f13662457e81698d4be5caeccab1add375730f1666fb5f52be27e4d46fc3af5ab0fb5b1d7b8b12208551dd6ca54d32e59e6812c000ac, 0x841e37c6e4acfae15d02d10508cb3cb93d6f81f931d4c2ccc7882cb38be178ecd1e85956d1cbeb8d1c1fc1954a00beb9d443632ef190ea3fe30ded19effca75151cf566213fcf997e7284bae304f56c69671cccff08d8bd4b8b1dc00a3142df215008ff33470e82ba2dd17aa0bfea0000, 0x7e4dc5f20954b3dc4444c0265f052de3b6e387054e1dd8d7f2bc8181ad1f37591115d0d2a55d1aaf8be31c42e78092f64e3e5a2c7232821e7f08812c978c2fe02427dc6e9ba9c5b508f6a21855e85805996df50f6cb501f512f93993f954369a343d35067c2301356e1fb9c0c30b671403, 0x9eab2a54d747aae2c913134d633403e41af5d87fc0986fcf7364121a0dd09e01c4abd083f6d9cad370a8fc605f270b66546aeba6d231e378b9dc5add7d5a45d662799c24137cdce44c465b5528e6a6e44aec1ef306a2786b6604e8ef4b43fb56c3a3eb24c16a5aa78377f92645c51f50000, 0x11e8d3f7d2cdc739a6bd69ce938991a6d2a2f020601b8c6cd4543649d3294d3041b23f3162e97ef20de162227bfe1b482a4ba3c9aeccb51b1a23597781b7de245e2e9a34de7655f1d9fbed7615c2e7ad2461ed49bced0bd4f0741fe12cfdd3f64c1cc48ef17f8f134f150bee5c4db78720c9, 0x8738284d7984b9e5ea02c8f1e3b1372ba034e6dd6d5d296dfc4e41d5efce4671216dd9e5c1800d5faae3606b20d50c50db73b9196300e94dc807a6cf0d8457947b16ae3e63da217332e640130c28deb4a5d390b14a726f50f4a5abd8305ef51855de070ace836c66e2530f873fa57af60, 0x2a814505071f0aeaa34b6bf0f2909d537dfed5832a5215d825d5174e9d44a6f468bb391e293f3222cea29f133eb826dede6d3fc657e4150709be80eaf1ec7eb240318b5f95adc872ca960254f94, 0x12a2680562b482d723808f1e7b807a35e59807297a60fa2357a003919c3bdf5ae5faf4cd341bdaa93f88a9859d543d26d15967c06a0bb37b13f6b006af13b4762e9b6979363ba74bdb5bc4e5f3ee75266b97b93e1d6bf2840cd22694b9f581b6c822b2b0744b69bd91433580000e2b302340, 0x8c0c72f799417e800710fbd2fb6d6f053abdcf4237875e10fe56945839733e1935b6adb740f6845d43cf48db419d984fe6715e69dd2e6bfcf516b3594c14ea0bdf315132667850260b62f0cb3398ff23731ceee27899f09cae97359b3fc9248eaa0e82dad2f2a358684b88d4e800324bb, 0x8ad141d7a42ce21f72d77bbe3fcad7b387ebd8ff9c2b2a4e22683d257301ae9d7bd0fe6ac0500cede10925d765ef559bb74a08a21da78333ad11f6aca039ab8647ae552bda659c44e07ec0ee13a0bb9a1a1f1cef338698618abf374a3404f611fffcde60ccf75fd231543225e053598a0, 0x1f18acfd970fb04c7b6af2e8820e47accc97ce16972c973db9ea0ef436395aaa80e710a036f48722a443ffcb87cf14038fb982bf95ec81d239b2d4b7432b125b016d198655372b621c7a7990ee531baa655c7da0f91e0d91831134bce49e14bb07fb49e72a3015102a081ba845575, 0x12e1ac924b4928d3538648064aa7cdb788dff7c657268f503e0713566742525886b7aab3c26f818eced428bc367d4fc232710cf12d6c3e4cc3b56006f1dca802572be46425376a7165d24bc72ed9f108ede348f610f6e516186ce4b7f92b18feed70c525d78b979db6f040c2381d1f87a4ba, 0x93012949949fc86d62637ed55f8ce45f0a1a316adedd6b9662379b8f0e69d9326530f12ea1cf4dbb2d3bc8d6ed5eb1ee56bbb4e62e00fd639956f4df09b996fd735d3c8608a6fe73a528d34f751ea9e2d26b87c9b112b3e25813c8f82c1a7bb305a35111d946b982e35363f7cd9f737c0, 0x12af0b36489282784b64de04bdfaf7ec166293721d0a0e69deefb3f80a928339309d94da4aceb09cc20296339437fce7de4d1a85022fd467d86cca59f17db83347ba8d902cd1574d20057323eda9e2701f884e5150723ed4f0b00ee832c4fb4d6dd9a3fcb22ae214509e364446d006ae2f60, 0x13b8c4bb59c99e010b15f3fe8d175039d20f84a82459d19182560f394e95a76229d8257b5826313fc52ba421848ac6905962ffb99f631afff38be9e63745d04aea233f2001817a86b382b22832145aac5928af56013b3d23d82a117edebd1166ba3bc357231a8663e32d4730fccb0b532120, 0x8e2ab90236db8dbeb1203c6b9b860ced70035b0ccf75c315ffc6af1468e440d1614b74d666cb6ba03d934a285814952c8ee6e8a2fa2dd4d588fa9c485f692a706887b282fa0a7b6433f7c0e14b24b7d67a1d141315322faddeafb2eaf8b7a2288f6442e35db30a853af0a14596aac8d6f, 0x96141f86a765eba3242a66e7aa60ab2ec0787b2815060bfc40ebad6a26f430f32f7a8f629b4e6e6276dfaf08e1f6c94d29cd97ef0be32e6b479b3c3b8d838774ee83fb8bd34b6978d3bddae865cb48ad2ac7722968d785ef16a8bec175b2cd2ea06b700a09bff6bf9cf57de0dcf787bde, 0x13eeac197df1f230162d26e679532211a9a28f3e739130230c5e5f14cb04d6081aa929cd047d4880e8df64fd7a5ef3635dda9e0de921da8cffdaf38c282278ef864dd2524aeda81a0f80f1b46fee1331c4c435306f86eb91738cd5c2414bb62973f33b4041f1074fc09e364446d006ae4280, 0x8c6b6d291e22d82f179575e2e87e6c0d2edc4e4887818200277480ead52979a9f1f996a5ba0f73b3a77aea88debc9512818a49fb422644a3be6a364888d9e9a71be3fd9deeb68201cd709f6fa5e83e7cc06510b35a3c7a8f3b975009b1981c345e88c202f8979503351167a0e324d5000, 0x145d43c3613446fb1dae593fd5ccbd31723ccfa1f4477ae5f6a6ce9d26fa81c1551096f305417fc52ca04ffbfbc0f827c33742e3fb1c545d3cd9db225aee2323dc9bc4fa064982bf4655672103a15338029c754d1a8dd54c65d800bb44a55df7ed00c6c50266dc246c25ddaa215043d7e800, 0x8cac4854509f082ce6314a81920a66f8dc52f5ee9c23304915e9e3245407378d06774b1bf66367ada054a8e328c9512b381a2272300c723c87fcbd3d08621c24ab2b970bc2bb5af6964affce6a9d2b73f9caad9ea192d866f5b32c72f08ba16a89396f035db30a85da4ce7d45fe75dd1c, 0x3b63f6512a8f2db851a101e3830a69764101a4e2bf1ea9c09c3881cf455bd953817cc7cab9bf1e1495e11835d45cac683a11dbd9cb627fcb6b9ccad5b3f2d7a73be61af7ea8734e90b8ea12b069490bc008cb6cce53f9aab09c71a97ad8adc7d9c5eec5f78ae2b458e343ec0de2b2d0000, 0x14b5dad86ef1a99b33d1c918755c1a761c3329e74baca42f1bc185a64c4087ed86ef4e31eb2fd748ac8d4272d352c1eca0f897692bdc6e3da70cec3fa515b3d3fbb14de4150808420705ce5108a76f1bb840e55318037151c3f9780b5907ba444fba3d169df575d7b7a27a4850c40344b6fd, 0xb38d4f7fe85ff39b94e8cb3df2ddc6eceb7bd66e3b055876e2c4f5c7a433b2ccd77bcd869bda8faa8fdbf13b1301b62db49b96ac25d50179ca34ef7f0de4d24db39dab13d3c86574840f082284b6e25a165dd718b7b7996ab1c1c9400000000000000000000000000000000000fab120660, 0x3b6fd7848c478043ffd5f4b7251a18649101011f2cba30f0eb1ac0a7917dca1c255ab49281662d5971c85c958190ea690a4ac5da2d334663bdcdd60133a907110d05f1e49c3b88a0c97d3aae060173b420f7af73d3453ec7729446f2d23e04ec3bcd7223a5e3554dd2ef46aac1a6e923, 0x4bd5823caa5b4e013a29130849a87512420fb8524ac2673b3d8c3d902b504f0982197aeb8a4c425f37f5d5727d68fd1f9de68f8c00d99408a02ed1cf4b78776a2086c7e999c46703916c295e63330f9b8371d7cd57517dd1e53df7e79ad50d3db1d61f8aaee31f6801d0ad940dab729, 0x1580509d97c7d8139918ca694520ccca7d22e2471757ac424e91392c4c3bb625862868607e59ee90730392930a0c5fb78ecb368d155b39158be1212cc824e47a3531e50ca0521a30b6c65808618e4516aeeccbebe3b3aa2e18b212e54d1004ef487fcc07c971f3c533523696000007a259d1, 0xa3c0a006d7530bc2c433e2a67444f04f5fb2fefcc552e369639b08ee9cfcd83a05d492e53659d4810dc8f6499bfe637ed40ca681af9e97c3ec27fc35822424ef6cd919d3cf2da87d241a4fcc4a918cd9b4bb806ea20265f5dcee93722315cbf8e99d484b7640146f707f9a0f9fbf9b633, 0x12fafb44a301ed780df699a3c1b049c567ace9c6aee49d06b635b5c8a73f78b3580639c0bc0667168b939f78508810e11af3f19fc3c55fde61bb6259bf05d848e586619b1e4f3125fe5f52ee2116f773e3cdceb9107f7dcdcc542b83e457bc9e8616266c36cc913a2a6b9a5b3500030cf00, 0x3b420be0862a2e0d1dac7380b2c50505b667f8221c9f3fd9d1ba8e7a184316a289891f224a097e2c1d4c100a490a490bcda18c75d63f79dc55dab097382970bc9cd3a740d27d85a188b8dfe9b38354d8697295410bdf2995b21cf3b537dc2a2a1657b4ddb540dc6e7ee018, 0x6f8b30b0aa3097451bbb4ea3c643a42e7bb3926b4c5b0b5d3683b29a43862ced160000000]
noncomputable def x9 : List Nat := unp [] [0x4b20b96b1fe36277d5c212e4d45032b5315b77b549d8fab47bb0961f8c4bb30f3d4d4d3123851b1ce015853e24ccaa848de541e7d65aa443a6c19cefbf567d6679f2b6c1f13152b917c4e57ac92c11b327330a5d7bf2b0e7f81fde000000000000000000000000000000000000000000221, 0x2467bc110ebbb71c8525bef5a61113142effe5c9d64daa6f913ae6f241c6d949a1e47cc66f6d243c5eda0af2601900a323125a229f2bd5a6c296bb92d82cb37710a9d2e372b4f4c82db358b3eff4ffed5a0b2351080b170c77dc06c8bbb8ea9800bd3f0d449d602797e7709678000c81f, 0x4cb662356831b2b691fb8df18d8c1a0df7a4dfeeb103d9d2cb15aea1d6d95dc282b423ed5b88b9712873cab09a0ef127dfd0e083ad9a7ce7feaeb878aefd5a13ecabedb2822006cb17a06cc4685949ce945e5bc8b0dfa2ef6ef0ff7b611d68e3120cdd7dd77eda0b5ca1d63189800000000, 0x3feb02e00f5d812d99089dd6feb21a274d1422b0522bc29cc8c88edff983fa4c5dbfddfade4ff9d5be918236b40dc9cce8f3f0e086ce74eb6bbe8348e09d5e549d2dd76533df29f5eae000000000000000000000f35764405274876a3eb409f67f74ba59ba942fd8c88000d0a3, 0x133ac9fc1a392fc1de1a696f16328229b82855ad9e581df5d8c7ec07409d3c773c390458302e30be32e651df0f6812370e96073c102866b345be5a72c04a5f0532432eb8000000042eb4a4c915d99d5084c6ce90e6fc3ea571f233b238dacdcf6a01eb232e4c6a251dc4f110a5b8067, 0x489b01be67add0e565f0cee05042a4b3e28c522bba883f8626790d2fc731f7b15414997954da1e29e8542814f1817edfa503da97a05419ab7484a9a1609e4146d9082c0379f5ea361109cb8ace33dadce2f9b658a46016fe293eff1e1cff084fa7fcc2ee99a00764776abf69c0, 0x604e6b34c4e5743afaef1350c0844852e872e99bda18a5a8067985197836a0c8bef816e80abed257578a32367f97d87cab380ef89eca65834886ea0d722e4ecc267b5f48410afa000000006b678656f50a74a0100c429a957d57e1485a456360eec015f4bd935a40ccaf8dc6db26cb28075, 0x30027f95454dec98b1cf4c11400f2d39cbda08fa8315922425cf392a283ad384dbb93bf3e5913683826f0c640068cb8e33a24a5988caac226cef882d34521385c1e52c5193aa78431ee60b0a0e9c2c6191c6e4129edde7fd0685871ec33cb5c147a6c1036de34d2d558f65088f4e7e520, 0x836103e437df9e0a40e2ac0b0f4fc828eb0dc101306043199f2e9798e816f49980e1cfabf7f3905c9bcd1f1812a8a6358a4fb593530d9069d5438484aa09f788719c788e0d7b8d64300fd15d88000, 0x437c3040d0bb764081f9240e7ad457507bb1399282192279cba73226eb13f51c831aa5294b3f32f27b971691054b1a60f4f569cc3e1ac998866dcf21265af3a2924d0bafd3f67c29c628cfcdb69b636f3d73a24030ea95b728800000, 0x7116aff856ed8be0ecb6c806493cfe24e0f6f0c1fa7074b125187952b35470b5dc2152480a961c7fac24058be317bb795a1e085df5f17ee77226c3253163b30a15b880292d447ef7a71904dd666077d4ed49656b8bcf78c7b5a565c353f50bb92dac6fbf09724dd70000000000000000000, 0x369b8e0775759134e4331f0cf3e6d814059094a25bd7eb7623849bd54d591e49fb77a2f7d358b2a830a27b2ea94c8972cea72fba3abf3cdd8ae6797ce8a6b18bdbee86001618e4341a51c5443090368eaf5f232af9c77de9b23f9b499dea75e32f5808cb02a7e5f1b121f96f1dc00008e, 0x77fcfb138eea4da3c3c0bb5a32458c3501886f6582d0001cd99f5c6525593c6062fbaff91772d8f8b702f2469ef64798916af4a57ab6e76ee2a8b50faf015679d8420a301c652076970d61ea49779fa19ee98c83446e1b5a3c2a5704ff75358789f50541b7b3bc7d316611c4299f5300093, 0x39f372213bf8e9dbe63d683290f97162070efffc1f20ca2ee0b44cf8f2036ba51b6ce9d163a692f0d89e2df5d17397382f973fbfa9a40500e2744a2d23ad7d2e7fcbd793688ee00000000041cb19b15f938e794a3c10bf03e91d2ce5d05551bc5adef2be057e03d498048a41b6c2e6000, 0xa8596fa4138648bfe07b80f1998c0979853eb03afdcc617bc2482104a59b55419abf71e2640595f0897e1fa3f0271d16169d70187e1a9bf36d5b79d1468e99539834cb30b86aa28b093f628a20f9087ed353192ffb20554d292e9da262664a8454f388a7419fb13b5fb, 0x1b9d85c8d6cd64e5cc300307e126bf769009aa50099f4d306347a64a652ebb429a5399d253587985230a27ecc5e12b53c0e35830caa2df949348064d95287b136000f0e27bdbe82886555ff2c0ddab5c47abd823cf05475f81b124d248b00566e272897ed24, 0x86fcb8876dcb49dd54a4ef6234fa23a177c0f5b3259db448d6c008dc908c6f1bc52ce8579a26ccef0f0a941e1cdfdfc1484345d836d8275582fc2df67c7ace53dbc81cf3471f3e8884e1dd234748af0946de606e9e88659bee81c6e2fdd2a5e69ad80000000000000000000000000000000, 0x8f24b2104cd0654543c8b05a85699d8080f8b0747d74f1b4daccbfda67884eaf565d8a84a6c7f86c1d2a644771ee24e315227a242dbc94027390a65ec949092e933a8fbd0146f3410906337eba93929681d93ba4f9828f17890ebc495ac0035b5f2f0d9e3668e678fb6877b3a789b48f00b, 0x970d43ae31f11fe780141ebf966a14787fdd1b432dd40329f9aac88258681ac7fe7d78b4cf9d4c2be6e7c83836e2588a3b36af7a1832f29cad8a3e3104036cc47a71dda7135bd20ad184f80cd4de2e50c8a069685cfc6481d309c2f4fae58f89a00281b7c9508c6455e6b193f0556055545, 0x2119a15653b2c42d926717ad1094d79afa8eb79849e10ebfcb96882dcef9196333fa0e321bd4bdc327e96a11363c7ab034f561d724760658f9efd18683a7824531badb16ea77dca89760b2d46c152e84f43ab7543e5b452dad29eb0845df9e51159cc6856f57b5fae5eff693f389281, 0x7cbb6c7674a67bb9b436e09133c27a0e57aa720af3ebd01581cebf0c55aaa5f7f6720251669391bd940a7bfa9313e397a19710f5f41fd315858002920e626d9c59105eded4d452d61ce3621c57b15c6f2ed5e2a47d8d7d0b99c800000000000000000000000000000000000000, 0x4c4b2263c1cad22a446e72155627d33084bd44906e74347bbdef85dacc7437f2cfe8bf9786352217ffa53b5dd9a304991edb6fcc971674c640238df4dd287d1ea96766c566cafb60363dfea126d692ad05b12087636cec6fd891aba7d15c1f54d1b1a49fa56b839bee2dd257ababc80c9, 0xa431c35e29ebebef0c58a739f0181695beaa49b17f66c5d58467517043c099139834b332f6972fca94429ece6788bd9c064a1ebf61489888d90d9b95b861f10a02cd51a3a3f09810a74143ed1b57099bf14496e8f7800774ee3b3405b0d80b918bcf8d153b766702d921ccab060039ae3a0, 0x118e0fee4e87e5024a5d066faddf762c00e2daeab4fe59467e033883612a270bae5195df6c8a6cc963b20afba55e9b956bfa140226bb7aeec77a02f59c61b51bf55001686a7104ab3f91629f72b11bd60e9b07ca1062ae1fd1b063e7ba17734a528dddb8b07144b6345711707f3e0, 0x118fbfb4959891b26d53119d40faee781deaf8a251eb8599e40704816b9d1065d0e9b0a50fbd3439fe03bbd1a0f5c5ce82eb27c1662c4f53a7fb101fe882d2fe2842ff1a0440650e426c7fd638f436830aaf2c72c19f2d4e769feee397ae8eea0467c6e34ae1f15b1b687093e48151c4a0, 0xaad2d569b2b89902173e081357f12490c67bd4df1bff7ba55e77b34f71ec1dc115f7ea846fc622236b28747c186d99ae5251ceaa5e1eaafaccc43deeb671ef4e5731e0407aea15ec32c8696cbb2428e45a1296288bb81283dfe8f1e6e9265fa44757a6a10ae2a3f8db3eedef14e5400000a, 0xad3234e44b1a5f8ffaa061736b74258924b8817ca0710dff5a6829f2b4e201a6c82103673b14804d20ae9582a572d111f6ed8dfb14b83c555c5c764051c8391866cac3d92c82171fe3125e837fd0548387b1ef7632dab60446e5dbe3e5325b4954e78af5094c0b025c5f30e2ba3362c00d8, 0x15a121f001916dc44206246c7fe6f7c0f1a4b8e0e6a16efa5e70a78932616fc1329139b6ada2f720d2442b45a64c06f113feb378d7fb4e2a36cd5aff95dce49e767283d1cae59e89677bcc0c45da082fb9ec00, 0xb0d3213cb94bee92e2eeada9a0f33b46242c3a538baccb70bb0e96ba86b9360258bdafb35112c69fa4e40beaa963e6496fc2d42fe1a9e6eb74bf03c90275bcbfca0733a7a19c718d695ad13f156f1149a045b1e7a60ee278f589ddd0c0ab27f1a7ca0b8dd5382216bd0b9823d3800000000, 0x838cf000e3368b81f8e4c3e84f4ec4c6a919435464a188615a1f10bfeb8a604bed96f3bb4dd37170b7cf28452bc68b23435062b8560994829545f9d75adb0ccc423035f88080204ab245d4f7dff6a1812f7840078f77f3e3fd7b66e6b95c296872c38c5aa36368b1d17e041485c001dc00, 0x3b8bcfe9f4ea990abd21eaddcc8e7db6a830d89eacb46d413282a087276f803888d681e4d86f68aed749b5e431b427db8df37c4ea440ecbdc239edb9718f54eca03b28ceeffe3785bebcb4898c7593ac8aa25a1836d0d284090f24559f201dbfd4496919de78a4f244a5b3505ff50000, 0xd2999238dcabd7ad9e30dd874af2e4f7e762f984b9cb0f6b81aaa9c49e2f4a1d8845096b94a0f6e3dc243ccc95bc45f5c8fde3f65f5707d0ab57b510478c54eca09b2cbb0942813457f1847fcb65d90a803c119d613de29236b5115205d52d3c0683e09e2a6b9a5b350002f0c89, 0x8e76f1f9496fcdfd590e1da417911d1a2d25d4a33ec2de15120c2ac4e73bf86152e33e73baa15db49879813fe733c99c94f2ffbce14b7c3a40bc87b171c3804c8ce03b8b818c6dce6154fc18d95dd8f4583d2a42aa6f66c976e9591c53e50e5b8974cc8808746f5165cb333940, 0xb8449ccd7b2bc6627a45558840972d11d480a24f12fc75633949b230c11bde655a3b9784c620aa74ea2240cfd139158056d5384a0acaa6997fc2690e20cc067cd9b4fd11ad27fe75681fe70f9828bc2f3b4bb1d2af4b3bac7355bd1992f0dbbbc65d79e3e54fd24dcb5dbf81fd11471ebc7, 0x56ed3e7af29bc19cd9ffd77c30dff7c054ec9d96d3caf6ca1fd138b6caf98e1f1a20f36280f62172800124465999e053ee9ce3c0c56cb121272fcb08b79c7de1720f6136248458ba6b4b3201d91e615b27de9fc5bf0639f8fda9c3638acfa6af5119c8bcb47cf409effdc11e0103b5689, 0x1d58d26972101a87f984d73a6d84e271a4958137875a2f331cad646e8a3910fa176aa80b099632678d3418ad33a80da7670cf379cba339c9dc9b4716836bc0966b16dadf545cd8cf006f6b40ab36488eb3e2606f6573cf2dc994ba07563f913eaad3bddb2db2829138117e653c74eac8a, 0x580a8aa67e73490c655fc536d682117e7844b8346386faadaf03ae99ed74e60bb24ae9ded97ef5c31118f9b1b23adf4321f3e0e03e4595a5d79fae4ede3ca9958cfd69fd1f775e5e5b79aaaa4aae4c0b3a29ba534e062836f5a4a79edaf1a69528552e4852f26d74b3fb66f27a5f15e0e, 0x3e22d4e4ad1858074e919196cbfebd1cac12b97a104fb2786d3e818a266afad0b4d6c55ab8dd40e8b413959531cbd9028b36d7ecd8b305f4e415643bcc01210801f4b1ced65cf3bc35a60fd6cb831f6c58eaf663418a036832bab2ba7ff9f70b9efaa9cd6d021c4b0eb4736416f18000, 0x3bc988b0be7ec42297fd240badbde1a335ef5d0e40fb0ec6789d4afafe3478a06978d4451e173ec437780f40a9c284c9365b15449696436cbf0fcb033988e228a7a135137f7afef66bd505ff50000, 0x2bb42825aff655443e991e2b03e4d4080b8f89ad059715aecb0dd6d4bf6b9607dfd3322142e0bba3882b574cda28fd8f4ce906dfbb6f6a1672584918a3b70d4bd7bd174148bbf6adc34065b5c93522aec54be112fe05a4242b6e1ee11b9f3f554d2a34f3b048c96000013e9bc08e800, 0x3b6fd7848c478043ffd5f4b7251a18648a555a1402f874963f782d93453d0d2d4921cc2be6aacc322b80f0113a89b531d96b7da8f3fbd555db8ed48dae7cba65811f98bed81544f713168eac0cf7dcc01f9269314559625df3350ef1b1048f2d4dad6cd323ec1bc70ea03106fae69340, 0xcd9ef77cc9ff0aaad1b721a21587ea2a69876ae255d5837424fc55b89fb194a7c941280301d08c4437f2fe3ea5514dddcd717e3f5bab87115b8d9adc4d9710e934b6dfcbf17b96780706b2b939bad6721562ab66e6c8d223d78a73cca9ae7a9d17cc236250284b6ee259eb339962554b729, 0xbf08d51206668adc42b6634ca753bd6c27f1703ad64197bb2eb84318ac75461469fcb9885b915c7ab76aba860bed68ca8b5318a863d7d2e0cd428349dfa88a9009e06d2b54023e76a1c01ddc756543538f18165ed657b5f33ed775ed1a198bd3febb42e467fcbb90a4c247a8b6c0883ee8e, 0xd5ed24c85cf8dd2a8dfc45f402f8caf3a0a370da4dfff62a6ba458f2fdaf9b53e99f7c24813cc443e1dd7cff964ff6f8c20065e54169e0a59b969c9b08f786afd49eb07ca9ef55a6f0bfae458313cb2333815d3ced888db3d24e38459b728b7094371cc221fb53340a225557547e0de8240, 0xd4bd15a14dbf81c370ac0234a7a4c9d549b311cb820ebef4255eabc5b3c23d9d0651ca43f040378c26998cf18206f69c2a8544614bd0da759000e7ee7b4b1bd020568e9f97f80ce8bdbbef22abf7f49ce69d5abd924da469fdf3048270d2e6ada55c437d1bfa91501a93a3aae1380023ecf, 0xdaa9d861dadff5170bed8faa0addd0d0f20f9cc0dd8c5e19026063a8f15a8968b4f359018ce10097191c32fb876e19fad8cb79250f7dd446e0fa45e643976b496d2aec72b4849b0099d5157aa3b1acb1ac054b481fb18ad1f214b51b12f6f47272257c20df2719db45cb479e97a237ccbe7, 0x31099af1b12ac8cd39cb846e7ed3a35871142df314325ca888d949aa3b4d67cec528b7c1d811291a5de0f8c32b649d2d798ee9e60b932ccacfda5932abca73af2ef796b16f4cab1659e0c5aec623db8e59db352870582a11dbe8fc041f8407734716c0f852998020249b9049047a0a0, 0xaa56b4f8976a93a2cb3b1aa589be84a4d96cbc13bf483a5a0597ed0776b56f8a681ca21b9cdc8ccd0a29369ee36ffd8d2eba22ec9513f2904eb87da08efc554ce5796fb9d85eb9aa94f5716fcd22ce1a6716b0c671418a1519ac72ddcaf9eaf8e29468c428efcd43a34e1e5114, 0xd5875b90f44140cc8237a036323c18abfece3eb4feec4d6fc010b2972e4da3befd356f86ef1621a99bbb4d53d19266c897e8404a49f94b539ea8e34fef6a79fc0864b36fe3c70f07ce60d0c298cad7efe4583566658e2a6c751ea0b48b5a6c71717cc6012c998a7c88858d6e54b85ff5740, 0xa425037e731cb132db2a00d6ade172c3d5986d9849c9c5da2ff744336580258b0308e17586e6441ad75817eb9b6065e44da6d0bdaf789e7d14c944b7c0c588e1e2d392ecea6682bbbaff92908e2c7439d4bfc7f846c60e6a32838a8b9f1d4f9775f556c169d400cfa99fdd47a0, 0xa7921d06a4fca166629dd2797def9b36dcbe92e4d64783f6b2fecc02ba9cd61970331e58699e97d58e50fbd6469ac7a5783944ffd66b8e3be120837b6f1d9e082e0b4b0053fbbf25d88b6e04fecf86bf84557fc09e01e15262c65583314a6debd211f9bafa6dcd20f2e2c36962, 0x1636326bff46ab7b618bb39643112bea7d218af9fc3ba9cc2329bffcb8803f1d86bb354e426b40866c46fbb910add92c577bc4872dd323f9f78674b6974a6f1faf69bd169af196d9e0c5010ee488233045729015698858bc7b088518ccb573e6bdcd4a1f09bcca21247ac64e0010e, 0xe81549daf5cd1afe8c6945d82dc9cb07c01052bbaa780a8e3292327a19c4579e563a36885417b4d74ebcd9d321fba2da0482a1e2561eb706b247e0cd12bfe39aef4b4ab7319e3477932f9cb9e2e973bee9fae656969c377c0e7cdeb4e556d44306c96f5d7ed3437e5021cb55af61c00010e, 0xea17704e8517c61ccfd4448104fb444fa2383fc0ceea664b7fb6645097efbfaf77933bec688d713e3b0a8d23647d9aa062acf22c73dc5386ac3e4f264395169eeed476caeb8c9fc13d7eb8fc70395c6f694b892508b4bb529b9efff355673a47791a643792958274e159479e97004c5a9e6, 0x349e895d93373c489aa2e73dbf275ecff0568452a104dbb76aa8e1680022fc17f0c396dd6f6362f6a2f354becb1f9f5f1335142f7d43f3162b144e03c2569d9554af39f89fe445eeaff41ec80ba280a2355fbbd520f0fe91e42840d5384cc5f8ad4f22f730b68f46c0938410b90012a, 0x6fd0e33e4014b21d710efc690e82e09afec7e55e71331662fbfdaaa9e26976fe6ae83bc42532a06407d745bffb85c1ca901099ff0ba445a963070188c13776faaa2865594f046cd8e1252fa8db356556991cc6b5d08b5be92d2779120a490ca0fe1ed87ac71650f1d3754ee1380023eed, 0x2f332b257c258713bad3b84b7b05465296d4d96ce43c3c5ec67f29320546737deb2d5ed6897edeebed28246505b729e8187df471ce8c24068da855c048352ca1ebee5cab52970c229c07f2a5963ca72e01463516189857e6d3e461501a7b189f8c04e70f6c01e159479e97004c5b7a0, 0xed9bb4a9990386f80d17f0e989fe69239b6524e6ec6277e988855f4e9befec6a7bebceb6bdbbb8ff66091966db1ba7955c77206f8b3d093ffea880ecb4f332465925a752c7ba91665b77a054d847c5e89c34690e8a403b71d312f82c81dc1cb3237f74d19fef2b55b02e4b825770d9575c0, 0x349e890e3c45f977444349b4c88f32604adcf96af6d956ef84fae728b968879cebc43cf4c8f61a4c8693d0750eabdb149f267b1ec340c7e632a9d49e44aaf98224a855f6f469d4476863555a91e61936e985f2c1ae5fb2c8153fc080f5c805f16886fc760355cbbd1837342dc00010e, 0xa73db7e1dc6a587348e66b58ed5c0c794a38416355ceba6d990769d1de872a32d0be52343e0ad76aaf61c977305a4a6f97206fb2aa6d77a535587a9826f5b41d99505540ad888c1e59f5cfb67d633c45d4628840b74a8dc2f3cda66d0840ed87ac71650f1d3754ee1380023eed, 0xf580c58e815ac421c220f031e6444bda5fe7c93acc1f14a6de60f6f62c3a5fcccd468645cc42a32f7137d5afae840510d79282a90ea3c9fcccd6f6cc2c42073cd4889362539287b689eb1e2da644ec1f92a8a20c607deb4e8c4b3bc014f1d0fe72b5d5242224f4b162c9b8a7f2d40023cae, 0xfab30c4492b41306495de90fe63ea36c6930cae4e1192c6ce9858a3611eb8950e4660cb73d93ebe135bdb1c62d9ce38d82e3b0afab39d15b72525a57ecf44112246c46f1d304a41e1b457abb8b7618afd7fbf60ae48e11c842999858a4f5d6609897939512cb2ffa86887ddae504b327217, 0xd8b15c3f1da00cd7187c67b4d4802042c279e9a61dafdfc9eb15c338ccf1d1ce1973a5f7dda2bd73df961513ad178cef86da267e361b4a76c722b978ad18b736d6ca88cd35f9c33d6745d74b4c97b87b6b879a93e732db91316fbac9b89efd1f2745c8b0234df14995a8c16cef301a921a0, 0x3dafb09f11d02c36a30ec296caaa1e737bf9a1ddbdac853c1c0ba579714fa61a78e523294398164053f782b952a7e7b2ecee9122fbebd419e2783c9f9f56eed462bae4563f97d9c9eb910a4e7b35b6de5585a9ba8b6d5c818622520df9f9e251b2cc642fce80319d1a194d109e8fc474912, 0x1afbb31c353984ff9bdddfc99a132eff27d0b00df64be5ef548f17449e032324edbc8ebe19a131f7f9771891856109c8c548fad6bca907d5bc2de47b58ce92a0b3be5bddbf088967b7d07e32ea3c0bd3a1200000000000000000000000000002a2c8bd3952a90bd782857cc000145, 0x3956dc9bf11a3a9f2b377b8c6768c12a57a1a5765f311e8b695694ed48cfe74a7e56abd5d822015b0179568ffaf0ee9e30a834ba626d9c8744019a5d4a96159c38af9d30b54169dc4a0868b6e3fe4defae1dbc9c5fd57f014e1deafe70d99e862141c171068f96fa89511068a001d48, 0xfc9b8be41c69a445e6745299079cde53e9069de10184de4c35325915a805978f04ae9cebbd0d71f0164e5191b4e3337969d75aeacdab62832141d09a6973a93050ee35cecb3ff6501c767b607bbeb826de94df89912e74155f9c068aed58b7b21f78b50f74d83e6cae078ad2dc4803e3900, 0xf6237c7f35dc6121c0b863bc6a62df297d78eac7b655149a0ccc3fde05500add369b0935510739926b8cda6187ec5016a55eff198305fc9ba852da584d2cb66d1caa7b3f8d4b2dbff075f9642c678ebcfa16d2f5c7f14f4e29ec2e57fdd7314511f5962e9a5fe10026d92f82592800, 0x3db905fbed42cc3e887c7498b48c5fe8f8d143610cc77270b45cd6b7d3444a24f1f7bb5fb99d39850549e35aa237d53d1316af414be4b3b52218f0003b2f1a208a6c5ff1865609d31df222010bf9bd226fed602fe1b00, 0x7d305dfc33971a629d6ff8be8120d7e34f4869a92812607cec69171730d5c26815a24a93595da24fc231095cbdbbac59b0cfa7cffa60ddaa01573325826d06128835e2792633f7de96d526c879794478e06c43f2d29fe7b7ee26f5178ec9831a8a99771fd2e53af2aecdc200000000000, 0x7d305def27bc2fb3d3d925c7990fe3bc2b65964b1d3fb64dc0142d3e5979af008b931180434521f2a61456842d0d995537d008c2721d5ce8ddd9b2978da89800d90f38263e45ca72bdc0c9cd797a91890096478e3ee912a500b4c545ed48d4746404f4903ef5deb57824ed92bb9100151, 0x3a1ad6056855155e22f8199e218841ec642c3a30c6af99f89e4634d019df997601b11ac1fdd5b3350bd347f66e8046d399096f6ae48da77954778b94a2501680668421d6b34539c3c919caf9a2134e344814d4b80d4e14a1c34c20, 0x10dae076f36c5498d4ae9f756b2915adb543bfcfe44ba01216f78b9e89024d1d5f92f58a1459bdd7e7f64852f3187c32ed4a221f5d77342d4c3898d03ca9ac778f286b47176d870f990f2cc9050580c577199f097ea923130b4d1d2247077c172700034522544b78c66c0000000000000000, 0x12f56497316d5704e90f5e2efb22158a39bf4a81ba40acad9cab367ee0fda575dd73eb81da980b5a42400475ed42c8e7c10f695dd4f96342157372757634482da414d216f4322f8d5fda31732ad9e9eb4782d87ebcb44888ce777d40e778425e8087a3f526feaad011a99ae27b0060b3237, 0x111a2511d8365b050a4bc7db1f3538f9831690d53923ec94019b1f36c152a7e1b207f104400390f41e8bf4a9a78a9805a1ce3f2771939dcae67a805439303d70964db9af8ffae993a719fc3772d1112989560cdefec0000000000000000000000000000000000052fc376c573cb872901318, 0x3b6fd7848c477f9ebfe6192d394de7cadda4dbe91c8ef7ce9551c066e021df7ac731daf0deeb5ad52503ca5d15823d6101d1856fdffd0941f53c54b86fc672686b6e729ebdb1d31f272a052a12170944b0339a95de706777b01a2d43561022f66d90c79b3a2a2bd03db7050425f0e9d7, 0x3b6fd784895ec008d7e35056fdb4d5f6ebbab1b11b2193995b2f0b08f631d4994b164994fc3a66433095dd3cd7ceb43e37b10299ee96a9b2b1ceb21d555e6f09da7c821af1c57a72ee01ad450ea50362654d9e62fc64f1d24c93439c307456ee04c4ffd5af53dffc5cc220e7fe850000, 0x6af08862d74ebc0faf902ddb55d3b93d63959ae9a7ef682e7846ab225b9b98225ab8fcce59fab229c3dafcf749883c1954eb3df41e7101cae41de5449246fbd1f7c7c400631d0a100b30713acc6b04b63d502c77a1074091896076469faeb78804e76c6445e1af23fa12222800, 0x7abcda8312ce46ef4035b7d7c930f5fdc1cf5d2908c7870823ca21932b564941f13811b85f8a87d61b23e20670e4055355fcc6da41609d8f4ef5f13662457e81698d4be5caeccab1add375730f1666fb5f52be27e4d46fc3af5ab0fb5b1d7b8b12208551dd6ca54d32e59e6812c000ac, 0x841e37c6e4acfae15d02d10508cb3cb93d6f81f931d4c2ccc7882cb38be178ecd1e85956d1cbeb8d1c1fc1954a00beb9d443632ef190ea3fe30ded19effca75151cf566213fcf997e7284bae304f56c69671cccff08d8bd4b8b1dc00a3142df215008ff33470e82ba2dd17aa0bfea0000, 0x7e4dc5f20954b3dc4444c0265f052de3b6e387054e1dd8d7f2bc8181ad1f37591115d0d2a55d1aaf8be31c42e78092f64e3e5a2c7232821e7f08812c978c2fe02427dc6e9ba9c5b508f6a21855e85805996df50f6cb501f512f93993f954369a343d35067c2301356e1fb9c0c30b671403, 0x9eab2a54d747aae2c913134d633403e41af5d87fc0986fcf7364121a0dd09e01c4abd083f6d9cad370a8fc605f270b66546aeba6d231e378b9dc5add7d5a45d662799c24137cdce44c465b5528e6a6e44aec1ef306a2786b6604e8ef4b43fb56c3a3eb24c16a5aa78377f92645c51f50000, 0x11e8d3f7d2cdc739a6bd69ce938991a6d2a2f020601b8c6cd4543649d3294d3041b23f3162e97ef20de162227bfe1b482a4ba3c9aeccb51b1a23597781b7de245e2e9a34de7655f1d9fbed7615c2e7ad2461ed49bced0bd4f0741fe12cfdd3f64c1cc48ef17f8f134f150bee5c4db78720c9, 0x8738284d7984b9e5ea02c8f1e3b1372ba034e6dd6d5d296dfc4e41d5efce4671216dd9e5c1800d5faae3606b20d50c50db73b9196300e94dc807a6cf0d8457947b16ae3e63da217332e640130c28deb4a5d390b14a726f50f4a5abd8305ef51855de070ace836c66e2530f873fa57af60, 0x2a814505071f0aeaa34b6bf0f2909d537dfed5832a5215d825d5174e9d44a6f468bb391e293f3222cea29f133eb826dede6d3fc657e4150709be80eaf1ec7eb240318b5f95adc872ca960254f94, 0x12a2680562b482d723808f1e7b807a35e59807297a60fa2357a003919c3bdf5ae5faf4cd341bdaa93f88a9859d543d26d15967c06a0bb37b13f6b006af13b4762e9b6979363ba74bdb5bc4e5f3ee75266b97b93e1d6bf2840cd22694b9f581b6c822b2b0744b69bd91433580000e2b302340, 0x8c0c72f799417e800710fbd2fb6d6f053abdcf4237875e10fe56945839733e1935b6adb740f6845d43cf48db419d984fe6715e69dd2e6bfcf516b3594c14ea0bdf315132667850260b62f0cb3398ff23731ceee27899f09cae97359b3fc9248eaa0e82dad2f2a358684b88d4e800324bb, 0x8ad141d7a42ce21f72d77bbe3fcad7b387ebd8ff9c2b2a4e22683d257301ae9d7bd0fe6ac0500cede10925d765ef559bb74a08a21da78333ad11f6aca039ab8647ae552bda659c44e07ec0ee13a0bb9a1a1f1cef338698618abf374a3404f611fffcde60ccf75fd231543225e053598a0, 0x8c6b6d291e22d8195d4ef0e1eb487ba84bdd7e9e02a55af2bb84eb86c4dafd69ee136713782832386dc30f13114316601501b26920fffa394c8b888b8b4e7ee2f270a74298cd1fe708990cf2742f48ed71b5a74ae4ebb54513d9b224f859d59c900ab9b7da811f1cf53081e81ba845575, 0x12a269d87c681710e373539d089eb9244013db8afafc649a57c271e10c5657c6122a4be40d486df0fe58fba0cb00eb4aec11b31b278ec866a791bde398035faec304a8c95ac9e16f9370a320346c52365577249ae277c64bb8cec1269cdf28313a3ee15258a42e14e46d0563826083d7e800, 0x1f280b7df485d9785a4a4ba44471be3d6e9a2888ab11b5838f6313dbf76044016b291320724dff4054db032cbfc77aae62275bc23ca6b340144c3a4a2b17bbfacc1206e4d91c2e50897d7b56fd9fd15d234e6ae1ceaf33d064baf8adb75a790bb7271c765ad646481460c5ab00000, 0x13963e759e0a007d0cf68761c075bf14d7f20be1349f590c5f89f787c8c66f7faabf34215fecacedd3b129269fd89bad817625f59198cf9b792b919d9aba8991848d7a353e3228598468511c251d88ce8233179d2933889ee470b1561129ed2b6f0a8584e21994f23e34e22f4145b4032340, 0x42146f9ae10156a85dee7a9802a90256d3613fc61221ffa668d4a4e93afc897a3349b76909affe8707b42012ebc2d1c8e85eaa5cdf4fc7fe34a904b82b38488cbf7257c716edd459d3ee0d9fa32c57cac13ebb9be18f118df38d299fdb536f52406650d4e681abdafe93efb32b2cfe0, 0x4235914fd4f3cbeebb7d6741c1258f329a1d5721c048a0572da1a30c87eaa96e5eb9607ff2770aa5ecfb145f1819dd806be0cebe2163ed0cce200850c54641ad6682d7a7bbe0bcbebe528f2ccd9183f70e5435b2e4a8a988b0e8d2fe00aa2833d277c218469a9b0f6d941009e3e0b40, 0x1299a744e25ab2cd00f04172056488c23cc04a9f9162e731a38a0a6adfba9f029337ea4d11da01dd6a60e5d9b7d854849a08c40ec9805a6c5971f6bbbda4855a1b764646d5553e721ab5d37bf07e89f4a284f1e35485d095211d5bc6e5ae390ae4c1f1a6c3ff540aaa4fb232b41e86aae800, 0x423624f95e5c1823350b13ec0696c3dee6351ecd4bfb0f7347c0a0c3de05f07270dd5e8bb40c51b0d45d759db53ca756389bd7fe9c7a5e3d5603f2b52b34430d265b3aea7fb9c7601a622f39333b9c5cef62aa65079b57d7e933635a6b20a41665f5b71c6b3a3552d83466b68b21f32, 0x1f28963d7c0359766f1f749874f299d5a6161a8944b39c08d9abfd569f53f8923f25f00664d545af02df899b64c6266c75ad4b2c761b7b0840ae8578c5d6928065d2460d63e8244d99e8cc626cf38df1c8a25edf0aca30683c2b91f27a17e032905cce6bee9eabc62b41e86aae800, 0x984eb9fe3f5e565d7575f2c2ffa9d82a56cbb6771195472a08a0354942b11d2b0eea80af6006b09db9ee24bfedd056de6afc2138639819a08c9e09c2785d73d3bebebff54af0a1faa45828e6c82728c69e879d1b79f6eda6dd7fdc96234220d8dd2cf98175082d8b86f1ca145b4032340, 0x145c73bbc30d6ed363d5bb5bcdbce7fa3868e79ebef1d5143f2bbc97bf409e9356db4dc249a0830656dfd2c7217410ef3d86a6cb7270c2ecba51de655af36d8d48ca7c588c9e319cc7080938cd8f3a7120de989a38f6f7d9e93ec033b31d8a1cb1392cc9dc103a5376c74ba49bb4b86730da, 0xea9b970cd25ee52a7b9d9113a66d09b54b82b3ef467404276089364a90153a41f9fe8e52767c82752f2e44825caa55b04912ec850ab37b5b84d1d50a84a3e69dd303be1e9f6b6bb1b40602e51638e176d79960e9baa7121fe329f08b2f9cb1e6823205542c21eda730328b9f1d, 0x143a74b3c47c0eeca50707f1f5e960d7fa380946d33e6e61db46b334ec93edb30b51cf3d8fb60a69db53998b5a8424a738136e719790b7a297578baa4b94c74e0aefa3ba50f0a0525f1df5c65b8e512e5405d77c758fddf0aca30683c2b91f27978de8633483cebc7d0ef912f15af3a0017a, 0x12a6447f76ea5584af83acc4fa01cb90f72e13456ffabd2ef7a09e5aaa31304e1f1d03c9cda3a9769b51b96cfd6a6a1dd4e8d793f655ad88f6f34dadf44e8f99b049ab2042bfa5647b30b81def8b98e587c609363df1eacc76c02fa603c1fd1fe672a6282a9304f1994f1bb52a525b6b7bda, 0x9d821e111a0ec87932f3f3019f320f171e92dc30a11e77fb8ff73de0674f380c45d194b153735f633ede00adbef82e1621e8b1844467c68fb6eed0658ad24e94b646f46be333ad16aeaf2c4efb29a03c5585adcbcfc13bf587eb35d36cb9e122d589dac5a825cfdad39aa21351440e57a, 0x1e1bfb5f7b4e7ccd0cd123ca98d71dd305e79323cf742e0bb9577bf7cdd646844180a226218bb214c1dee0ddc80dcabbd4f2b33da99c51385d799e5374a5b9a0b049ba19bbccc90a8b462b929c9c5d3994ad94f3eb36f49792a42468782e0651247a8adb96ee2a926dfc7e4faa5a8, 0x1501c2cb689eef84a41ef9589cea529076ca8f82d62716f5512c3761a21a2a4b021697dde0110a66a03b147e06b259e2b38bc855cea0c6bbf98f5e87f9c9c9d3fdb6d7c56e5f706504129825aa19b749cd1e16f2f8e0df4653d5898299195feab9f29ff846e0784ac91904855458f14c32ea, 0x9fbc9344d6b7b1753f9c7a5d2a3dfa330f94880efdfc2b347d9dd441dad16f585413b7f5ed06d0e007eb3548d438b12fe65feb0cee801b7f36b98f27c3b7d833fb417732da479ad68174e83ab10e63e49b9f9f460e6b0f8fbe4770e260d6457f2c24b861d7d368eea51f7ea570e3ed13e, 0x10b95f302f00edb116e3c341e8f900f8a4f33cbd08ce59fbabb699a7260549c3a379af04b6f829d1dd36cd18267b742b5f5692a42a33347b2f1a0630a9729a8f6a6296b2c6e703924be4127238a304879444a3936ff70ec592a0dca353e8e4ee9263a393b26c804c8281c0391c0, 0xb2bb6905c2671da7d9039031b9ede13e5137f43d93d3ef73f18133f4c97119b41207e8c39ce6748c5fa107acc9188c838ff0f6999766ffacb3b0c251f014739a912bd8010fbaa40ace33ff675de14cf1f5d09f888de9767b5437ebfdd3b5c80000000000000000000000000000000000000, 0x7e4da9f9a3e958d8c5100858a8cd7bde79bb2713a1dec0a8e033822e17e3ac6dce7f6d8902abf7faeddb6854ccfa1d98affef473fca926ac444b1b262cfbf063346d546f9e0e044cec160abb1dbb3745169354880865120867c925cf486b4ac2b4ec4aa8547420eca25da9024fb950ca21, 0x1c989d777400eb9275264130e43135d48b2608edc01de81df456a829220515a5beb3f46ca3a5d27df4ec0c632565c6f553b1bb0d891322e3ff00af52ddeaa7b98b9af3b86695993a360da93ea1d6e4684c4dd303b87a23ed988e4082a7d6b99f139177410acbe8cd2800, 0x15e38618081aa788a117e6312917741afa69f97d22df56b7651d3a9aa6e2517895383748ce5aa45f8c2af1205ded5fd782c00fc1dff442b3d702ba75142d1400b1c0b2e9b9dd2357f92c1f7ba35d8cc4465197e88580603d853c0b81115973f05ae03af1bedb54c6d563b61135263016a13c, 0x5beca34f190055bbb6ed4f76dc3aca77d72b7c1e61a4ecdc33c9543c2b77b3ef55911893c9f954953efa87213674e269c8d01f9da6bc7f0d782d9fe98fdd3d6eab40e329e19b6628d0fbdb522fa5fefb0553101fa3d01fbf6f8a0fcbf155ffbc9eca6c46c67ec1bfa590721987bb0a71b, 0x71ac683308ed80a256701ff7079d1aff614aafb9c18632116c4e99f58c72988b7fc1cbbe96cc16bde8717fd27258465d2a8b90c14049ca11d50c81c6f16df37939571bc64a7adc42e7435aee1fca207badb3416cca43bca28ec36cf4d39dd52602ca337f6ee2f145188f8563a755d98000, 0xca75485c070b4ee3dabb7872784f035b374fd05151ee64bd3bd7d45ed4191bbeeb82df7517ff17133115f981b6f34cab9ab3b6d14cd542a00e29ca312582948dac4e8c9a5f1330a7d2cdd0e21ecbca43974a0c9e3b7a4ed74b218b40160f599686d4d9110bb245a5eb8b73cb016b89318, 0x33213d9c88af0c9d2b2276cbd2bc29139c80a3684894eaf70abfcf32aa18e196951909010d205800000000109aea0400]
noncomputable def x10 : List Nat := unp [] [0x4b20b96b1fe36277d5c212e4d45032b5315b77b549d8fab47bb0961f8c4bb30f3d4d4d3123851b1ce015853e24ccaa848de541e7d65aa443a6c19cefbf567d6679f2b6c1f13152b917c4e57ac92c11b327330a5d7bf2b0e7f81fde000000000000000000000000000000000000000000221, 0x2467bc110ebbb71c8525bef5a61113142effe5c9d64daa6f913ae6f241c6d949a1e47cc66f6d243c5eda0af2601900a323125a229f2bd5a6c296bb92d82cb37710a9d2e372b4f4c82db358b3eff4ffed5a0b2351080b170c77dc06c8bbb8ea9800bd3f0d449d602797e7709678000c81f, 0x4cb662356831b2b691fb8df18d8c1a0df7a4dfeeb103d9d2cb15aea1d6d95dc282b423ed5b88b9712873cab09a0ef127dfd0e083ad9a7ce7feaeb878aefd5a13ecabedb2822006cb17a06cc4685949ce945e5bc8b0dfa2ef6ef0ff7b611d68e3120cdd7dd77eda0b5ca1d63189800000000, 0x3feb02e00f5d812d99089dd6feb21a274d1422b0522bc29cc8c88edff983fa4c5dbfddfade4ff9d5be918236b40dc9cce8f3f0e086ce74eb6bbe8348e09d5e549d2dd76533df29f5eae000000000000000000000f35764405274876a3eb409f67f74ba59ba942fd8c88000d0a3, 0x133ac9fc1a392fc1de1a696f16328229b82855ad9e581df5d8c7ec07409d3c773c390458302e30be32e651df0f6812370e96073c102866b345be5a72c04a5f0532432eb8000000042eb4a4c915d99d5084c6ce90e6fc3ea571f233b238dacdcf6a01eb232e4c6a251dc4f110a5b8067, 0x489b01be67add0e565f0cee05042a4b3e28c522bba883f8626790d2fc731f7b15414997954da1e29e8542814f1817edfa503da97a05419ab7484a9a1609e4146d9082c0379f5ea361109cb8ace33dadce2f9b658a46016fe293eff1e1cff084fa7fcc2ee99a00764776abf69c0, 0x604e6b34c4e5743afaef1350c0844852e872e99bda18a5a8067985197836a0c8bef816e80abed257578a32367f97d87cab380ef89eca65834886ea0d722e4ecc267b5f48410afa000000006b678656f50a74a0100c429a957d57e1485a456360eec015f4bd935a40ccaf8dc6db26cb28075, 0x30027f95454dec98b1cf4c11400f2d39cbda08fa8315922425cf392a283ad384dbb93bf3e5913683826f0c640068cb8e33a24a5988caac226cef882d34521385c1e52c5193aa78431ee60b0a0e9c2c6191c6e4129edde7fd0685871ec33cb5c147a6c1036de34d2d558f65088f4e7e520, 0x836103e437df9e0a40e2ac0b0f4fc828eb0dc101306043199f2e9798e816f49980e1cfabf7f3905c9bcd1f1812a8a6358a4fb593530d9069d5438484aa09f788719c788e0d7b8d64300fd15d88000, 0x437c3040d0bb764081f9240e7ad457507bb1399282192279cba73226eb13f51c831aa5294b3f32f27b971691054b1a60f4f569cc3e1ac998866dcf21265af3a2924d0bafd3f67c29c628cfcdb69b636f3d73a24030ea95b728800000, 0x7116aff856ed8be0ecb6c806493cfe24e0f6f0c1fa7074b125187952b35470b5dc2152480a961c7fac24058be317bb795a1e085df5f17ee77226c3253163b30a15b880292d447ef7a71904dd666077d4ed49656b8bcf78c7b5a565c353f50bb92dac6fbf09724dd70000000000000000000, 0x369b8e0775759134e4331f0cf3e6d814059094a25bd7eb7623849bd54d591e49fb77a2f7d358b2a830a27b2ea94c8972cea72fba3abf3cdd8ae6797ce8a6b18bdbee86001618e4341a51c5443090368eaf5f232af9c77de9b23f9b499dea75e32f5808cb02a7e5f1b121f96f1dc00008e, 0x77fcfb138eea4da3c3c0bb5a32458c3501886f6582d0001cd99f5c6525593c6062fbaff91772d8f8b702f2469ef64798916af4a57ab6e76ee2a8b50faf015679d8420a301c652076970d61ea49779fa19ee98c83446e1b5a3c2a5704ff75358789f50541b7b3bc7d316611c4299f5300093, 0x39f372213bf8e9dbe63d683290f97162070efffc1f20ca2ee0b44cf8f2036ba51b6ce9d163a692f0d89e2df5d17397382f973fbfa9a40500e2744a2d23ad7d2e7fcbd793688ee00000000041cb19b15f938e794a3c10bf03e91d2ce5d05551bc5adef2be057e03d498048a41b6c2e6000, 0xa8596fa4138648bfe07b80f1998c0979853eb03afdcc617bc2482104a59b55419abf71e2640595f0897e1fa3f0271d16169d70187e1a9bf36d5b79d1468e99539834cb30b86aa28b093f628a20f9087ed353192ffb20554d292e9da262664a8454f388a7419fb13b5fb, 0x1b9d85c8d6cd64e5cc300307e126bf769009aa50099f4d306347a64a652ebb429a5399d253587985230a27ecc5e12b53c0e35830caa2df949348064d95287b136000f0e27bdbe82886555ff2c0ddab5c47abd823cf05475f81b124d248b00566e272897ed24, 0x86fcb8876dcb49dd54a4ef6234fa23a177c0f5b3259db448d6c008dc908c6f1bc52ce8579a26ccef0f0a941e1cdfdfc1484345d836d8275582fc2df67c7ace53dbc81cf3471f3e8884e1dd234748af0946de606e9e88659bee81c6e2fdd2a5e69ad80000000000000000000000000000000, 0x8f24b2104cd0654543ca259ffe089b244f18151ab25c5b94d15f6592f60d07052169b38c6a7c558078fd70c2da5127145cf61014bf15f4f1557eac25c10d3d96fdbf971bfebcc36657f8e375df57c1e0dee3785cd54b533320deca96ed32495e3e518c8c409f4c78fb6888f763ea442700b, 0x970d43ae31f11fe78017094a87a80fc01c1be48f97a2a6ec9cad5fc09c0ff1584f65976fe1950c6af53612671a0fd8c9fa5b93c7e175c2e34fb89a84f3e9a33dc757ea2343b516c2102d1ccbd803bafcfafa78da97b75c7e0ca503a29f4f0f89a00281b7c9508d0a003b0cf9f0556055548, 0x2119a15653b2c42d926717ad1094d79afa8eb79849ec541785dab8a53952ac57e3b854832e555e78e8a73e504eba89c9cad975b6af760bdf58fa5d83e9504ac6c0d6fea9d44791732b5ada0c106ac677f80e53b2ef6886ea03b590bbb0dc2d02fa28c6856f57b5fae5eff693f389287, 0x7cbb6c7674a67bb9b436e09133c27a0e57aa720af3ebd01581cebf0c55aaa5f7f6720251669391bd940a7bfa9313e397a19710f5f41fd315858002920e626d9c59105eded4d452d61ce3621c57b15c6f2ed5e2a47d8d7d0b99c800000000000000000000000000000000000000, 0x4c4b2263c1cad22a446e72155627d33084bd44906e74347bbdef85dacc7437f2cfe8bf9786352217ffa53b5dd9a304991edb6fcc971674c640238df4dd287d1ea96766c566cafb60363dfea126d692ad05b12087636cec6fd891aba7d15c1f54d1b1a49fa56b839bee2dd257ababc80c9, 0xa431c35e29ebebef0c58a739f0181695beaa49b17f66c5d58467517043c099139834b332f6972fca94429ece6788bd9c064a1ebf61489888d90d9b95b861f10a02cd51a3a3f09810a74143ed1b57099bf14496e8f7800774ee3b3405b0d80b918bcf8d153b766702d921ccab060039ae3a0, 0x118e0fee4e87e5024a5d066faddf762c00e2daeab4fe59467e033883612a270bae5195df6c8a6cc963b20afba55e9b956bfa140226bb7aeec77a02f59c61b51bf55001686a7104ab3f91629f72b11bd60e9b07ca1062ae1fd1b063e7ba17734a528dddb8b07144b6345711707f3e0, 0x118fbfb4959891b26d53119d40faee781deaf8a251eb8599e40704816b9d1065d0e9b0a50fbd3439fe03bbd1a0f5c5ce82eb27c1662c4f53a7fb101fe882d2fe2842ff1a0440650e426c7fd638f436830aaf2c72c19f2d4e769feee397ae8eea0467c6e34ae1f15b1b687093e48151c4a0, 0xaad2d569b2b89902173e081357f12490c67bd4df1bff7ba55e77b34f71ec1dc115f7ea846fc622236b28747c186d99ae5251ceaa5e1eaafaccc43deeb671ef4e5731e0407aea15ec32c8696cbb2428e45a1296288bb81283dfe8f1e6e9265fa44757a6a10ae2a3f8db3eedef14e5400000a, 0xad3234e44b1a5f8ffaa061736b74258924b8817ca0710dff5a6829f2b4e201a6c82103673b14804d20ae9582a572d111f6ed8dfb14b83c555c5c764051c8391866cac3d92c82171fe3125e837fd0548387b1ef7632dab60446e5dbe3e5325b4954e78af5094c0b025c5f30e2ba3362c00d8, 0x15a121f001916dc44206246c7fe6f7c0f1a4b8e0e6a16efa5e70a78932616fc1329139b6ada2f720d2442b45a64c06f113feb378d7fb4e2a36cd5aff95dce49e767283d1cae59e89677bcc0c45da082fb9ec00, 0xb0d3213cb94bee92e2eeada9a0f33b46242c3a538baccb70bb0e96ba86b9360258bdafb35112c69fa4e40beaa963e6496fc2d42fe1a9e6eb74bf03c90275bcbfca0733a7a19c718d695ad13f156f1149a045b1e7a60ee278f589ddd0c0ab27f1a7ca0b8dd5382216bd0b9823d3800000000, 0x838cf000e3368b81f8e4c3e84f4ec4c6a919435464a188615a1f10bfeb8a604bed96f3bb4dd37170b7cf28452bc68b23435062b8560994829545f9d75adb0ccc423035f88080204ab245d4f7dff6a1812f7840078f77f3e3fd7b66e6b95c296872c38c5aa36368b1d17e041485c001dc00, 0x3b8bcfe9f4ea990abd21eaddcc8e7db6a830d89eacb46d413282a087276f803888d681e4d86f68aed749b5e431b427db8df37c4ea440ecbdc239edb9718f54eca03b28ceeffe3785bebcb4898c7593ac8aa25a1836d0d284090f24559f201dbfd4496919de78a4f244a5b3505ff50000, 0xd2999238dcabd7ad9e30dd874af2e4f7e762f984b9cb0f6b81aaa9c49e2f4a1d8845096b94a0f6e3dc243ccc95bc45f5c8fde3f65f5707d0ab57b510478c54eca09b2cbb0942813457f1847fcb65d90a803c119d613de29236b5115205d52d3c0683e09e2a6b9a5b350002f0c89, 0x8e76f1f9496fcdfd590e1da417911d1a2d25d4a33ec2de15120c2ac4e73bf86152e33e73baa15db49879813fe733c99c94f2ffbce14b7c3a40bc87b171c3804c8ce03b8b818c6dce6154fc18d95dd8f4583d2a42aa6f66c976e9591c53e50e5b8974cc8808746f5165cb333940, 0xb8449ccd7b2bc6627a45558840972d11d480a24f12fc75633949b230c11bde655a3b9784c620aa74ea2240cfd139158056d5384a0acaa6997fc2690e20cc067cd9b4fd11ad27fe75681fe70f9828bc2f3b4bb1d2af4b3bac7355bd1992f0dbbbc65d79e3e54fd24dcb5dbf81fd11471ebc7, 0x56ed3e7af29bc19cd9ffd77c30dff7c054ec9d96d3caf6ca1fd138b6caf98e1f1a20f36280f62172800124465999e053ee9ce3c0c56cb121272fcb08b79c7de1720f6136248458ba6b4b3201d91e615b27de9fc5bf0639f8fda9c3638acfa6af5119c8bcb47cf409effdc11e0103b5689, 0x1d58d26972101a87f984d73a6d84e271a4958137875a2f331cad646e8a3910fa176aa80b099632678d3418ad33a80da7670cf379cba339c9dc9b4716836bc0966b16dadf545cd8cf006f6b40ab36488eb3e2606f6573cf2dc994ba07563f913eaad3bddb2db2829138117e653c74eac8a, 0x580a8aa67e73490c655fc536d682117e7844b8346386faadaf03ae99ed74e60bb24ae9ded97ef5c31118f9b1b23adf4321f3e0e03e4595a5d79fae4ede3ca9958cfd69fd1f775e5e5b79aaaa4aae4c0b3a29ba534e062836f5a4a79edaf1a69528552e4852f26d74b3fb66f27a5f15e0e, 0x3e22d4e4ad1858074e919196cbfebd1cac12b97a104fb2786d3e818a266afad0b4d6c55ab8dd40e8b413959531cbd9028b36d7ecd8b305f4e415643bcc01210801f4b1ced65cf3bc35a60fd6cb831f6c58eaf663418a036832bab2ba7ff9f70b9efaa9cd6d021c4b0eb4736416f18000, 0x3bc988b0be7ec42297fd240badbde1a335ef5d0e40fb0ec6789d4afafe3478a06978d4451e173ec437780f40a9c284c9365b15449696436cbf0fcb033988e228a7a135137f7afef66bd505ff50000, 0x2bb42825aff655443e991e2b03e4d4080b8f89ad059715aecb0dd6d4bf6b9607dfd3322142e0bba3882b574cda28fd8f4ce906dfbb6f6a1672584918a3b70d4bd7bd174148bbf6adc34065b5c93522aec54be112fe05a4242b6e1ee11b9f3f554d2a34f3b048c96000013e9bc08e800, 0x3b6fd7848c478043ffd5f4b7251a18648a555a1402f874963f782d93453d0d2d4921cc2be6aacc322b80f0113a89b531d96b7da8f3fbd555db8ed48dae7cba65811f98bed81544f713168eac0cf7dcc01f9269314559625df3350ef1b1048f2d4dad6cd323ec1bc70ea03106fae69340, 0xcd9ef77cc9ff0aaad1b721a21587ea2a69876ae255d5837424fc55b89fb194a7c941280301d08c4437f2fe3ea5514dddcd717e3f5bab87115b8d9adc4d9710e934b6dfcbf17b96780706b2b939bad6721562ab66e6c8d223d78a73cca9ae7a9d17cc236250284b6ee259eb339962554b729, 0xbf08d51206668adc42b6634ca753bd6c27f1703ad64197bb2eb84318ac75461469fcb9885b915c7ab76aba860bed68ca8b5318a863d7d2e0cd428349dfa88a9009e06d2b54023e76a1c01ddc756543538f18165ed657b5f33ed775ed1a198bd3febb42e467fcbb90a4c247a8b6c0883ee8e, 0xd5ed24c85cf8dd2a8dfc45f402f8caf3a0a370da4dfff62a6ba458f2fdaf9b53e99f7c24813cc443e1dd7cff964ff6f8c20065e54169e0a59b969c9b08f786afd49eb07ca9ef55a6f0bfae458313cb2333815d3ced888db3d24e38459b728b7094371cc221fb53340a225557547e0de8240, 0xd4bd15a14dbf81c370ac0234a7a4c9d549b311cb820ebef4255eabc5b3c23d9d0651ca43f040378c26998cf18206f69c2a8544614bd0da759000e7ee7b4b1bd020568e9f97f80ce8bdbbef22abf7f49ce69d5abd924da469fdf3048270d2e6ada55c437d1bfa91501a93a3aae1380023ecf, 0xdaa9d861dadff5170bed8faa0addd0d0f20f9cc0dd8c5e19026063a8f15a8968b4f359018ce10097191c32fb876e19fad8cb79250f7dd446e0fa45e643976b496d2aec72b4849b0099d5157aa3b1acb1ac054b481fb18ad1f214b51b12f6f47272257c20df2719db45cb479e97a237ccbe7, 0x31099af1b12ac8cd39cb846e7ed3a35871142df314325ca888d949aa3b4d67cec528b7c1d811291a5de0f8c32b649d2d798ee9e60b932ccacfda5932abca73af2ef796b16f4cab1659e0c5aec623db8e59db352870582a11dbe8fc041f8407734716c0f852998020249b9049047a0a0, 0xaa56b4f8976a93a2cb3b1aa589be84a4d96cbc13bf483a5a0597ed0776b56f8a681ca21b9cdc8ccd0a29369ee36ffd8d2eba22ec9513f2904eb87da08efc554ce5796fb9d85eb9aa94f5716fcd22ce1a6716b0c671418a1519ac72ddcaf9eaf8e29468c428efcd43a34e1e5114, 0xd5875b90f44140cc8237a036323c18abfece3eb4feec4d6fc010b2972e4da3befd356f86ef1621a99bbb4d53d19266c897e8404a49f94b539ea8e34fef6a79fc0864b36fe3c70f07ce60d0c298cad7efe4583566658e2a6c751ea0b48b5a6c71717cc6012c998a7c88858d6e54b85ff5740, 0xa425037e731cb132db2a00d6ade172c3d5986d9849c9c5da2ff744336580258b0308e17586e6441ad75817eb9b6065e44da6d0bdaf789e7d14c944b7c0c588e1e2d392ecea6682bbbaff92908e2c7439d4bfc7f846c60e6a32838a8b9f1d4f9775f556c169d400cfa99fdd47a0, 0xa7921d06a4fca166629dd2797def9b36dcbe92e4d64783f6b2fecc02ba9cd61970331e58699e97d58e50fbd6469ac7a5783944ffd66b8e3be120837b6f1d9e082e0b4b0053fbbf25d88b6e04fecf86bf84557fc09e01e15262c65583314a6debd211f9bafa6dcd20f2e2c36962, 0x1636326bff46ab7b618bb39643112bea7d218af9fc3ba9cc2329bffcb8803f1d86bb354e426b40866c46fbb910add92c577bc4872dd323f9f78674b6974a6f1faf69bd169af196d9e0c5010ee488233045729015698858bc7b088518ccb573e6bdcd4a1f09bcca21247ac64e0010e, 0xe81549daf5cd1afe8c6945d82dc9cb07c01052bbaa780a8e3292327a19c4579e563a36885417b4d74ebcd9d321fba2da0482a1e2561eb706b247e0cd12bfe39aef4b4ab7319e3477932f9cb9e2e973bee9fae656969c377c0e7cdeb4e556d44306c96f5d7ed3437e5021cb55af61c00010e, 0xea17704e8517c61ccfd4448104fb444fa2383fc0ceea664b7fb6645097efbfaf77933bec688d713e3b0a8d23647d9aa062acf22c73dc5386ac3e4f264395169eeed476caeb8c9fc13d7eb8fc70395c6f694b892508b4bb529b9efff355673a47791a643792958274e159479e97004c5a9e6, 0x349e895d93373c489aa2e73dbf275ecff0568452a104dbb76aa8e1680022fc17f0c396dd6f6362f6a2f354becb1f9f5f1335142f7d43f3162b144e03c2569d9554af39f89fe445eeaff41ec80ba280a2355fbbd520f0fe91e42840d5384cc5f8ad4f22f730b68f46c0938410b90012a, 0x6fd0e33e4014b21d710efc690e82e09afec7e55e71331662fbfdaaa9e26976fe6ae83bc42532a06407d745bffb85c1ca901099ff0ba445a963070188c13776faaa2865594f046cd8e1252fa8db356556991cc6b5d08b5be92d2779120a490ca0fe1ed87ac71650f1d3754ee1380023eed, 0x2f332b257c258713bad3b84b7b05465296d4d96ce43c3c5ec67f29320546737deb2d5ed6897edeebed28246505b729e8187df471ce8c24068da855c048352ca1ebee5cab52970c229c07f2a5963ca72e01463516189857e6d3e461501a7b189f8c04e70f6c01e159479e97004c5b7a0, 0xed9bb4a9990386f80d17f0e989fe69239b6524e6ec6277e988855f4e9befec6a7bebceb6bdbbb8ff66091966db1ba7955c77206f8b3d093ffea880ecb4f332465925a752c7ba91665b77a054d847c5e89c34690e8a403b71d312f82c81dc1cb3237f74d19fef2b55b02e4b825770d9575c0, 0x349e890e3c45f977444349b4c88f32604adcf96af6d956ef84fae728b968879cebc43cf4c8f61a4c8693d0750eabdb149f267b1ec340c7e632a9d49e44aaf98224a855f6f469d4476863555a91e61936e985f2c1ae5fb2c8153fc080f5c805f16886fc760355cbbd1837342dc00010e, 0xa73db7e1dc6a587348e66b58ed5c0c794a38416355ceba6d990769d1de872a32d0be52343e0ad76aaf61c977305a4a6f97206fb2aa6d77a535587a9826f5b41d99505540ad888c1e59f5cfb67d633c45d4628840b74a8dc2f3cda66d0840ed87ac71650f1d3754ee1380023eed, 0xf580c58e815ac421c220f031e6444bda5fe7c93acc1f14a6de60f6f62c3a5fcccd468645cc42a32f7137d5afae840510d79282a90ea3c9fcccd6f6cc2c42073cd4889362539287b689eb1e2da644ec1f92a8a20c607deb4e8c4b3bc014f1d0fe72b5d5242224f4b162c9b8a7f2d40023cae, 0xfab30c4492b41306495de90fe63ea36c6930cae4e1192c6ce9858a3611eb8950e4660cb73d93ebe135bdb1c62d9ce38d82e3b0afab39d15b72525a57ecf44112246c46f1d304a41e1b457abb8b7618afd7fbf60ae48e11c842999858a4f5d6609897939512cb2ffa86887ddae504b327217, 0xd8b15c3f1da00cd7187c67b4d4802042c279e9a61dafdfc9eb15c338ccf1d1ce1973a5f7dda2bd73df961513ad178cef86da267e361b4a76c722b978ad18b736d6ca88cd35f9c33d6745d74b4c97b87b6b879a93e732db91316fbac9b89efd1f2745c8b0234df14995a8c16cef301a921a0, 0x3dafb09f11d02c36a30ec296caaa1e737bf9a1ddbdac853c1c0ba579714fa61a78e523294398164053f782b952a7e7b2ecee9122fbebd419e2783c9f9f56eed462bae4563f97d9c9eb910a4e7b35b6de5585a9ba8b6d5c818622520df9f9e251b2cc642fce80319d1a194d109e8fc474912, 0x1afbb31c353984ff9bdddfc99a132eff27d0b00df64be5ef548f17449e032324edbc8ebe19a131f7f9771891856109c8c548fad6bca907d5bc2de47b58ce92a0b3be5bddbf088967b7d07e32ea3c0bd3a1200000000000000000000000000002a2c8bd3952a90bd782857cc000145, 0x3956dc9bf11a3a9f2b377b8c6768c12a57a1a5765f311e8b695694ed48cfe74a7e56abd5d822015b0179568ffaf0ee9e30a834ba626d9c8744019a5d4a96159c38af9d30b54169dc4a0868b6e3fe4defae1dbc9c5fd57f014e1deafe70d99e862141c171068f96fa89511068a001d48, 0xfc9b8be41c69a445e6745299079cde53e9069de10184de4c35325915a805978f04ae9cebbd0d71f0164e5191b4e3337969d75aeacdab62832141d09a6973a93050ee35cecb3ff6501c767b607bbeb826de94df89912e74155f9c068aed58b7b21f78b50f74d83e6cae078ad2dc4803e3900, 0xf6237c7f35dc6121c0b863bc6a62df297d78eac7b655149a0ccc3fde05500add369b0935510739926b8cda6187ec5016a55eff198305fc9ba852da584d2cb66d1caa7b3f8d4b2dbff075f9642c678ebcfa16d2f5c7f14f4e29ec2e57fdd7314511f5962e9a5fe10026d92f82592800, 0x3db905fbed42cc3e887c7498b48c5fe8f8d143610cc77270b45cd6b7d3444a24f1f7bb5fb99d39850549e35aa237d53d1316af414be4b3b52218f0003b2f1a208a6c5ff1865609d31df222010bf9bd226fed602fe1b00, 0x7d305dfc33971a629d6ff8be8120d7e34f4869a92812607cec69171730d5c26815a24a93595da24fc231095cbdbbac59b0cfa7cffa60ddaa01573325826d06128835e2792633f7de96d526c879794478e06c43f2d29fe7b7ee26f5178ec9831a8a99771fd2e53af2aecdc200000000000, 0x7d305def27bc2fb3d3d925c7990fe3bc2b65964b1d3fb64dc0142d3e5979af008b931180434521f2a61456842d0d995537d008c2721d5ce8ddd9b2978da89800d90f38263e45ca72bdc0c9cd797a91890096478e3ee912a500b4c545ed48d4746404f4903ef5deb57824ed92bb9100151, 0x3a1ad6056855155e22f8199e218841ec642c3a30c6af99f89e4634d019df997601b11ac1fdd5b3350bd347f66e8046d399096f6ae48da77954778b94a2501680668421d6b34539c3c919caf9a2134e344814d4b80d4e14a1c34c20, 0x10dae076f36c5498d4ae9f756b2915adb543bfcfe44ba01216f78b9e89024d1d5f92f58a1459bdd7e7f64852f3187c32ed4a221f5d77342d4c3898d03ca9ac778f286b47176d870f990f2cc9050580c577199f097ea923130b4d1d2247077c172700034522544b78c66c0000000000000000, 0x12f56497316d5704e90f5e2efb22158a39bf4a81ba40acad9cab367ee0fda575dd73eb81da980b5a42400475ed42c8e7c10f695dd4f96342157372757634482da414d216f4322f8d5fda31732ad9e9eb4782d87ebcb44888ce777d40e778425e8087a3f526feaad011a99ae27b0060b3237, 0x111a2511d8365b050a4bc7db1f3538f9831690d53923ec94019b1f36c152a7e1b207f104400390f41e8bf4a9a78a9805a1ce3f2771939dcae67a805439303d70964db9af8ffae993a719fc3772d1112989560cdefec0000000000000000000000000000000000052fc376c573cb872901318, 0x3b6fd7848c477f9ebfe6192d394de7cadda4dbe91c8ef7ce9551c066e021df7ac731daf0deeb5ad52503ca5d15823d6101d1856fdffd0941f53c54b86fc672686b6e729ebdb1d31f272a052a12170944b0339a95de706777b01a2d43561022f66d90c79b3a2a2bd03db7050425f0e9d7, 0x3b6fd784895ec008d7e35056fdb4d5f6ebbab1b11b2193995b2f0b08f631d4994b164994fc3a66433095dd3cd7ceb43e37b10299ee96a9b2b1ceb21d555e6f09da7c821af1c57a72ee01ad450ea50362654d9e62fc64f1d24c93439c307456ee04c4ffd5af53dffc5cc220e7fe850000, 0x6af08862d74ebc0faf902ddb55d3b93d63959ae9a7ef682e7846ab225b9b98225ab8fcce59fab229c3dafcf749883c1954eb3df41e7101cae41de5449246fbd1f7c7c400631d0a100b30713acc6b04b63d502c77a1074091896076469faeb78804e76c6445e1af23fa12222800, 0x7abcda8312ce46ef4035b7d7c930f5fdc1cf5d2908c7870823ca21932b564941f13811b85f8a87d61b23e20670e4055355fcc6da41609d8f4ef5f13662457e81698d4be5caeccab1add375730f1666fb5f52be27e4d46fc3af5ab0fb5b1d7b8b12208551dd6ca54d32e59e6812c000ac, 0x841e37c6e4acfae15d02d10508cb3cb93d6f81f931d4c2ccc7882cb38be178ecd1e85956d1cbeb8d1c1fc1954a00beb9d443632ef190ea3fe30ded19effca75151cf566213fcf997e7284bae304f56c69671cccff08d8bd4b8b1dc00a3142df215008ff33470e82ba2dd17aa0bfea0000, 0x7e4dc5f20954b3dc4444c0265f052de3b6e387054e1dd8d7f2bc8181ad1f37591115d0d2a55d1aaf8be31c42e78092f64e3e5a2c7232821e7f08812c978c2fe02427dc6e9ba9c5b508f6a21855e85805996df50f6cb501f512f93993f954369a343d35067c2301356e1fb9c0c30b671403, 0x9eab2a54d747aae2c913134d633403e41af5d87fc0986fcf7364121a0dd09e01c4abd083f6d9cad370a8fc605f270b66546aeba6d231e378b9dc5add7d5a45d662799c24137cdce44c465b5528e6a6e44aec1ef306a2786b6604e8ef4b43fb56c3a3eb24c16a5aa78377f92645c51f50000, 0x11e8d3f7d2cdc739a6bd69ce938991a6d2a2f020601b8c6cd4543649d3294d3041b23f3162e97ef20de162227bfe1b482a4ba3c9aeccb51b1a23597781b7de245e2e9a34de7655f1d9fbed7615c2e7ad2461ed49bced0bd4f0741fe12cfdd3f64c1cc48ef17f8f134f150bee5c4db78720c9, 0x8738284d7984b9e5ea02c8f1e3b1372ba034e6dd6d5d296dfc4e41d5efce4671216dd9e5c1800d5faae3606b20d50c50db73b9196300e94dc807a6cf0d8457947b16ae3e63da217332e640130c28deb4a5d390b14a726f50f4a5abd8305ef51855de070ace836c66e2530f873fa57af60, 0x2a814505071f0aeaa34b6bf0f2909d537dfed5832a5215d825d5174e9d44a6f468bb391e293f3222cea29f133eb826dede6d3fc657e4150709be80eaf1ec7eb240318b5f95adc872ca960254f94, 0x12a2680562b482d723808f1e7b807a35e59807297a60fa2357a003919c3bdf5ae5faf4cd341bdaa93f88a9859d543d26d15967c06a0bb37b13f6b006af13b4762e9b6979363ba74bdb5bc4e5f3ee75266b97b93e1d6bf2840cd22694b9f581b6c822b2b0744b69bd91433580000e2b302340, 0x8c0c72f799417e800710fbd2fb6d6f053abdcf4237875e10fe56945839733e1935b6adb740f6845d43cf48db419d984fe6715e69dd2e6bfcf516b3594c14ea0bdf315132667850260b62f0cb3398ff23731ceee27899f09cae97359b3fc9248eaa0e82dad2f2a358684b88d4e800324bb, 0x42146f9ae10156a28619f72f9482f0a84c397d8508d583831bcd9145295be8cd7c872f37d16c29b69cfb9b04a58e647683e7e53ded1e765f800a1881455242e65b77567d6035a2e07ec0ee13a0bb9a1a1f1cef338698618abf374a3404f611fffcde60ccf75fd231543225e053598a0, 0x12e56f67be8028481574eb7bc97ae2eb8ab69b39ccb172d22d12f4ab9a6a646a36ba877fcd5752a325c013f03b85db88c1e6dda7946b69b9bf321aceb1ccaa64a6e00515b56381c86f513bafdaea6bfd955138c24429ba9e90f6305ee41dbbc394032cf043dea46bc09320d941009e3e0b40, 0x20005d01743186e937d90367f1036bd43485c21781d36dd94b6f73acfb65b4ca0b63b3e9f62ae61808e5cea65e54140091f27256b08593038b3897a01e5766e3d197cdfb6b9e8c049e36787f0f47a2f6bd3ab0079ca0b9035e8557fb1826791f3589ffb98503351167a0e31ee7c00, 0x136cdd1f0eaeb82ea6f5f449c029a8e9b665647a69b9103ef52a37e4db271559ee243aac172b713f67144dbdeb4b73f498ee9af9b0fcf87e0421c1072c9038715d3bb15a874b5e37c0931d919aa91c537e1ac5d7a64b19c4b5fdd5204a8400ad7e9b4a4be602a4ac2ff4d1deaea0bc600000, 0x1bf86b9d3d6a7402b76c3c44bb934038a08a88f6d63eb02f421cb4eb700e1ee22c0e73a4172e72af50f84335f743ba9c2da71a51963b94a00d94d66712b8a2693d516b658a050cf69dcecfb69def25ad687c49779ca7b444627ab558f4f11777fd846c62a8efd3ae04a0732a37d882, 0x13c570698da2642e053dd00d51b291e2f903afce85f1a6d3c40832ac054b81db73325a32d99eb973cfd66aa707f15428aea9d43de3811f8675da2a4f8ffc609b7d88ac314bb3ce604439f162d104c36ac18a363af373c9df3b5262ae46c96187ff729aa432a66dd856ae99b2d2ba8cec9540, 0x13d2018af99082d99f378eeda4b4ede10195657c8155f745878a60ce5509ae91f2d89a3838f80a18eae44fd647a71bfd37d8ebc7030ac21d1dff62aad802c9a96d26c1b0bbabdf423afa1f2459122458bc2d12cf2fe364464a3ad9b37039f0cf193ccd5bb3c7c3926cacf043a8d3d5480190, 0x141e03a8d62a96a4ab3da705849c0b95f99123e953c5f775795846ee2b1b6b59e2e2ebff14e53bbf513ac7673fd17f07fe022268a161e5f6369c04b2fc04fb344a10e22503f9d24b078f58a0764fb7643ba15e0e490fee9c8f5a549d2bc97bcd9ce1b9ddb870d1d51981f56fdf567cd39fcf, 0x8ea624e40447c2567b665200e130701e45674b5265f41d65431ffcf10d4fd71102dfbe001cc44e1e55b0b9c015ecb77c6b795da8e69009aa5712ca33761e35ed2084f5cc00a5dbdd39797b9f74116ef55f75fbd05e604e33070bdee25bee1e36fe9f1438bcd86a832129d1b969736277, 0x20d2f96690c05a11a3edcb2bb05bd64b5a266def48ff5e2a67b77d3b146b4d062d184a03f705ed9bfc1c8d0e77ab0906936e94076a457eb76dcd7d083bd9dd5f84f89d4dd2580f36ec00e4c7f75cd72e7414ff3dd063d6adab4638c1e97002298db649b0971c0d74e23ac34b89318, 0x42e5720b73917438aa49ad81a87fc10ef9b0f95d27871a77c0db65245ba577c9aa6d0f0000000000]
/-- the certificate of a way and a letter -/
noncomputable def cx : Nat → Nat → List Nat
  | 0, 97 => x0a
  | 0, 98 => x0b
  | 1, 97 => x1a
  | 1, 98 => x1b
  | 2, 97 => x2a
  | 2, 98 => x2b
  | 3, 97 => x3a
  | 3, 98 => x3b
  | 4, 97 => x4a
  | 4, 98 => x4b
  | 5, 97 => x5a
  | 5, 98 => x5b
  | 6, _ => x6
  | 7, _ => x7
  | 8, _ => x8
  | 9, _ => x9
  | 10, _ => x10
  | _, _ => []
end Mine
end
section
open PySem PySem.W PySem.W.X PySem.Calls PyProof.Rows PySem.Spec
open Sem (wp)
set_option maxRecDepth 100000
set_option linter.unusedVariables false
set_option linter.unusedSectionVars false
namespace Mine
abbrev rw1 : RowW := PySem.Challenge.rw_pq1416_01.row.toRowW
/-- the call's arguments: a list of at most 63 ints, the newest object -/
theorem args_are {w : World} {s₀ s₁ : Shared} {args : List WData} {vals : List Value} {as : List Addr} (L : Laid rw1.records w s₀ s₁ args vals as) (hpre : rw1.claim.pre args = true) (hlay : WData.layableAll args = true)
    (hrd : ReadsAllW rw1.records (classAt s₀.heap) s₁.heap vals args as) :
    ∃ xs : Array Value, vals = [.ref s₀.heap.objs.size] ∧ s₁.heap.objs.size = s₀.heap.objs.size + 1 ∧ s₁.heap.get? s₀.heap.objs.size = some (lst xs) ∧ AllInts xs ∧ xs.size ≤ 63 ∧ rw1.claim.post args (.bool true) args = true := by
  have hsh := (pre_splitW hpre).1
  have hcond := (pre_splitW hpre).2
  obtain ⟨d, r, rfl, h1, h2⟩ := hasAllW_cons hsh
  have h2 := hasAllW_nil h2
  subst h2
  have hl := (layW_cons hlay).1
  obtain ⟨p, rfl, hp, hl0⟩ := open_plain (R := rw1.records) (.list .int) (by decide) h1 hl
  row_has hp
  w_cond hcond
  rename_i ns hc _
  obtain ⟨v, vs, a1, a2, he, ha, r1, hr⟩ := readsAllW_cons_inv hrd
  obtain ⟨rfl, rfl⟩ := readsAllW_nil_inv hr
  subst he
  obtain ⟨a, l, bs, rfl, hb, hL, hR⟩ := reads_list_items (reads_of_readsW _ r1)
  obtain ⟨hi, hbs⟩ := readsAll_intsAre hR
  obtain ⟨e1, e2⟩ := script_at L
  have e3 := script_obj L hL
  subst e1
  refine ⟨l.toArray, rfl, e2, e3, hi.allInts, ?_, ?_⟩
  · have := hi.length
    simp only [List.size_toArray]
    omega
  · wrow_post
end Mine
end
section
open PySem PySem.W PySem.W.X PySem.Calls PyProof.Rows PySem.Spec
open Sem (wp)
set_option maxRecDepth 100000
set_option linter.unusedVariables false
set_option linter.unusedSectionVars false
namespace Mine
/-- the code whose table the call adds to -/
noncomputable def tabOk (t : KT) : Bool := match t.get 1028 with
  | some ⟨.type c, _, .fields vs, _⟩ => match Y1.eqS c "code" with
    | true => match vs.toList.drop 11 with
      | .ref a :: _ => match Nat.beq a 1024 with
        | true => match t.get 1024 with
          | some o => match tabOf o with
            | some _ => true
            | none => false
          | none => false
        | false => false
      | _ => false
    | false => false
  | _ => false
theorem tabOk_spec {t : KT} (h : tabOk t = true) {hp : Heap} (H : t.Holds hp 1 0) : ∃ c ps, hp.TableAt c 1024 ps := by
  unfold tabOk at h
  split at h
  · rename_i c dd vs sl ec
    split at h
    · rename_i hc
      rw [Y1_ok.eqS] at hc
      have hc := of_decide_eq_true hc
      subst hc
      split at h
      · rename_i a rest hd
        split at h
        · rename_i ha
          have ha := Nat.eq_of_beq_eq_true ha
          subst ha
          split at h
          · rename_i o eP
            split at h
            · rename_i ps hps
              have := tabOf_eq hps
              subst this
              obtain ⟨c, hT⟩ := table_kt (vs := vs) H ec rfl (by
                have z : vs.toList[11]? = some (.ref 1024) := by
                  have := congrArg (·[0]?) hd
                  simpa using this
                simpa using z) eP
              exact ⟨c, ps, hT⟩
            · cases h
          · cases h
        · cases h
      · cases h
    · cases h
  · cases h
end Mine
end
section
open PySem PySem.W PySem.W.X
set_option maxRecDepth 100000
set_option linter.unusedVariables false
namespace Mine
/-- the law's text, its statements, by their places -/
noncomputable def top0 : List Stmt := PySem.Challenge.pw_pq1416_01.main.body
noncomputable def nthS (n : Nat) (l : List Stmt) : Stmt := @Nat.rec (fun _ => List Stmt → Stmt) (fun l => @List.rec Stmt (fun _ => Stmt) (.Pass default) (fun s _ _ => s) l) (fun _ ih l => @List.rec Stmt (fun _ => Stmt) (.Pass default) (fun _ r _ => ih r) l) n l
def cBody : Stmt → List Stmt
  | .ClassDef _ _ _ b _ _ _ _ _ _ _ => b
  | _ => []
def fArgs : Stmt → Arguments
  | .FunctionDef _ a _ _ _ _ _ _ _ _ => a
  | _ => { posonlyargs := [], args := [], vararg := none, kwonlyargs := [], kw_defaults := [], kwarg := none, defaults := [] }
def fBody : Stmt → List Stmt
  | .FunctionDef _ _ b _ _ _ _ _ _ _ => b
  | _ => []
def fScope : Stmt → Scope
  | .FunctionDef _ _ _ _ _ _ s _ _ _ => s
  | _ => default
def z0 : Str := ⟨⟨[nat_lit 95,nat_lit 95,nat_lit 110,nat_lit 97,nat_lit 109,nat_lit 101,nat_lit 95,nat_lit 95]⟩⟩
def z1 : Str := ⟨⟨[nat_lit 98,nat_lit 117,nat_lit 105,nat_lit 108,nat_lit 116,nat_lit 105,nat_lit 110,nat_lit 115]⟩⟩
def z2 : Str := ⟨⟨[nat_lit 95,nat_lit 95,nat_lit 100,nat_lit 111,nat_lit 99,nat_lit 95,nat_lit 95]⟩⟩
def z3 : Str := ⟨⟨[nat_lit 95,nat_lit 95,nat_lit 112,nat_lit 97,nat_lit 99,nat_lit 107,nat_lit 97,nat_lit 103,nat_lit 101,nat_lit 95,nat_lit 95]⟩⟩
def z4 : Str := ⟨⟨[nat_lit 95,nat_lit 95,nat_lit 108,nat_lit 111,nat_lit 97,nat_lit 100,nat_lit 101,nat_lit 114,nat_lit 95,nat_lit 95]⟩⟩
def z5 : Str := ⟨⟨[nat_lit 95,nat_lit 95,nat_lit 115,nat_lit 112,nat_lit 101,nat_lit 99,nat_lit 95,nat_lit 95]⟩⟩
def z6 : Str := ⟨⟨[nat_lit 95,nat_lit 95,nat_lit 98,nat_lit 117,nat_lit 105,nat_lit 108,nat_lit 100,nat_lit 95,nat_lit 99,nat_lit 108,nat_lit 97,nat_lit 115,nat_lit 115,nat_lit 95,nat_lit 95]⟩⟩
def z7 : Str := ⟨⟨[nat_lit 95,nat_lit 95,nat_lit 105,nat_lit 109,nat_lit 112,nat_lit 111,nat_lit 114,nat_lit 116,nat_lit 95,nat_lit 95]⟩⟩
def z8 : Str := ⟨⟨[nat_lit 97,nat_lit 98,nat_lit 115]⟩⟩
def z9 : Str := ⟨⟨[nat_lit 97,nat_lit 108,nat_lit 108]⟩⟩
def z10 : Str := ⟨⟨[nat_lit 97,nat_lit 110,nat_lit 121]⟩⟩
def z11 : Str := ⟨⟨[nat_lit 97,nat_lit 115,nat_lit 99,nat_lit 105,nat_lit 105]⟩⟩
def z12 : Str := ⟨⟨[nat_lit 98,nat_lit 105,nat_lit 110]⟩⟩
def z13 : Str := ⟨⟨[nat_lit 98,nat_lit 114,nat_lit 101,nat_lit 97,nat_lit 107,nat_lit 112,nat_lit 111,nat_lit 105,nat_lit 110,nat_lit 116]⟩⟩
def z14 : Str := ⟨⟨[nat_lit 99,nat_lit 97,nat_lit 108,nat_lit 108,nat_lit 97,nat_lit 98,nat_lit 108,nat_lit 101]⟩⟩
def z15 : Str := ⟨⟨[nat_lit 99,nat_lit 104,nat_lit 114]⟩⟩
def z16 : Str := ⟨⟨[nat_lit 99,nat_lit 111,nat_lit 109,nat_lit 112,nat_lit 105,nat_lit 108,nat_lit 101]⟩⟩
def z17 : Str := ⟨⟨[nat_lit 100,nat_lit 101,nat_lit 108,nat_lit 97,nat_lit 116,nat_lit 116,nat_lit 114]⟩⟩
def z18 : Str := ⟨⟨[nat_lit 100,nat_lit 105,nat_lit 114]⟩⟩
def z19 : Str := ⟨⟨[nat_lit 100,nat_lit 105,nat_lit 118,nat_lit 109,nat_lit 111,nat_lit 100]⟩⟩
def z20 : Str := ⟨⟨[nat_lit 101,nat_lit 118,nat_lit 97,nat_lit 108]⟩⟩
def z21 : Str := ⟨⟨[nat_lit 101,nat_lit 120,nat_lit 101,nat_lit 99]⟩⟩
def z22 : Str := ⟨⟨[nat_lit 102,nat_lit 111,nat_lit 114,nat_lit 109,nat_lit 97,nat_lit 116]⟩⟩
def z23 : Str := ⟨⟨[nat_lit 103,nat_lit 101,nat_lit 116,nat_lit 97,nat_lit 116,nat_lit 116,nat_lit 114]⟩⟩
def z24 : Str := ⟨⟨[nat_lit 103,nat_lit 108,nat_lit 111,nat_lit 98,nat_lit 97,nat_lit 108,nat_lit 115]⟩⟩
def z25 : Str := ⟨⟨[nat_lit 104,nat_lit 97,nat_lit 115,nat_lit 97,nat_lit 116,nat_lit 116,nat_lit 114]⟩⟩
def z26 : Str := ⟨⟨[nat_lit 104,nat_lit 97,nat_lit 115,nat_lit 104]⟩⟩
def z27 : Str := ⟨⟨[nat_lit 104,nat_lit 101,nat_lit 120]⟩⟩
def z28 : Str := ⟨⟨[nat_lit 105,nat_lit 100]⟩⟩
def z29 : Str := ⟨⟨[nat_lit 105,nat_lit 110,nat_lit 112,nat_lit 117,nat_lit 116]⟩⟩
def z30 : Str := ⟨⟨[nat_lit 105,nat_lit 115,nat_lit 105,nat_lit 110,nat_lit 115,nat_lit 116,nat_lit 97,nat_lit 110,nat_lit 99,nat_lit 101]⟩⟩
def z31 : Str := ⟨⟨[nat_lit 105,nat_lit 115,nat_lit 115,nat_lit 117,nat_lit 98,nat_lit 99,nat_lit 108,nat_lit 97,nat_lit 115,nat_lit 115]⟩⟩
def z32 : Str := ⟨⟨[nat_lit 105,nat_lit 116,nat_lit 101,nat_lit 114]⟩⟩
def z33 : Str := ⟨⟨[nat_lit 97,nat_lit 105,nat_lit 116,nat_lit 101,nat_lit 114]⟩⟩
def z34 : Str := ⟨⟨[nat_lit 108,nat_lit 101,nat_lit 110]⟩⟩
def z35 : Str := ⟨⟨[nat_lit 108,nat_lit 111,nat_lit 99,nat_lit 97,nat_lit 108,nat_lit 115]⟩⟩
def z36 : Str := ⟨⟨[nat_lit 109,nat_lit 97,nat_lit 120]⟩⟩
def z37 : Str := ⟨⟨[nat_lit 109,nat_lit 105,nat_lit 110]⟩⟩
def z38 : Str := ⟨⟨[nat_lit 110,nat_lit 101,nat_lit 120,nat_lit 116]⟩⟩
def z39 : Str := ⟨⟨[nat_lit 97,nat_lit 110,nat_lit 101,nat_lit 120,nat_lit 116]⟩⟩
def z40 : Str := ⟨⟨[nat_lit 111,nat_lit 99,nat_lit 116]⟩⟩
def z41 : Str := ⟨⟨[nat_lit 111,nat_lit 114,nat_lit 100]⟩⟩
def z42 : Str := ⟨⟨[nat_lit 112,nat_lit 111,nat_lit 119]⟩⟩
def z43 : Str := ⟨⟨[nat_lit 112,nat_lit 114,nat_lit 105,nat_lit 110,nat_lit 116]⟩⟩
def z44 : Str := ⟨⟨[nat_lit 114,nat_lit 101,nat_lit 112,nat_lit 114]⟩⟩
def z45 : Str := ⟨⟨[nat_lit 114,nat_lit 111,nat_lit 117,nat_lit 110,nat_lit 100]⟩⟩
def z46 : Str := ⟨⟨[nat_lit 115,nat_lit 101,nat_lit 116,nat_lit 97,nat_lit 116,nat_lit 116,nat_lit 114]⟩⟩
def z47 : Str := ⟨⟨[nat_lit 115,nat_lit 111,nat_lit 114,nat_lit 116,nat_lit 101,nat_lit 100]⟩⟩
def z48 : Str := ⟨⟨[nat_lit 115,nat_lit 117,nat_lit 109]⟩⟩
def z49 : Str := ⟨⟨[nat_lit 118,nat_lit 97,nat_lit 114,nat_lit 115]⟩⟩
def z50 : Str := ⟨⟨[nat_lit 78,nat_lit 111,nat_lit 110,nat_lit 101]⟩⟩
def z51 : Str := ⟨⟨[nat_lit 69,nat_lit 108,nat_lit 108,nat_lit 105,nat_lit 112,nat_lit 115,nat_lit 105,nat_lit 115]⟩⟩
def z52 : Str := ⟨⟨[nat_lit 78,nat_lit 111,nat_lit 116,nat_lit 73,nat_lit 109,nat_lit 112,nat_lit 108,nat_lit 101,nat_lit 109,nat_lit 101,nat_lit 110,nat_lit 116,nat_lit 101,nat_lit 100]⟩⟩
def z53 : Str := ⟨⟨[nat_lit 70,nat_lit 97,nat_lit 108,nat_lit 115,nat_lit 101]⟩⟩
def z54 : Str := ⟨⟨[nat_lit 84,nat_lit 114,nat_lit 117,nat_lit 101]⟩⟩
def z55 : Str := ⟨⟨[nat_lit 98,nat_lit 111,nat_lit 111,nat_lit 108]⟩⟩
def z56 : Str := ⟨⟨[nat_lit 109,nat_lit 101,nat_lit 109,nat_lit 111,nat_lit 114,nat_lit 121,nat_lit 118,nat_lit 105,nat_lit 101,nat_lit 119]⟩⟩
def z57 : Str := ⟨⟨[nat_lit 98,nat_lit 121,nat_lit 116,nat_lit 101,nat_lit 97,nat_lit 114,nat_lit 114,nat_lit 97,nat_lit 121]⟩⟩
def z58 : Str := ⟨⟨[nat_lit 98,nat_lit 121,nat_lit 116,nat_lit 101,nat_lit 115]⟩⟩
def z59 : Str := ⟨⟨[nat_lit 99,nat_lit 108,nat_lit 97,nat_lit 115,nat_lit 115,nat_lit 109,nat_lit 101,nat_lit 116,nat_lit 104,nat_lit 111,nat_lit 100]⟩⟩
def z60 : Str := ⟨⟨[nat_lit 99,nat_lit 111,nat_lit 109,nat_lit 112,nat_lit 108,nat_lit 101,nat_lit 120]⟩⟩
def z61 : Str := ⟨⟨[nat_lit 100,nat_lit 105,nat_lit 99,nat_lit 116]⟩⟩
def z62 : Str := ⟨⟨[nat_lit 101,nat_lit 110,nat_lit 117,nat_lit 109,nat_lit 101,nat_lit 114,nat_lit 97,nat_lit 116,nat_lit 101]⟩⟩
def z63 : Str := ⟨⟨[nat_lit 102,nat_lit 105,nat_lit 108,nat_lit 116,nat_lit 101,nat_lit 114]⟩⟩
def z64 : Str := ⟨⟨[nat_lit 102,nat_lit 108,nat_lit 111,nat_lit 97,nat_lit 116]⟩⟩
def z65 : Str := ⟨⟨[nat_lit 102,nat_lit 114,nat_lit 111,nat_lit 122,nat_lit 101,nat_lit 110,nat_lit 115,nat_lit 101,nat_lit 116]⟩⟩
def z66 : Str := ⟨⟨[nat_lit 112,nat_lit 114,nat_lit 111,nat_lit 112,nat_lit 101,nat_lit 114,nat_lit 116,nat_lit 121]⟩⟩
def z67 : Str := ⟨⟨[nat_lit 105,nat_lit 110,nat_lit 116]⟩⟩
def z68 : Str := ⟨⟨[nat_lit 108,nat_lit 105,nat_lit 115,nat_lit 116]⟩⟩
def z69 : Str := ⟨⟨[nat_lit 109,nat_lit 97,nat_lit 112]⟩⟩
def z70 : Str := ⟨⟨[nat_lit 111,nat_lit 98,nat_lit 106,nat_lit 101,nat_lit 99,nat_lit 116]⟩⟩
def z71 : Str := ⟨⟨[nat_lit 114,nat_lit 97,nat_lit 110,nat_lit 103,nat_lit 101]⟩⟩
def z72 : Str := ⟨⟨[nat_lit 114,nat_lit 101,nat_lit 118,nat_lit 101,nat_lit 114,nat_lit 115,nat_lit 101,nat_lit 100]⟩⟩
def z73 : Str := ⟨⟨[nat_lit 115,nat_lit 101,nat_lit 116]⟩⟩
def z74 : Str := ⟨⟨[nat_lit 115,nat_lit 108,nat_lit 105,nat_lit 99,nat_lit 101]⟩⟩
def z75 : Str := ⟨⟨[nat_lit 115,nat_lit 116,nat_lit 97,nat_lit 116,nat_lit 105,nat_lit 99,nat_lit 109,nat_lit 101,nat_lit 116,nat_lit 104,nat_lit 111,nat_lit 100]⟩⟩
def z76 : Str := ⟨⟨[nat_lit 115,nat_lit 116,nat_lit 114]⟩⟩
def z77 : Str := ⟨⟨[nat_lit 115,nat_lit 117,nat_lit 112,nat_lit 101,nat_lit 114]⟩⟩
def z78 : Str := ⟨⟨[nat_lit 116,nat_lit 117,nat_lit 112,nat_lit 108,nat_lit 101]⟩⟩
def z79 : Str := ⟨⟨[nat_lit 116,nat_lit 121,nat_lit 112,nat_lit 101]⟩⟩
def z80 : Str := ⟨⟨[nat_lit 122,nat_lit 105,nat_lit 112]⟩⟩
def z81 : Str := ⟨⟨[nat_lit 95,nat_lit 95,nat_lit 100,nat_lit 101,nat_lit 98,nat_lit 117,nat_lit 103,nat_lit 95,nat_lit 95]⟩⟩
def z82 : Str := ⟨⟨[nat_lit 66,nat_lit 97,nat_lit 115,nat_lit 101,nat_lit 69,nat_lit 120,nat_lit 99,nat_lit 101,nat_lit 112,nat_lit 116,nat_lit 105,nat_lit 111,nat_lit 110]⟩⟩
def z83 : Str := ⟨⟨[nat_lit 66,nat_lit 97,nat_lit 115,nat_lit 101,nat_lit 69,nat_lit 120,nat_lit 99,nat_lit 101,nat_lit 112,nat_lit 116,nat_lit 105,nat_lit 111,nat_lit 110,nat_lit 71,nat_lit 114,nat_lit 111,nat_lit 117,nat_lit 112]⟩⟩
def z84 : Str := ⟨⟨[nat_lit 69,nat_lit 120,nat_lit 99,nat_lit 101,nat_lit 112,nat_lit 116,nat_lit 105,nat_lit 111,nat_lit 110]⟩⟩
def z85 : Str := ⟨⟨[nat_lit 71,nat_lit 101,nat_lit 110,nat_lit 101,nat_lit 114,nat_lit 97,nat_lit 116,nat_lit 111,nat_lit 114,nat_lit 69,nat_lit 120,nat_lit 105,nat_lit 116]⟩⟩
def z86 : Str := ⟨⟨[nat_lit 75,nat_lit 101,nat_lit 121,nat_lit 98,nat_lit 111,nat_lit 97,nat_lit 114,nat_lit 100,nat_lit 73,nat_lit 110,nat_lit 116,nat_lit 101,nat_lit 114,nat_lit 114,nat_lit 117,nat_lit 112,nat_lit 116]⟩⟩
def z87 : Str := ⟨⟨[nat_lit 83,nat_lit 121,nat_lit 115,nat_lit 116,nat_lit 101,nat_lit 109,nat_lit 69,nat_lit 120,nat_lit 105,nat_lit 116]⟩⟩
def z88 : Str := ⟨⟨[nat_lit 65,nat_lit 114,nat_lit 105,nat_lit 116,nat_lit 104,nat_lit 109,nat_lit 101,nat_lit 116,nat_lit 105,nat_lit 99,nat_lit 69,nat_lit 114,nat_lit 114,nat_lit 111,nat_lit 114]⟩⟩
def z89 : Str := ⟨⟨[nat_lit 65,nat_lit 115,nat_lit 115,nat_lit 101,nat_lit 114,nat_lit 116,nat_lit 105,nat_lit 111,nat_lit 110,nat_lit 69,nat_lit 114,nat_lit 114,nat_lit 111,nat_lit 114]⟩⟩
def z90 : Str := ⟨⟨[nat_lit 65,nat_lit 116,nat_lit 116,nat_lit 114,nat_lit 105,nat_lit 98,nat_lit 117,nat_lit 116,nat_lit 101,nat_lit 69,nat_lit 114,nat_lit 114,nat_lit 111,nat_lit 114]⟩⟩
def z91 : Str := ⟨⟨[nat_lit 66,nat_lit 117,nat_lit 102,nat_lit 102,nat_lit 101,nat_lit 114,nat_lit 69,nat_lit 114,nat_lit 114,nat_lit 111,nat_lit 114]⟩⟩
def z92 : Str := ⟨⟨[nat_lit 69,nat_lit 79,nat_lit 70,nat_lit 69,nat_lit 114,nat_lit 114,nat_lit 111,nat_lit 114]⟩⟩
def z93 : Str := ⟨⟨[nat_lit 73,nat_lit 109,nat_lit 112,nat_lit 111,nat_lit 114,nat_lit 116,nat_lit 69,nat_lit 114,nat_lit 114,nat_lit 111,nat_lit 114]⟩⟩
def z94 : Str := ⟨⟨[nat_lit 76,nat_lit 111,nat_lit 111,nat_lit 107,nat_lit 117,nat_lit 112,nat_lit 69,nat_lit 114,nat_lit 114,nat_lit 111,nat_lit 114]⟩⟩
def z95 : Str := ⟨⟨[nat_lit 77,nat_lit 101,nat_lit 109,nat_lit 111,nat_lit 114,nat_lit 121,nat_lit 69,nat_lit 114,nat_lit 114,nat_lit 111,nat_lit 114]⟩⟩
def z96 : Str := ⟨⟨[nat_lit 78,nat_lit 97,nat_lit 109,nat_lit 101,nat_lit 69,nat_lit 114,nat_lit 114,nat_lit 111,nat_lit 114]⟩⟩
def z97 : Str := ⟨⟨[nat_lit 79,nat_lit 83,nat_lit 69,nat_lit 114,nat_lit 114,nat_lit 111,nat_lit 114]⟩⟩
def z98 : Str := ⟨⟨[nat_lit 82,nat_lit 101,nat_lit 102,nat_lit 101,nat_lit 114,nat_lit 101,nat_lit 110,nat_lit 99,nat_lit 101,nat_lit 69,nat_lit 114,nat_lit 114,nat_lit 111,nat_lit 114]⟩⟩
def z99 : Str := ⟨⟨[nat_lit 82,nat_lit 117,nat_lit 110,nat_lit 116,nat_lit 105,nat_lit 109,nat_lit 101,nat_lit 69,nat_lit 114,nat_lit 114,nat_lit 111,nat_lit 114]⟩⟩
def z100 : Str := ⟨⟨[nat_lit 83,nat_lit 116,nat_lit 111,nat_lit 112,nat_lit 65,nat_lit 115,nat_lit 121,nat_lit 110,nat_lit 99,nat_lit 73,nat_lit 116,nat_lit 101,nat_lit 114,nat_lit 97,nat_lit 116,nat_lit 105,nat_lit 111,nat_lit 110]⟩⟩
def z101 : Str := ⟨⟨[nat_lit 83,nat_lit 116,nat_lit 111,nat_lit 112,nat_lit 73,nat_lit 116,nat_lit 101,nat_lit 114,nat_lit 97,nat_lit 116,nat_lit 105,nat_lit 111,nat_lit 110]⟩⟩
def z102 : Str := ⟨⟨[nat_lit 83,nat_lit 121,nat_lit 110,nat_lit 116,nat_lit 97,nat_lit 120,nat_lit 69,nat_lit 114,nat_lit 114,nat_lit 111,nat_lit 114]⟩⟩
def z103 : Str := ⟨⟨[nat_lit 83,nat_lit 121,nat_lit 115,nat_lit 116,nat_lit 101,nat_lit 109,nat_lit 69,nat_lit 114,nat_lit 114,nat_lit 111,nat_lit 114]⟩⟩
def z104 : Str := ⟨⟨[nat_lit 84,nat_lit 121,nat_lit 112,nat_lit 101,nat_lit 69,nat_lit 114,nat_lit 114,nat_lit 111,nat_lit 114]⟩⟩
def z105 : Str := ⟨⟨[nat_lit 86,nat_lit 97,nat_lit 108,nat_lit 117,nat_lit 101,nat_lit 69,nat_lit 114,nat_lit 114,nat_lit 111,nat_lit 114]⟩⟩
def z106 : Str := ⟨⟨[nat_lit 87,nat_lit 97,nat_lit 114,nat_lit 110,nat_lit 105,nat_lit 110,nat_lit 103]⟩⟩
def z107 : Str := ⟨⟨[nat_lit 70,nat_lit 108,nat_lit 111,nat_lit 97,nat_lit 116,nat_lit 105,nat_lit 110,nat_lit 103,nat_lit 80,nat_lit 111,nat_lit 105,nat_lit 110,nat_lit 116,nat_lit 69,nat_lit 114,nat_lit 114,nat_lit 111,nat_lit 114]⟩⟩
def z108 : Str := ⟨⟨[nat_lit 79,nat_lit 118,nat_lit 101,nat_lit 114,nat_lit 102,nat_lit 108,nat_lit 111,nat_lit 119,nat_lit 69,nat_lit 114,nat_lit 114,nat_lit 111,nat_lit 114]⟩⟩
def z109 : Str := ⟨⟨[nat_lit 90,nat_lit 101,nat_lit 114,nat_lit 111,nat_lit 68,nat_lit 105,nat_lit 118,nat_lit 105,nat_lit 115,nat_lit 105,nat_lit 111,nat_lit 110,nat_lit 69,nat_lit 114,nat_lit 114,nat_lit 111,nat_lit 114]⟩⟩
def z110 : Str := ⟨⟨[nat_lit 66,nat_lit 121,nat_lit 116,nat_lit 101,nat_lit 115,nat_lit 87,nat_lit 97,nat_lit 114,nat_lit 110,nat_lit 105,nat_lit 110,nat_lit 103]⟩⟩
def z111 : Str := ⟨⟨[nat_lit 68,nat_lit 101,nat_lit 112,nat_lit 114,nat_lit 101,nat_lit 99,nat_lit 97,nat_lit 116,nat_lit 105,nat_lit 111,nat_lit 110,nat_lit 87,nat_lit 97,nat_lit 114,nat_lit 110,nat_lit 105,nat_lit 110,nat_lit 103]⟩⟩
def z112 : Str := ⟨⟨[nat_lit 69,nat_lit 110,nat_lit 99,nat_lit 111,nat_lit 100,nat_lit 105,nat_lit 110,nat_lit 103,nat_lit 87,nat_lit 97,nat_lit 114,nat_lit 110,nat_lit 105,nat_lit 110,nat_lit 103]⟩⟩
def z113 : Str := ⟨⟨[nat_lit 70,nat_lit 117,nat_lit 116,nat_lit 117,nat_lit 114,nat_lit 101,nat_lit 87,nat_lit 97,nat_lit 114,nat_lit 110,nat_lit 105,nat_lit 110,nat_lit 103]⟩⟩
def z114 : Str := ⟨⟨[nat_lit 73,nat_lit 109,nat_lit 112,nat_lit 111,nat_lit 114,nat_lit 116,nat_lit 87,nat_lit 97,nat_lit 114,nat_lit 110,nat_lit 105,nat_lit 110,nat_lit 103]⟩⟩
def z115 : Str := ⟨⟨[nat_lit 80,nat_lit 101,nat_lit 110,nat_lit 100,nat_lit 105,nat_lit 110,nat_lit 103,nat_lit 68,nat_lit 101,nat_lit 112,nat_lit 114,nat_lit 101,nat_lit 99,nat_lit 97,nat_lit 116,nat_lit 105,nat_lit 111,nat_lit 110,nat_lit 87,nat_lit 97,nat_lit 114,nat_lit 110,nat_lit 105,nat_lit 110,nat_lit 103]⟩⟩
def z116 : Str := ⟨⟨[nat_lit 82,nat_lit 101,nat_lit 115,nat_lit 111,nat_lit 117,nat_lit 114,nat_lit 99,nat_lit 101,nat_lit 87,nat_lit 97,nat_lit 114,nat_lit 110,nat_lit 105,nat_lit 110,nat_lit 103]⟩⟩
def z117 : Str := ⟨⟨[nat_lit 82,nat_lit 117,nat_lit 110,nat_lit 116,nat_lit 105,nat_lit 109,nat_lit 101,nat_lit 87,nat_lit 97,nat_lit 114,nat_lit 110,nat_lit 105,nat_lit 110,nat_lit 103]⟩⟩
def z118 : Str := ⟨⟨[nat_lit 83,nat_lit 121,nat_lit 110,nat_lit 116,nat_lit 97,nat_lit 120,nat_lit 87,nat_lit 97,nat_lit 114,nat_lit 110,nat_lit 105,nat_lit 110,nat_lit 103]⟩⟩
def z119 : Str := ⟨⟨[nat_lit 85,nat_lit 110,nat_lit 105,nat_lit 99,nat_lit 111,nat_lit 100,nat_lit 101,nat_lit 87,nat_lit 97,nat_lit 114,nat_lit 110,nat_lit 105,nat_lit 110,nat_lit 103]⟩⟩
def z120 : Str := ⟨⟨[nat_lit 85,nat_lit 115,nat_lit 101,nat_lit 114,nat_lit 87,nat_lit 97,nat_lit 114,nat_lit 110,nat_lit 105,nat_lit 110,nat_lit 103]⟩⟩
def z121 : Str := ⟨⟨[nat_lit 66,nat_lit 108,nat_lit 111,nat_lit 99,nat_lit 107,nat_lit 105,nat_lit 110,nat_lit 103,nat_lit 73,nat_lit 79,nat_lit 69,nat_lit 114,nat_lit 114,nat_lit 111,nat_lit 114]⟩⟩
def z122 : Str := ⟨⟨[nat_lit 67,nat_lit 104,nat_lit 105,nat_lit 108,nat_lit 100,nat_lit 80,nat_lit 114,nat_lit 111,nat_lit 99,nat_lit 101,nat_lit 115,nat_lit 115,nat_lit 69,nat_lit 114,nat_lit 114,nat_lit 111,nat_lit 114]⟩⟩
def z123 : Str := ⟨⟨[nat_lit 67,nat_lit 111,nat_lit 110,nat_lit 110,nat_lit 101,nat_lit 99,nat_lit 116,nat_lit 105,nat_lit 111,nat_lit 110,nat_lit 69,nat_lit 114,nat_lit 114,nat_lit 111,nat_lit 114]⟩⟩
def z124 : Str := ⟨⟨[nat_lit 70,nat_lit 105,nat_lit 108,nat_lit 101,nat_lit 69,nat_lit 120,nat_lit 105,nat_lit 115,nat_lit 116,nat_lit 115,nat_lit 69,nat_lit 114,nat_lit 114,nat_lit 111,nat_lit 114]⟩⟩
def z125 : Str := ⟨⟨[nat_lit 70,nat_lit 105,nat_lit 108,nat_lit 101,nat_lit 78,nat_lit 111,nat_lit 116,nat_lit 70,nat_lit 111,nat_lit 117,nat_lit 110,nat_lit 100,nat_lit 69,nat_lit 114,nat_lit 114,nat_lit 111,nat_lit 114]⟩⟩
def z126 : Str := ⟨⟨[nat_lit 73,nat_lit 110,nat_lit 116,nat_lit 101,nat_lit 114,nat_lit 114,nat_lit 117,nat_lit 112,nat_lit 116,nat_lit 101,nat_lit 100,nat_lit 69,nat_lit 114,nat_lit 114,nat_lit 111,nat_lit 114]⟩⟩
def z127 : Str := ⟨⟨[nat_lit 73,nat_lit 115,nat_lit 65,nat_lit 68,nat_lit 105,nat_lit 114,nat_lit 101,nat_lit 99,nat_lit 116,nat_lit 111,nat_lit 114,nat_lit 121,nat_lit 69,nat_lit 114,nat_lit 114,nat_lit 111,nat_lit 114]⟩⟩
def z128 : Str := ⟨⟨[nat_lit 78,nat_lit 111,nat_lit 116,nat_lit 65,nat_lit 68,nat_lit 105,nat_lit 114,nat_lit 101,nat_lit 99,nat_lit 116,nat_lit 111,nat_lit 114,nat_lit 121,nat_lit 69,nat_lit 114,nat_lit 114,nat_lit 111,nat_lit 114]⟩⟩
def z129 : Str := ⟨⟨[nat_lit 80,nat_lit 101,nat_lit 114,nat_lit 109,nat_lit 105,nat_lit 115,nat_lit 115,nat_lit 105,nat_lit 111,nat_lit 110,nat_lit 69,nat_lit 114,nat_lit 114,nat_lit 111,nat_lit 114]⟩⟩
def z130 : Str := ⟨⟨[nat_lit 80,nat_lit 114,nat_lit 111,nat_lit 99,nat_lit 101,nat_lit 115,nat_lit 115,nat_lit 76,nat_lit 111,nat_lit 111,nat_lit 107,nat_lit 117,nat_lit 112,nat_lit 69,nat_lit 114,nat_lit 114,nat_lit 111,nat_lit 114]⟩⟩
def z131 : Str := ⟨⟨[nat_lit 84,nat_lit 105,nat_lit 109,nat_lit 101,nat_lit 111,nat_lit 117,nat_lit 116,nat_lit 69,nat_lit 114,nat_lit 114,nat_lit 111,nat_lit 114]⟩⟩
def z132 : Str := ⟨⟨[nat_lit 73,nat_lit 110,nat_lit 100,nat_lit 101,nat_lit 110,nat_lit 116,nat_lit 97,nat_lit 116,nat_lit 105,nat_lit 111,nat_lit 110,nat_lit 69,nat_lit 114,nat_lit 114,nat_lit 111,nat_lit 114]⟩⟩
def z133 : Str := ⟨⟨[nat_lit 95,nat_lit 73,nat_lit 110,nat_lit 99,nat_lit 111,nat_lit 109,nat_lit 112,nat_lit 108,nat_lit 101,nat_lit 116,nat_lit 101,nat_lit 73,nat_lit 110,nat_lit 112,nat_lit 117,nat_lit 116,nat_lit 69,nat_lit 114,nat_lit 114,nat_lit 111,nat_lit 114]⟩⟩
def z134 : Str := ⟨⟨[nat_lit 73,nat_lit 110,nat_lit 100,nat_lit 101,nat_lit 120,nat_lit 69,nat_lit 114,nat_lit 114,nat_lit 111,nat_lit 114]⟩⟩
def z135 : Str := ⟨⟨[nat_lit 75,nat_lit 101,nat_lit 121,nat_lit 69,nat_lit 114,nat_lit 114,nat_lit 111,nat_lit 114]⟩⟩
def z136 : Str := ⟨⟨[nat_lit 77,nat_lit 111,nat_lit 100,nat_lit 117,nat_lit 108,nat_lit 101,nat_lit 78,nat_lit 111,nat_lit 116,nat_lit 70,nat_lit 111,nat_lit 117,nat_lit 110,nat_lit 100,nat_lit 69,nat_lit 114,nat_lit 114,nat_lit 111,nat_lit 114]⟩⟩
def z137 : Str := ⟨⟨[nat_lit 78,nat_lit 111,nat_lit 116,nat_lit 73,nat_lit 109,nat_lit 112,nat_lit 108,nat_lit 101,nat_lit 109,nat_lit 101,nat_lit 110,nat_lit 116,nat_lit 101,nat_lit 100,nat_lit 69,nat_lit 114,nat_lit 114,nat_lit 111,nat_lit 114]⟩⟩
def z138 : Str := ⟨⟨[nat_lit 80,nat_lit 121,nat_lit 116,nat_lit 104,nat_lit 111,nat_lit 110,nat_lit 70,nat_lit 105,nat_lit 110,nat_lit 97,nat_lit 108,nat_lit 105,nat_lit 122,nat_lit 97,nat_lit 116,nat_lit 105,nat_lit 111,nat_lit 110,nat_lit 69,nat_lit 114,nat_lit 114,nat_lit 111,nat_lit 114]⟩⟩
def z139 : Str := ⟨⟨[nat_lit 82,nat_lit 101,nat_lit 99,nat_lit 117,nat_lit 114,nat_lit 115,nat_lit 105,nat_lit 111,nat_lit 110,nat_lit 69,nat_lit 114,nat_lit 114,nat_lit 111,nat_lit 114]⟩⟩
def z140 : Str := ⟨⟨[nat_lit 85,nat_lit 110,nat_lit 98,nat_lit 111,nat_lit 117,nat_lit 110,nat_lit 100,nat_lit 76,nat_lit 111,nat_lit 99,nat_lit 97,nat_lit 108,nat_lit 69,nat_lit 114,nat_lit 114,nat_lit 111,nat_lit 114]⟩⟩
def z141 : Str := ⟨⟨[nat_lit 85,nat_lit 110,nat_lit 105,nat_lit 99,nat_lit 111,nat_lit 100,nat_lit 101,nat_lit 69,nat_lit 114,nat_lit 114,nat_lit 111,nat_lit 114]⟩⟩
def z142 : Str := ⟨⟨[nat_lit 66,nat_lit 114,nat_lit 111,nat_lit 107,nat_lit 101,nat_lit 110,nat_lit 80,nat_lit 105,nat_lit 112,nat_lit 101,nat_lit 69,nat_lit 114,nat_lit 114,nat_lit 111,nat_lit 114]⟩⟩
def z143 : Str := ⟨⟨[nat_lit 67,nat_lit 111,nat_lit 110,nat_lit 110,nat_lit 101,nat_lit 99,nat_lit 116,nat_lit 105,nat_lit 111,nat_lit 110,nat_lit 65,nat_lit 98,nat_lit 111,nat_lit 114,nat_lit 116,nat_lit 101,nat_lit 100,nat_lit 69,nat_lit 114,nat_lit 114,nat_lit 111,nat_lit 114]⟩⟩
def z144 : Str := ⟨⟨[nat_lit 67,nat_lit 111,nat_lit 110,nat_lit 110,nat_lit 101,nat_lit 99,nat_lit 116,nat_lit 105,nat_lit 111,nat_lit 110,nat_lit 82,nat_lit 101,nat_lit 102,nat_lit 117,nat_lit 115,nat_lit 101,nat_lit 100,nat_lit 69,nat_lit 114,nat_lit 114,nat_lit 111,nat_lit 114]⟩⟩
def z145 : Str := ⟨⟨[nat_lit 67,nat_lit 111,nat_lit 110,nat_lit 110,nat_lit 101,nat_lit 99,nat_lit 116,nat_lit 105,nat_lit 111,nat_lit 110,nat_lit 82,nat_lit 101,nat_lit 115,nat_lit 101,nat_lit 116,nat_lit 69,nat_lit 114,nat_lit 114,nat_lit 111,nat_lit 114]⟩⟩
def z146 : Str := ⟨⟨[nat_lit 84,nat_lit 97,nat_lit 98,nat_lit 69,nat_lit 114,nat_lit 114,nat_lit 111,nat_lit 114]⟩⟩
def z147 : Str := ⟨⟨[nat_lit 85,nat_lit 110,nat_lit 105,nat_lit 99,nat_lit 111,nat_lit 100,nat_lit 101,nat_lit 68,nat_lit 101,nat_lit 99,nat_lit 111,nat_lit 100,nat_lit 101,nat_lit 69,nat_lit 114,nat_lit 114,nat_lit 111,nat_lit 114]⟩⟩
def z148 : Str := ⟨⟨[nat_lit 85,nat_lit 110,nat_lit 105,nat_lit 99,nat_lit 111,nat_lit 100,nat_lit 101,nat_lit 69,nat_lit 110,nat_lit 99,nat_lit 111,nat_lit 100,nat_lit 101,nat_lit 69,nat_lit 114,nat_lit 114,nat_lit 111,nat_lit 114]⟩⟩
def z149 : Str := ⟨⟨[nat_lit 85,nat_lit 110,nat_lit 105,nat_lit 99,nat_lit 111,nat_lit 100,nat_lit 101,nat_lit 84,nat_lit 114,nat_lit 97,nat_lit 110,nat_lit 115,nat_lit 108,nat_lit 97,nat_lit 116,nat_lit 101,nat_lit 69,nat_lit 114,nat_lit 114,nat_lit 111,nat_lit 114]⟩⟩
def z150 : Str := ⟨⟨[nat_lit 69,nat_lit 120,nat_lit 99,nat_lit 101,nat_lit 112,nat_lit 116,nat_lit 105,nat_lit 111,nat_lit 110,nat_lit 71,nat_lit 114,nat_lit 111,nat_lit 117,nat_lit 112]⟩⟩
def z151 : Str := ⟨⟨[nat_lit 69,nat_lit 110,nat_lit 118,nat_lit 105,nat_lit 114,nat_lit 111,nat_lit 110,nat_lit 109,nat_lit 101,nat_lit 110,nat_lit 116,nat_lit 69,nat_lit 114,nat_lit 114,nat_lit 111,nat_lit 114]⟩⟩
def z152 : Str := ⟨⟨[nat_lit 73,nat_lit 79,nat_lit 69,nat_lit 114,nat_lit 114,nat_lit 111,nat_lit 114]⟩⟩
def z153 : Str := ⟨⟨[nat_lit 111,nat_lit 112,nat_lit 101,nat_lit 110]⟩⟩
def z154 : Str := ⟨⟨[nat_lit 113,nat_lit 117,nat_lit 105,nat_lit 116]⟩⟩
def z155 : Str := ⟨⟨[nat_lit 101,nat_lit 120,nat_lit 105,nat_lit 116]⟩⟩
def z156 : Str := ⟨⟨[nat_lit 99,nat_lit 111,nat_lit 112,nat_lit 121,nat_lit 114,nat_lit 105,nat_lit 103,nat_lit 104,nat_lit 116]⟩⟩
def z157 : Str := ⟨⟨[nat_lit 99,nat_lit 114,nat_lit 101,nat_lit 100,nat_lit 105,nat_lit 116,nat_lit 115]⟩⟩
def z158 : Str := ⟨⟨[nat_lit 108,nat_lit 105,nat_lit 99,nat_lit 101,nat_lit 110,nat_lit 115,nat_lit 101]⟩⟩
def z159 : Str := ⟨⟨[nat_lit 104,nat_lit 101,nat_lit 108,nat_lit 112]⟩⟩
def z160 : Str := ⟨⟨[nat_lit 95,nat_lit 95,nat_lit 109,nat_lit 97,nat_lit 105,nat_lit 110,nat_lit 95,nat_lit 95]⟩⟩
def z161 : Str := ⟨⟨[nat_lit 116,nat_lit 121,nat_lit 112,nat_lit 101,nat_lit 46,nat_lit 95,nat_lit 95,nat_lit 115,nat_lit 117,nat_lit 98,nat_lit 99,nat_lit 108,nat_lit 97,nat_lit 115,nat_lit 115,nat_lit 101,nat_lit 115,nat_lit 95,nat_lit 95,nat_lit 46,nat_lit 69,nat_lit 120,nat_lit 99,nat_lit 101,nat_lit 112,nat_lit 116,nat_lit 105,nat_lit 111,nat_lit 110,nat_lit 46,nat_lit 48]⟩⟩
def z162 : Str := ⟨⟨[nat_lit 116,nat_lit 121,nat_lit 112,nat_lit 101,nat_lit 46,nat_lit 95,nat_lit 95,nat_lit 115,nat_lit 117,nat_lit 98,nat_lit 99,nat_lit 108,nat_lit 97,nat_lit 115,nat_lit 115,nat_lit 101,nat_lit 115,nat_lit 95,nat_lit 95,nat_lit 46,nat_lit 69,nat_lit 120,nat_lit 99,nat_lit 101,nat_lit 112,nat_lit 116,nat_lit 105,nat_lit 111,nat_lit 110,nat_lit 46,nat_lit 110]⟩⟩
def z163 : Str := ⟨⟨[nat_lit 108,nat_lit 97,nat_lit 119,nat_lit 95,nat_lit 112,nat_lit 113,nat_lit 49,nat_lit 52,nat_lit 49,nat_lit 54,nat_lit 95,nat_lit 48,nat_lit 49]⟩⟩
def z164 : Str := ⟨⟨[nat_lit 95,nat_lit 95,nat_lit 97,nat_lit 110,nat_lit 110,nat_lit 111,nat_lit 116,nat_lit 97,nat_lit 116,nat_lit 105,nat_lit 111,nat_lit 110,nat_lit 115,nat_lit 95,nat_lit 95]⟩⟩
def z165 : Str := ⟨⟨[nat_lit 95,nat_lit 95,nat_lit 98,nat_lit 117,nat_lit 105,nat_lit 108,nat_lit 116,nat_lit 105,nat_lit 110,nat_lit 115,nat_lit 95,nat_lit 95]⟩⟩
def z166 : Str := ⟨⟨[nat_lit 95,nat_lit 95,nat_lit 102,nat_lit 105,nat_lit 108,nat_lit 101,nat_lit 95,nat_lit 95]⟩⟩
def z167 : Str := ⟨⟨[nat_lit 47,nat_lit 99,nat_lit 108,nat_lit 97,nat_lit 105,nat_lit 109,nat_lit 47,nat_lit 99,nat_lit 117,nat_lit 116,nat_lit 46,nat_lit 112,nat_lit 121]⟩⟩
def z168 : Str := ⟨⟨[nat_lit 95,nat_lit 95,nat_lit 99,nat_lit 97,nat_lit 99,nat_lit 104,nat_lit 101,nat_lit 100,nat_lit 95,nat_lit 95]⟩⟩
def z169 : Str := ⟨⟨[nat_lit 95,nat_lit 119,nat_lit 97,nat_lit 108,nat_lit 108]⟩⟩
def z170 : Str := ⟨⟨[nat_lit 67,nat_lit 111,nat_lit 118,nat_lit 101,nat_lit 69,nat_lit 114,nat_lit 114,nat_lit 111,nat_lit 114]⟩⟩
def z171 : Str := ⟨⟨[nat_lit 82,nat_lit 101,nat_lit 102,nat_lit 117,nat_lit 115,nat_lit 97,nat_lit 108]⟩⟩
def z172 : Str := ⟨⟨[nat_lit 82,nat_lit 69,nat_lit 114,nat_lit 114,nat_lit 111,nat_lit 114]⟩⟩
def z173 : Str := ⟨⟨[nat_lit 76,nat_lit 105,nat_lit 109,nat_lit 105,nat_lit 116,nat_lit 82,nat_lit 101,nat_lit 97,nat_lit 99,nat_lit 104,nat_lit 101,nat_lit 100]⟩⟩
def z174 : Str := ⟨⟨[nat_lit 82,nat_lit 101,nat_lit 116,nat_lit 117,nat_lit 114,nat_lit 110,nat_lit 83,nat_lit 105,nat_lit 103,nat_lit 110,nat_lit 97,nat_lit 108]⟩⟩
def z175 : Str := ⟨⟨[nat_lit 76,nat_lit 111,nat_lit 111,nat_lit 112,nat_lit 83,nat_lit 105,nat_lit 103,nat_lit 110,nat_lit 97,nat_lit 108]⟩⟩
def z176 : Str := ⟨⟨[nat_lit 78,nat_lit 117,nat_lit 108,nat_lit 108]⟩⟩
def z177 : Str := ⟨⟨[nat_lit 77,nat_lit 105,nat_lit 115,nat_lit 115,nat_lit 105,nat_lit 110,nat_lit 103]⟩⟩
def z178 : Str := ⟨⟨[nat_lit 86,nat_lit 101,nat_lit 99,nat_lit 116,nat_lit 111,nat_lit 114]⟩⟩
def z179 : Str := ⟨⟨[nat_lit 83,nat_lit 121,nat_lit 109,nat_lit 98,nat_lit 111,nat_lit 108]⟩⟩
def z180 : Str := ⟨⟨[nat_lit 67,nat_lit 97,nat_lit 108,nat_lit 108]⟩⟩
def z181 : Str := ⟨⟨[nat_lit 67,nat_lit 108,nat_lit 111,nat_lit 115,nat_lit 117,nat_lit 114,nat_lit 101]⟩⟩
def z182 : Str := ⟨⟨[nat_lit 66,nat_lit 117,nat_lit 105,nat_lit 108,nat_lit 116,nat_lit 105,nat_lit 110]⟩⟩
def z183 : Str := ⟨⟨[nat_lit 69,nat_lit 110,nat_lit 118,nat_lit 105,nat_lit 114,nat_lit 111,nat_lit 110,nat_lit 109,nat_lit 101,nat_lit 110,nat_lit 116]⟩⟩
def z184 : Str := ⟨⟨[nat_lit 80,nat_lit 114,nat_lit 111,nat_lit 109,nat_lit 105,nat_lit 115,nat_lit 101]⟩⟩
def z185 : Str := ⟨⟨[nat_lit 68,nat_lit 111,nat_lit 116,nat_lit 115]⟩⟩
def z186 : Str := ⟨⟨[nat_lit 110,nat_lit 117,nat_lit 108,nat_lit 108]⟩⟩
def z187 : Str := ⟨⟨[nat_lit 109,nat_lit 105,nat_lit 115,nat_lit 115,nat_lit 105,nat_lit 110,nat_lit 103]⟩⟩
def z188 : Str := ⟨⟨[nat_lit 102,nat_lit 108,nat_lit 97,nat_lit 103]⟩⟩
def z189 : Str := ⟨⟨[nat_lit 116,nat_lit 101,nat_lit 120,nat_lit 116]⟩⟩
def z190 : Str := ⟨⟨[nat_lit 115,nat_lit 121,nat_lit 109,nat_lit 98,nat_lit 111,nat_lit 108]⟩⟩
def z191 : Str := ⟨⟨[nat_lit 105,nat_lit 115,nat_lit 95,nat_lit 97,nat_lit 116,nat_lit 111,nat_lit 109,nat_lit 105,nat_lit 99]⟩⟩
def z192 : Str := ⟨⟨[nat_lit 105,nat_lit 115,nat_lit 95,nat_lit 102,nat_lit 117,nat_lit 110,nat_lit 99,nat_lit 116,nat_lit 105,nat_lit 111,nat_lit 110]⟩⟩
def z193 : Str := ⟨⟨[nat_lit 115,nat_lit 104,nat_lit 97,nat_lit 114,nat_lit 101]⟩⟩
def z194 : Str := ⟨⟨[nat_lit 77,nat_lit 97,nat_lit 116,nat_lit 99,nat_lit 104,nat_lit 105,nat_lit 110,nat_lit 103]⟩⟩
def z195 : Str := ⟨⟨[nat_lit 100,nat_lit 111,nat_lit 117,nat_lit 98,nat_lit 108,nat_lit 101,nat_lit 100,nat_lit 95,nat_lit 116,nat_lit 101,nat_lit 120,nat_lit 116]⟩⟩
def z196 : Str := ⟨⟨[nat_lit 97,nat_lit 114,nat_lit 103,nat_lit 117,nat_lit 109,nat_lit 101,nat_lit 110,nat_lit 116,nat_lit 95,nat_lit 116,nat_lit 101,nat_lit 120,nat_lit 116]⟩⟩
def z197 : Str := ⟨⟨[nat_lit 112,nat_lit 108,nat_lit 97,nat_lit 105,nat_lit 110,nat_lit 95,nat_lit 116,nat_lit 101,nat_lit 120,nat_lit 116]⟩⟩
def z198 : Str := ⟨⟨[nat_lit 117,nat_lit 110,nat_lit 117,nat_lit 115,nat_lit 101,nat_lit 100,nat_lit 95,nat_lit 116,nat_lit 101,nat_lit 120,nat_lit 116]⟩⟩
def z199 : Str := ⟨⟨[nat_lit 109,nat_lit 97,nat_lit 116,nat_lit 99,nat_lit 104,nat_lit 95,nat_lit 110,nat_lit 97,nat_lit 109,nat_lit 101,nat_lit 115]⟩⟩
def z200 : Str := ⟨⟨[nat_lit 103,nat_lit 101,nat_lit 116,nat_lit 95,nat_lit 97,nat_lit 116,nat_lit 116,nat_lit 114]⟩⟩
def z201 : Str := ⟨⟨[nat_lit 100,nat_lit 105,nat_lit 109,nat_lit 95,nat_lit 111,nat_lit 102]⟩⟩
def z202 : Str := ⟨⟨[nat_lit 99,nat_lit 108,nat_lit 97,nat_lit 115,nat_lit 115,nat_lit 95,nat_lit 97,nat_lit 116,nat_lit 116,nat_lit 114]⟩⟩
def z203 : Str := ⟨⟨[nat_lit 108,nat_lit 97,nat_lit 110,nat_lit 103,nat_lit 117,nat_lit 97,nat_lit 103,nat_lit 101,nat_lit 95,nat_lit 99,nat_lit 108,nat_lit 97,nat_lit 115,nat_lit 115]⟩⟩
def z204 : Str := ⟨⟨[nat_lit 115,nat_lit 104,nat_lit 97,nat_lit 112,nat_lit 101,nat_lit 95,nat_lit 99,nat_lit 108,nat_lit 97,nat_lit 115,nat_lit 115]⟩⟩
def z205 : Str := ⟨⟨[nat_lit 112,nat_lit 108,nat_lit 97,nat_lit 105,nat_lit 110,nat_lit 95,nat_lit 99,nat_lit 108,nat_lit 97,nat_lit 115,nat_lit 115]⟩⟩
def z206 : Str := ⟨⟨[nat_lit 105,nat_lit 109,nat_lit 112,nat_lit 108,nat_lit 105,nat_lit 99,nat_lit 105,nat_lit 116,nat_lit 95,nat_lit 99,nat_lit 108,nat_lit 97,nat_lit 115,nat_lit 115]⟩⟩
def z207 : Str := ⟨⟨[nat_lit 68,nat_lit 105,nat_lit 115,nat_lit 112,nat_lit 97,nat_lit 116,nat_lit 99,nat_lit 104]⟩⟩
def z208 : Str := ⟨⟨[nat_lit 100,nat_lit 105,nat_lit 115,nat_lit 112,nat_lit 97,nat_lit 116,nat_lit 99,nat_lit 104,nat_lit 95,nat_lit 99,nat_lit 108,nat_lit 97,nat_lit 115,nat_lit 115]⟩⟩
def z209 : Str := ⟨⟨[nat_lit 102,nat_lit 117,nat_lit 110,nat_lit 99,nat_lit 116,nat_lit 105,nat_lit 111,nat_lit 110,nat_lit 95,nat_lit 102,nat_lit 114,nat_lit 111,nat_lit 109]⟩⟩
def z210 : Str := ⟨⟨[nat_lit 102,nat_lit 105,nat_lit 110,nat_lit 100,nat_lit 95,nat_lit 109,nat_lit 101,nat_lit 116,nat_lit 104,nat_lit 111,nat_lit 100]⟩⟩
def z211 : Str := ⟨⟨[nat_lit 102,nat_lit 105,nat_lit 114,nat_lit 115,nat_lit 116,nat_lit 95,nat_lit 109,nat_lit 101,nat_lit 116,nat_lit 104,nat_lit 111,nat_lit 100]⟩⟩
def z212 : Str := ⟨⟨[nat_lit 100,nat_lit 101,nat_lit 102,nat_lit 97,nat_lit 117,nat_lit 108,nat_lit 116,nat_lit 95,nat_lit 109,nat_lit 101,nat_lit 116,nat_lit 104,nat_lit 111,nat_lit 100]⟩⟩
def z213 : Str := ⟨⟨[nat_lit 112,nat_lit 108,nat_lit 97,nat_lit 105,nat_lit 110,nat_lit 95,nat_lit 118,nat_lit 97,nat_lit 108,nat_lit 117,nat_lit 101]⟩⟩
def z214 : Str := ⟨⟨[nat_lit 112,nat_lit 108,nat_lit 97,nat_lit 105,nat_lit 110,nat_lit 95,nat_lit 102,nat_lit 111,nat_lit 114,nat_lit 109]⟩⟩
def z215 : Str := ⟨⟨[nat_lit 113,nat_lit 117,nat_lit 111,nat_lit 116,nat_lit 101,nat_lit 100,nat_lit 95,nat_lit 99,nat_lit 97,nat_lit 108,nat_lit 108]⟩⟩
def z216 : Str := ⟨⟨[nat_lit 105,nat_lit 110,nat_lit 116,nat_lit 101,nat_lit 114,nat_lit 110,nat_lit 97,nat_lit 108,nat_lit 95,nat_lit 99,nat_lit 97,nat_lit 108,nat_lit 108]⟩⟩
def z217 : Str := ⟨⟨[nat_lit 99,nat_lit 97,nat_lit 108,nat_lit 108,nat_lit 95,nat_lit 109,nat_lit 101,nat_lit 116,nat_lit 104,nat_lit 111,nat_lit 100]⟩⟩
def z218 : Str := ⟨⟨[nat_lit 108,nat_lit 111,nat_lit 111,nat_lit 107,nat_lit 117,nat_lit 112,nat_lit 95,nat_lit 104,nat_lit 101,nat_lit 114,nat_lit 101]⟩⟩
def z219 : Str := ⟨⟨[nat_lit 108,nat_lit 111,nat_lit 111,nat_lit 107,nat_lit 117,nat_lit 112]⟩⟩
def z220 : Str := ⟨⟨[nat_lit 100,nat_lit 111,nat_lit 110,nat_lit 101,nat_lit 95,nat_lit 112,nat_lit 114,nat_lit 111,nat_lit 109,nat_lit 105,nat_lit 115,nat_lit 101]⟩⟩
def z221 : Str := ⟨⟨[nat_lit 98,nat_lit 111,nat_lit 117,nat_lit 110,nat_lit 100,nat_lit 95,nat_lit 97,nat_lit 114,nat_lit 103,nat_lit 117,nat_lit 109,nat_lit 101,nat_lit 110,nat_lit 116]⟩⟩
def z222 : Str := ⟨⟨[nat_lit 100,nat_lit 111,nat_lit 116,nat_lit 115,nat_lit 95,nat_lit 97,nat_lit 114,nat_lit 103,nat_lit 117,nat_lit 109,nat_lit 101,nat_lit 110,nat_lit 116]⟩⟩
def z223 : Str := ⟨⟨[nat_lit 100,nat_lit 101,nat_lit 102,nat_lit 97,nat_lit 117,nat_lit 108,nat_lit 116,nat_lit 95,nat_lit 98,nat_lit 105,nat_lit 110,nat_lit 100,nat_lit 105,nat_lit 110,nat_lit 103]⟩⟩
def z224 : Str := ⟨⟨[nat_lit 98,nat_lit 105,nat_lit 110,nat_lit 100,nat_lit 95,nat_lit 102,nat_lit 111,nat_lit 114,nat_lit 109,nat_lit 97,nat_lit 108,nat_lit 115]⟩⟩
def z225 : Str := ⟨⟨[nat_lit 100,nat_lit 111,nat_lit 116,nat_lit 115,nat_lit 95,nat_lit 111,nat_lit 102]⟩⟩
def z226 : Str := ⟨⟨[nat_lit 105,nat_lit 115,nat_lit 95,nat_lit 100,nat_lit 111,nat_lit 116,nat_lit 115,nat_lit 95,nat_lit 112,nat_lit 108,nat_lit 97,nat_lit 99,nat_lit 101]⟩⟩
def z227 : Str := ⟨⟨[nat_lit 100,nat_lit 111,nat_lit 116,nat_lit 115,nat_lit 95,nat_lit 112,nat_lit 108,nat_lit 97,nat_lit 99,nat_lit 101]⟩⟩
def z228 : Str := ⟨⟨[nat_lit 102,nat_lit 114,nat_lit 97,nat_lit 109,nat_lit 101,nat_lit 95,nat_lit 111,nat_lit 102]⟩⟩
def z229 : Str := ⟨⟨[nat_lit 105,nat_lit 115,nat_lit 95,nat_lit 101,nat_lit 109,nat_lit 112,nat_lit 116,nat_lit 121,nat_lit 95,nat_lit 102,nat_lit 111,nat_lit 114,nat_lit 109,nat_lit 97,nat_lit 108]⟩⟩
def z230 : Str := ⟨⟨[nat_lit 105,nat_lit 115,nat_lit 95,nat_lit 101,nat_lit 109,nat_lit 112,nat_lit 116,nat_lit 121,nat_lit 95,nat_lit 110,nat_lit 97,nat_lit 109,nat_lit 101]⟩⟩
def z231 : Str := ⟨⟨[nat_lit 105,nat_lit 115,nat_lit 95,nat_lit 117,nat_lit 110,nat_lit 116,nat_lit 97,nat_lit 103,nat_lit 103,nat_lit 101,nat_lit 100]⟩⟩
def z232 : Str := ⟨⟨[nat_lit 102,nat_lit 105,nat_lit 114,nat_lit 115,nat_lit 116,nat_lit 95,nat_lit 97,nat_lit 114,nat_lit 103,nat_lit 117,nat_lit 109,nat_lit 101,nat_lit 110,nat_lit 116]⟩⟩
def z233 : Str := ⟨⟨[nat_lit 111,nat_lit 110,nat_lit 101,nat_lit 95,nat_lit 116,nat_lit 101,nat_lit 120,nat_lit 116]⟩⟩
def z234 : Str := ⟨⟨[nat_lit 99,nat_lit 108,nat_lit 97,nat_lit 115,nat_lit 115,nat_lit 95,nat_lit 119,nat_lit 111,nat_lit 114,nat_lit 100,nat_lit 115]⟩⟩
def z235 : Str := ⟨⟨[nat_lit 105,nat_lit 110,nat_lit 110,nat_lit 101,nat_lit 114,nat_lit 95,nat_lit 102,nat_lit 117,nat_lit 110,nat_lit 99,nat_lit 116,nat_lit 105,nat_lit 111,nat_lit 110]⟩⟩
def z236 : Str := ⟨⟨[nat_lit 99,nat_lit 104,nat_lit 101,nat_lit 99,nat_lit 107,nat_lit 95,nat_lit 101,nat_lit 109,nat_lit 112,nat_lit 116,nat_lit 121]⟩⟩
def z237 : Str := ⟨⟨[nat_lit 109,nat_lit 101,nat_lit 116,nat_lit 104,nat_lit 111,nat_lit 100,nat_lit 95,nat_lit 118,nat_lit 97,nat_lit 108,nat_lit 117,nat_lit 101]⟩⟩
def z238 : Str := ⟨⟨[nat_lit 115,nat_lit 95,nat_lit 85,nat_lit 115,nat_lit 101,nat_lit 77,nat_lit 101,nat_lit 116,nat_lit 104,nat_lit 111,nat_lit 100]⟩⟩
def z239 : Str := ⟨⟨[nat_lit 70,nat_lit 114,nat_lit 97,nat_lit 109,nat_lit 101]⟩⟩
def z240 : Str := ⟨⟨[nat_lit 69,nat_lit 118,nat_lit 97,nat_lit 108,nat_lit 117,nat_lit 97,nat_lit 116,nat_lit 111,nat_lit 114]⟩⟩
def z241 : Str := ⟨⟨[nat_lit 104,nat_lit 97,nat_lit 110,nat_lit 100,nat_lit 115,nat_lit 95,nat_lit 111,nat_lit 110]⟩⟩
def z242 : Str := ⟨⟨[nat_lit 95,nat_lit 108,nat_lit 97,nat_lit 119,nat_lit 95,nat_lit 116,nat_lit 97,nat_lit 107,nat_lit 101]⟩⟩
def z243 : Str := ⟨⟨[nat_lit 95,nat_lit 108,nat_lit 97,nat_lit 119,nat_lit 95,nat_lit 116,nat_lit 101,nat_lit 108,nat_lit 108,nat_lit 101,nat_lit 114]⟩⟩
def z244 : Str := ⟨⟨[nat_lit 95,nat_lit 108,nat_lit 97,nat_lit 119,nat_lit 95,nat_lit 117,nat_lit 115,nat_lit 101]⟩⟩
def z245 : Str := ⟨⟨[nat_lit 108,nat_lit 97,nat_lit 119]⟩⟩
def z246 : Str := ⟨⟨[nat_lit 95,nat_lit 95,nat_lit 109,nat_lit 111,nat_lit 100,nat_lit 117,nat_lit 108,nat_lit 101,nat_lit 95,nat_lit 95]⟩⟩
def z247 : Str := ⟨⟨[nat_lit 118,nat_lit 101,nat_lit 99,nat_lit 116,nat_lit 111,nat_lit 114,nat_lit 99,nat_lit 111,nat_lit 118,nat_lit 101,nat_lit 46,nat_lit 101,nat_lit 114,nat_lit 114,nat_lit 111,nat_lit 114,nat_lit 115]⟩⟩
def z248 : Str := ⟨⟨[nat_lit 95,nat_lit 95,nat_lit 102,nat_lit 105,nat_lit 114,nat_lit 115,nat_lit 116,nat_lit 108,nat_lit 105,nat_lit 110,nat_lit 101,nat_lit 110,nat_lit 111,nat_lit 95,nat_lit 95]⟩⟩
def z249 : Str := ⟨⟨[nat_lit 95,nat_lit 95,nat_lit 115,nat_lit 116,nat_lit 97,nat_lit 116,nat_lit 105,nat_lit 99,nat_lit 95,nat_lit 97,nat_lit 116,nat_lit 116,nat_lit 114,nat_lit 105,nat_lit 98,nat_lit 117,nat_lit 116,nat_lit 101,nat_lit 115,nat_lit 95,nat_lit 95]⟩⟩
def z250 : Str := ⟨⟨[nat_lit 95,nat_lit 95,nat_lit 119,nat_lit 101,nat_lit 97,nat_lit 107,nat_lit 114,nat_lit 101,nat_lit 102,nat_lit 95,nat_lit 95]⟩⟩
def z251 : Str := ⟨⟨[nat_lit 95,nat_lit 95,nat_lit 105,nat_lit 110,nat_lit 105,nat_lit 116,nat_lit 95,nat_lit 95]⟩⟩
def z252 : Str := ⟨⟨[nat_lit 82,nat_lit 101,nat_lit 102,nat_lit 117,nat_lit 115,nat_lit 97,nat_lit 108,nat_lit 46,nat_lit 95,nat_lit 95,nat_lit 105,nat_lit 110,nat_lit 105,nat_lit 116,nat_lit 95,nat_lit 95]⟩⟩
def z253 : Str := ⟨⟨[nat_lit 82,nat_lit 69,nat_lit 114,nat_lit 114,nat_lit 111,nat_lit 114,nat_lit 46,nat_lit 95,nat_lit 95,nat_lit 105,nat_lit 110,nat_lit 105,nat_lit 116,nat_lit 95,nat_lit 95]⟩⟩
def z254 : Str := ⟨⟨[nat_lit 82,nat_lit 101,nat_lit 116,nat_lit 117,nat_lit 114,nat_lit 110,nat_lit 83,nat_lit 105,nat_lit 103,nat_lit 110,nat_lit 97,nat_lit 108,nat_lit 46,nat_lit 95,nat_lit 95,nat_lit 105,nat_lit 110,nat_lit 105,nat_lit 116,nat_lit 95,nat_lit 95]⟩⟩
def z255 : Str := ⟨⟨[nat_lit 78,nat_lit 117,nat_lit 108,nat_lit 108,nat_lit 46,nat_lit 95,nat_lit 95,nat_lit 105,nat_lit 110,nat_lit 105,nat_lit 116,nat_lit 95,nat_lit 95]⟩⟩
def z256 : Str := ⟨⟨[nat_lit 118,nat_lit 101,nat_lit 99,nat_lit 116,nat_lit 111,nat_lit 114,nat_lit 99,nat_lit 111,nat_lit 118,nat_lit 101,nat_lit 46,nat_lit 118,nat_lit 97,nat_lit 108,nat_lit 117,nat_lit 101,nat_lit 115]⟩⟩
def z257 : Str := ⟨⟨[nat_lit 95,nat_lit 95,nat_lit 100,nat_lit 105,nat_lit 99,nat_lit 116,nat_lit 95,nat_lit 95]⟩⟩
def z258 : Str := ⟨⟨[nat_lit 77,nat_lit 105,nat_lit 115,nat_lit 115,nat_lit 105,nat_lit 110,nat_lit 103,nat_lit 46,nat_lit 95,nat_lit 95,nat_lit 105,nat_lit 110,nat_lit 105,nat_lit 116,nat_lit 95,nat_lit 95]⟩⟩
def z259 : Str := ⟨⟨[nat_lit 86,nat_lit 101,nat_lit 99,nat_lit 116,nat_lit 111,nat_lit 114,nat_lit 46,nat_lit 95,nat_lit 95,nat_lit 105,nat_lit 110,nat_lit 105,nat_lit 116,nat_lit 95,nat_lit 95]⟩⟩
def z260 : Str := ⟨⟨[nat_lit 99,nat_lit 111,nat_lit 112,nat_lit 121]⟩⟩
def z261 : Str := ⟨⟨[nat_lit 83,nat_lit 121,nat_lit 109,nat_lit 98,nat_lit 111,nat_lit 108,nat_lit 46,nat_lit 95,nat_lit 95,nat_lit 105,nat_lit 110,nat_lit 105,nat_lit 116,nat_lit 95,nat_lit 95]⟩⟩
def z262 : Str := ⟨⟨[nat_lit 67,nat_lit 97,nat_lit 108,nat_lit 108,nat_lit 46,nat_lit 95,nat_lit 95,nat_lit 105,nat_lit 110,nat_lit 105,nat_lit 116,nat_lit 95,nat_lit 95]⟩⟩
def z263 : Str := ⟨⟨[nat_lit 67,nat_lit 108,nat_lit 111,nat_lit 115,nat_lit 117,nat_lit 114,nat_lit 101,nat_lit 46,nat_lit 95,nat_lit 95,nat_lit 105,nat_lit 110,nat_lit 105,nat_lit 116,nat_lit 95,nat_lit 95]⟩⟩
def z264 : Str := ⟨⟨[nat_lit 66,nat_lit 117,nat_lit 105,nat_lit 108,nat_lit 116,nat_lit 105,nat_lit 110,nat_lit 46,nat_lit 95,nat_lit 95,nat_lit 105,nat_lit 110,nat_lit 105,nat_lit 116,nat_lit 95,nat_lit 95]⟩⟩
def z265 : Str := ⟨⟨[nat_lit 69,nat_lit 110,nat_lit 118,nat_lit 105,nat_lit 114,nat_lit 111,nat_lit 110,nat_lit 109,nat_lit 101,nat_lit 110,nat_lit 116,nat_lit 46,nat_lit 95,nat_lit 95,nat_lit 105,nat_lit 110,nat_lit 105,nat_lit 116,nat_lit 95,nat_lit 95]⟩⟩
def z266 : Str := ⟨⟨[nat_lit 80,nat_lit 114,nat_lit 111,nat_lit 109,nat_lit 105,nat_lit 115,nat_lit 101,nat_lit 46,nat_lit 95,nat_lit 95,nat_lit 105,nat_lit 110,nat_lit 105,nat_lit 116,nat_lit 95,nat_lit 95]⟩⟩
def z267 : Str := ⟨⟨[nat_lit 77,nat_lit 97,nat_lit 116,nat_lit 99,nat_lit 104,nat_lit 105,nat_lit 110,nat_lit 103,nat_lit 46,nat_lit 95,nat_lit 95,nat_lit 105,nat_lit 110,nat_lit 105,nat_lit 116,nat_lit 95,nat_lit 95]⟩⟩
def z268 : Str := ⟨⟨[nat_lit 118,nat_lit 101,nat_lit 99,nat_lit 116,nat_lit 111,nat_lit 114,nat_lit 99,nat_lit 111,nat_lit 118,nat_lit 101,nat_lit 46,nat_lit 99,nat_lit 97,nat_lit 108,nat_lit 108,nat_lit 97,nat_lit 114,nat_lit 103,nat_lit 115]⟩⟩
def z269 : Str := ⟨⟨[nat_lit 101,nat_lit 120,nat_lit 97,nat_lit 99,nat_lit 116]⟩⟩
def z270 : Str := ⟨⟨[nat_lit 77,nat_lit 97,nat_lit 116,nat_lit 99,nat_lit 104,nat_lit 105,nat_lit 110,nat_lit 103,nat_lit 46,nat_lit 101,nat_lit 120,nat_lit 97,nat_lit 99,nat_lit 116]⟩⟩
def z271 : Str := ⟨⟨[nat_lit 112,nat_lit 97,nat_lit 114,nat_lit 116,nat_lit 105,nat_lit 97,nat_lit 108]⟩⟩
def z272 : Str := ⟨⟨[nat_lit 77,nat_lit 97,nat_lit 116,nat_lit 99,nat_lit 104,nat_lit 105,nat_lit 110,nat_lit 103,nat_lit 46,nat_lit 112,nat_lit 97,nat_lit 114,nat_lit 116,nat_lit 105,nat_lit 97,nat_lit 108]⟩⟩
def z273 : Str := ⟨⟨[nat_lit 112,nat_lit 97,nat_lit 114,nat_lit 116,nat_lit 105,nat_lit 97,nat_lit 108,nat_lit 95,nat_lit 111,nat_lit 102]⟩⟩
def z274 : Str := ⟨⟨[nat_lit 77,nat_lit 97,nat_lit 116,nat_lit 99,nat_lit 104,nat_lit 105,nat_lit 110,nat_lit 103,nat_lit 46,nat_lit 112,nat_lit 97,nat_lit 114,nat_lit 116,nat_lit 105,nat_lit 97,nat_lit 108,nat_lit 95,nat_lit 111,nat_lit 102]⟩⟩
def z275 : Str := ⟨⟨[nat_lit 112,nat_lit 111,nat_lit 115,nat_lit 105,nat_lit 116,nat_lit 105,nat_lit 111,nat_lit 110,nat_lit 97,nat_lit 108]⟩⟩
def z276 : Str := ⟨⟨[nat_lit 77,nat_lit 97,nat_lit 116,nat_lit 99,nat_lit 104,nat_lit 105,nat_lit 110,nat_lit 103,nat_lit 46,nat_lit 112,nat_lit 111,nat_lit 115,nat_lit 105,nat_lit 116,nat_lit 105,nat_lit 111,nat_lit 110,nat_lit 97,nat_lit 108]⟩⟩
def z277 : Str := ⟨⟨[nat_lit 105,nat_lit 115,nat_lit 95,nat_lit 102,nat_lit 114,nat_lit 101,nat_lit 101]⟩⟩
def z278 : Str := ⟨⟨[nat_lit 77,nat_lit 97,nat_lit 116,nat_lit 99,nat_lit 104,nat_lit 105,nat_lit 110,nat_lit 103,nat_lit 46,nat_lit 105,nat_lit 115,nat_lit 95,nat_lit 102,nat_lit 114,nat_lit 101,nat_lit 101]⟩⟩
def z279 : Str := ⟨⟨[nat_lit 114,nat_lit 101,nat_lit 115,nat_lit 116]⟩⟩
def z280 : Str := ⟨⟨[nat_lit 77,nat_lit 97,nat_lit 116,nat_lit 99,nat_lit 104,nat_lit 105,nat_lit 110,nat_lit 103,nat_lit 46,nat_lit 114,nat_lit 101,nat_lit 115,nat_lit 116]⟩⟩
def z281 : Str := ⟨⟨[nat_lit 118,nat_lit 101,nat_lit 99,nat_lit 116,nat_lit 111,nat_lit 114,nat_lit 99,nat_lit 111,nat_lit 118,nat_lit 101,nat_lit 46,nat_lit 97,nat_lit 116,nat_lit 116,nat_lit 114,nat_lit 115]⟩⟩
def z282 : Str := ⟨⟨[nat_lit 68,nat_lit 105,nat_lit 115,nat_lit 112,nat_lit 97,nat_lit 116,nat_lit 99,nat_lit 104,nat_lit 46,nat_lit 95,nat_lit 95,nat_lit 105,nat_lit 110,nat_lit 105,nat_lit 116,nat_lit 95,nat_lit 95]⟩⟩
def z283 : Str := ⟨⟨[nat_lit 118,nat_lit 101,nat_lit 99,nat_lit 116,nat_lit 111,nat_lit 114,nat_lit 99,nat_lit 111,nat_lit 118,nat_lit 101,nat_lit 46,nat_lit 100,nat_lit 105,nat_lit 115,nat_lit 112,nat_lit 97,nat_lit 116,nat_lit 99,nat_lit 104]⟩⟩
def z284 : Str := ⟨⟨[nat_lit 118,nat_lit 101,nat_lit 99,nat_lit 116,nat_lit 111,nat_lit 114,nat_lit 99,nat_lit 111,nat_lit 118,nat_lit 101,nat_lit 46,nat_lit 115,nat_lit 99,nat_lit 111,nat_lit 112,nat_lit 101]⟩⟩
def z285 : Str := ⟨⟨[nat_lit 118,nat_lit 101,nat_lit 99,nat_lit 116,nat_lit 111,nat_lit 114,nat_lit 99,nat_lit 111,nat_lit 118,nat_lit 101,nat_lit 46,nat_lit 102,nat_lit 117,nat_lit 110,nat_lit 99,nat_lit 97,nat_lit 108,nat_lit 108]⟩⟩
def z286 : Str := ⟨⟨[nat_lit 118,nat_lit 101,nat_lit 99,nat_lit 116,nat_lit 111,nat_lit 114,nat_lit 99,nat_lit 111,nat_lit 118,nat_lit 101,nat_lit 46,nat_lit 117,nat_lit 115,nat_lit 101,nat_lit 109,nat_lit 101,nat_lit 116,nat_lit 104,nat_lit 111,nat_lit 100]⟩⟩
def z287 : Str := ⟨⟨[nat_lit 70,nat_lit 114,nat_lit 97,nat_lit 109,nat_lit 101,nat_lit 46,nat_lit 95,nat_lit 95,nat_lit 105,nat_lit 110,nat_lit 105,nat_lit 116,nat_lit 95,nat_lit 95]⟩⟩
def z288 : Str := ⟨⟨[nat_lit 118,nat_lit 101,nat_lit 99,nat_lit 116,nat_lit 111,nat_lit 114,nat_lit 99,nat_lit 111,nat_lit 118,nat_lit 101,nat_lit 46,nat_lit 101,nat_lit 118,nat_lit 97,nat_lit 108,nat_lit 117,nat_lit 97,nat_lit 116,nat_lit 111,nat_lit 114]⟩⟩
def z289 : Str := ⟨⟨[nat_lit 69,nat_lit 118,nat_lit 97,nat_lit 108,nat_lit 117,nat_lit 97,nat_lit 116,nat_lit 111,nat_lit 114,nat_lit 46,nat_lit 95,nat_lit 95,nat_lit 105,nat_lit 110,nat_lit 105,nat_lit 116,nat_lit 95,nat_lit 95]⟩⟩
def z290 : Str := ⟨⟨[nat_lit 110,nat_lit 101,nat_lit 119,nat_lit 95,nat_lit 101,nat_lit 110,nat_lit 118]⟩⟩
def z291 : Str := ⟨⟨[nat_lit 69,nat_lit 118,nat_lit 97,nat_lit 108,nat_lit 117,nat_lit 97,nat_lit 116,nat_lit 111,nat_lit 114,nat_lit 46,nat_lit 110,nat_lit 101,nat_lit 119,nat_lit 95,nat_lit 101,nat_lit 110,nat_lit 118]⟩⟩
def z292 : Str := ⟨⟨[]⟩⟩
def z293 : Str := ⟨⟨[nat_lit 100,nat_lit 101,nat_lit 102,nat_lit 105,nat_lit 110,nat_lit 101]⟩⟩
def z294 : Str := ⟨⟨[nat_lit 69,nat_lit 118,nat_lit 97,nat_lit 108,nat_lit 117,nat_lit 97,nat_lit 116,nat_lit 111,nat_lit 114,nat_lit 46,nat_lit 100,nat_lit 101,nat_lit 102,nat_lit 105,nat_lit 110,nat_lit 101]⟩⟩
def z295 : Str := ⟨⟨[nat_lit 116,nat_lit 105,nat_lit 99,nat_lit 107]⟩⟩
def z296 : Str := ⟨⟨[nat_lit 69,nat_lit 118,nat_lit 97,nat_lit 108,nat_lit 117,nat_lit 97,nat_lit 116,nat_lit 111,nat_lit 114,nat_lit 46,nat_lit 116,nat_lit 105,nat_lit 99,nat_lit 107]⟩⟩
def z297 : Str := ⟨⟨[nat_lit 115,nat_lit 105,nat_lit 103,nat_lit 110,nat_lit 97,nat_lit 108,nat_lit 95,nat_lit 101,nat_lit 114,nat_lit 114,nat_lit 111,nat_lit 114]⟩⟩
def z298 : Str := ⟨⟨[nat_lit 69,nat_lit 118,nat_lit 97,nat_lit 108,nat_lit 117,nat_lit 97,nat_lit 116,nat_lit 111,nat_lit 114,nat_lit 46,nat_lit 115,nat_lit 105,nat_lit 103,nat_lit 110,nat_lit 97,nat_lit 108,nat_lit 95,nat_lit 101,nat_lit 114,nat_lit 114,nat_lit 111,nat_lit 114]⟩⟩
def z299 : Str := ⟨⟨[nat_lit 69,nat_lit 118,nat_lit 97,nat_lit 108,nat_lit 117,nat_lit 97,nat_lit 116,nat_lit 111,nat_lit 114,nat_lit 46,nat_lit 101,nat_lit 118,nat_lit 97,nat_lit 108]⟩⟩
def z300 : Str := ⟨⟨[nat_lit 118,nat_lit 97,nat_lit 114,nat_lit 105,nat_lit 97,nat_lit 98,nat_lit 108,nat_lit 101]⟩⟩
def z301 : Str := ⟨⟨[nat_lit 69,nat_lit 118,nat_lit 97,nat_lit 108,nat_lit 117,nat_lit 97,nat_lit 116,nat_lit 111,nat_lit 114,nat_lit 46,nat_lit 118,nat_lit 97,nat_lit 114,nat_lit 105,nat_lit 97,nat_lit 98,nat_lit 108,nat_lit 101]⟩⟩
def z302 : Str := ⟨⟨[nat_lit 102,nat_lit 111,nat_lit 114,nat_lit 99,nat_lit 101]⟩⟩
def z303 : Str := ⟨⟨[nat_lit 69,nat_lit 118,nat_lit 97,nat_lit 108,nat_lit 117,nat_lit 97,nat_lit 116,nat_lit 111,nat_lit 114,nat_lit 46,nat_lit 102,nat_lit 111,nat_lit 114,nat_lit 99,nat_lit 101]⟩⟩
def z304 : Str := ⟨⟨[nat_lit 102,nat_lit 105,nat_lit 110,nat_lit 100,nat_lit 95,nat_lit 102,nat_lit 117,nat_lit 110,nat_lit 99,nat_lit 116,nat_lit 105,nat_lit 111,nat_lit 110]⟩⟩
def z305 : Str := ⟨⟨[nat_lit 69,nat_lit 118,nat_lit 97,nat_lit 108,nat_lit 117,nat_lit 97,nat_lit 116,nat_lit 111,nat_lit 114,nat_lit 46,nat_lit 102,nat_lit 105,nat_lit 110,nat_lit 100,nat_lit 95,nat_lit 102,nat_lit 117,nat_lit 110,nat_lit 99,nat_lit 116,nat_lit 105,nat_lit 111,nat_lit 110]⟩⟩
def z306 : Str := ⟨⟨[nat_lit 102,nat_lit 117,nat_lit 110,nat_lit 99,nat_lit 116,nat_lit 105,nat_lit 111,nat_lit 110,nat_lit 95,nat_lit 111,nat_lit 102]⟩⟩
def z307 : Str := ⟨⟨[nat_lit 69,nat_lit 118,nat_lit 97,nat_lit 108,nat_lit 117,nat_lit 97,nat_lit 116,nat_lit 111,nat_lit 114,nat_lit 46,nat_lit 102,nat_lit 117,nat_lit 110,nat_lit 99,nat_lit 116,nat_lit 105,nat_lit 111,nat_lit 110,nat_lit 95,nat_lit 111,nat_lit 102]⟩⟩
def z308 : Str := ⟨⟨[nat_lit 112,nat_lit 108,nat_lit 97,nat_lit 105,nat_lit 110,nat_lit 95,nat_lit 99,nat_lit 97,nat_lit 108,nat_lit 108]⟩⟩
def z309 : Str := ⟨⟨[nat_lit 69,nat_lit 118,nat_lit 97,nat_lit 108,nat_lit 117,nat_lit 97,nat_lit 116,nat_lit 111,nat_lit 114,nat_lit 46,nat_lit 112,nat_lit 108,nat_lit 97,nat_lit 105,nat_lit 110,nat_lit 95,nat_lit 99,nat_lit 97,nat_lit 108,nat_lit 108]⟩⟩
def z310 : Str := ⟨⟨[nat_lit 112,nat_lit 114,nat_lit 111,nat_lit 109,nat_lit 105,nat_lit 115,nat_lit 101,nat_lit 95,nat_lit 97,nat_lit 114,nat_lit 103,nat_lit 115]⟩⟩
def z311 : Str := ⟨⟨[nat_lit 69,nat_lit 118,nat_lit 97,nat_lit 108,nat_lit 117,nat_lit 97,nat_lit 116,nat_lit 111,nat_lit 114,nat_lit 46,nat_lit 112,nat_lit 114,nat_lit 111,nat_lit 109,nat_lit 105,nat_lit 115,nat_lit 101,nat_lit 95,nat_lit 97,nat_lit 114,nat_lit 103,nat_lit 115]⟩⟩
def z312 : Str := ⟨⟨[nat_lit 99,nat_lit 97,nat_lit 108,nat_lit 108,nat_lit 95,nat_lit 115,nat_lit 112,nat_lit 101,nat_lit 99,nat_lit 105,nat_lit 97,nat_lit 108]⟩⟩
def z313 : Str := ⟨⟨[nat_lit 69,nat_lit 118,nat_lit 97,nat_lit 108,nat_lit 117,nat_lit 97,nat_lit 116,nat_lit 111,nat_lit 114,nat_lit 46,nat_lit 99,nat_lit 97,nat_lit 108,nat_lit 108,nat_lit 95,nat_lit 115,nat_lit 112,nat_lit 101,nat_lit 99,nat_lit 105,nat_lit 97,nat_lit 108]⟩⟩
def z314 : Str := ⟨⟨[nat_lit 97,nat_lit 112,nat_lit 112,nat_lit 108,nat_lit 121,nat_lit 95,nat_lit 99,nat_lit 108,nat_lit 111,nat_lit 115,nat_lit 117,nat_lit 114,nat_lit 101]⟩⟩
def z315 : Str := ⟨⟨[nat_lit 69,nat_lit 118,nat_lit 97,nat_lit 108,nat_lit 117,nat_lit 97,nat_lit 116,nat_lit 111,nat_lit 114,nat_lit 46,nat_lit 97,nat_lit 112,nat_lit 112,nat_lit 108,nat_lit 121,nat_lit 95,nat_lit 99,nat_lit 108,nat_lit 111,nat_lit 115,nat_lit 117,nat_lit 114,nat_lit 101]⟩⟩
def z316 : Str := ⟨⟨[nat_lit 108,nat_lit 101,nat_lit 97,nat_lit 118,nat_lit 101]⟩⟩
def z317 : Str := ⟨⟨[nat_lit 69,nat_lit 118,nat_lit 97,nat_lit 108,nat_lit 117,nat_lit 97,nat_lit 116,nat_lit 111,nat_lit 114,nat_lit 46,nat_lit 108,nat_lit 101,nat_lit 97,nat_lit 118,nat_lit 101]⟩⟩
def z318 : Str := ⟨⟨[nat_lit 114,nat_lit 117,nat_lit 110,nat_lit 95,nat_lit 101,nat_lit 120,nat_lit 105,nat_lit 116,nat_lit 115]⟩⟩
def z319 : Str := ⟨⟨[nat_lit 69,nat_lit 118,nat_lit 97,nat_lit 108,nat_lit 117,nat_lit 97,nat_lit 116,nat_lit 111,nat_lit 114,nat_lit 46,nat_lit 114,nat_lit 117,nat_lit 110,nat_lit 95,nat_lit 101,nat_lit 120,nat_lit 105,nat_lit 116,nat_lit 115]⟩⟩
def z320 : Str := ⟨⟨[nat_lit 115,nat_lit 104,nat_lit 111,nat_lit 119,nat_lit 101,nat_lit 114]⟩⟩
def z321 : Str := ⟨⟨[nat_lit 69,nat_lit 118,nat_lit 97,nat_lit 108,nat_lit 117,nat_lit 97,nat_lit 116,nat_lit 111,nat_lit 114,nat_lit 46,nat_lit 115,nat_lit 104,nat_lit 111,nat_lit 119,nat_lit 101,nat_lit 114]⟩⟩
def z322 : Str := ⟨⟨[nat_lit 119,nat_lit 97,nat_lit 114,nat_lit 110,nat_lit 95,nat_lit 97,nat_lit 108,nat_lit 108]⟩⟩
def z323 : Str := ⟨⟨[nat_lit 114,nat_lit 117,nat_lit 110,nat_lit 110,nat_lit 105,nat_lit 110,nat_lit 103,nat_lit 95,nat_lit 99,nat_lit 97,nat_lit 108,nat_lit 108]⟩⟩
def z324 : Str := ⟨⟨[nat_lit 100,nat_lit 111,nat_lit 116,nat_lit 115,nat_lit 95,nat_lit 118,nat_lit 97,nat_lit 108,nat_lit 117,nat_lit 101]⟩⟩
def z325 : Str := ⟨⟨[nat_lit 101,nat_lit 118,nat_lit 97,nat_lit 108,nat_lit 95,nat_lit 99,nat_lit 97,nat_lit 108,nat_lit 108]⟩⟩
def z326 : Str := ⟨⟨[nat_lit 115,nat_lit 112,nat_lit 114,nat_lit 101,nat_lit 97,nat_lit 100,nat_lit 95,nat_lit 100,nat_lit 111,nat_lit 116,nat_lit 115]⟩⟩
def z327 : Str := ⟨⟨[nat_lit 101,nat_lit 97,nat_lit 103,nat_lit 101,nat_lit 114,nat_lit 95,nat_lit 97,nat_lit 114,nat_lit 103,nat_lit 115]⟩⟩
def z328 : Str := ⟨⟨[nat_lit 101,nat_lit 109,nat_lit 112,nat_lit 116,nat_lit 121,nat_lit 95,nat_lit 97,nat_lit 114,nat_lit 103]⟩⟩
def z329 : Str := ⟨⟨[nat_lit 99,nat_lit 97,nat_lit 108,nat_lit 108,nat_lit 95,nat_lit 98,nat_lit 117,nat_lit 105,nat_lit 108,nat_lit 116,nat_lit 105,nat_lit 110]⟩⟩
def z330 : Str := ⟨⟨[nat_lit 99,nat_lit 97,nat_lit 108,nat_lit 108,nat_lit 95,nat_lit 118,nat_lit 97,nat_lit 108,nat_lit 117,nat_lit 101]⟩⟩
def z331 : Str := ⟨⟨[nat_lit 114,nat_lit 117,nat_lit 110]⟩⟩
noncomputable def d3x0 : Stmt := nthS (nat_lit 0) (cBody (nthS (nat_lit 3) top0))
noncomputable def d4x0 : Stmt := nthS (nat_lit 0) (cBody (nthS (nat_lit 4) top0))
noncomputable def d6x0 : Stmt := nthS (nat_lit 0) (cBody (nthS (nat_lit 6) top0))
noncomputable def d9x0 : Stmt := nthS (nat_lit 0) (cBody (nthS (nat_lit 9) top0))
noncomputable def d10x0 : Stmt := nthS (nat_lit 0) (cBody (nthS (nat_lit 10) top0))
noncomputable def d11x0 : Stmt := nthS (nat_lit 0) (cBody (nthS (nat_lit 11) top0))
noncomputable def d12x0 : Stmt := nthS (nat_lit 0) (cBody (nthS (nat_lit 12) top0))
noncomputable def d13x0 : Stmt := nthS (nat_lit 0) (cBody (nthS (nat_lit 13) top0))
noncomputable def d14x0 : Stmt := nthS (nat_lit 0) (cBody (nthS (nat_lit 14) top0))
noncomputable def d15x0 : Stmt := nthS (nat_lit 0) (cBody (nthS (nat_lit 15) top0))
noncomputable def d16x0 : Stmt := nthS (nat_lit 0) (cBody (nthS (nat_lit 16) top0))
noncomputable def d17x0 : Stmt := nthS (nat_lit 0) (cBody (nthS (nat_lit 17) top0))
noncomputable def d19 : Stmt := nthS (nat_lit 19) top0
noncomputable def d25 : Stmt := nthS (nat_lit 25) top0
noncomputable def d26 : Stmt := nthS (nat_lit 26) top0
noncomputable def d28x0 : Stmt := nthS (nat_lit 0) (cBody (nthS (nat_lit 28) top0))
noncomputable def d28x1 : Stmt := nthS (nat_lit 1) (cBody (nthS (nat_lit 28) top0))
noncomputable def d28x2 : Stmt := nthS (nat_lit 2) (cBody (nthS (nat_lit 28) top0))
noncomputable def d28x3 : Stmt := nthS (nat_lit 3) (cBody (nthS (nat_lit 28) top0))
noncomputable def d28x4 : Stmt := nthS (nat_lit 4) (cBody (nthS (nat_lit 28) top0))
noncomputable def d28x5 : Stmt := nthS (nat_lit 5) (cBody (nthS (nat_lit 28) top0))
noncomputable def d28x6 : Stmt := nthS (nat_lit 6) (cBody (nthS (nat_lit 28) top0))
noncomputable def d29 : Stmt := nthS (nat_lit 29) top0
noncomputable def d30 : Stmt := nthS (nat_lit 30) top0
noncomputable def d31 : Stmt := nthS (nat_lit 31) top0
noncomputable def d32 : Stmt := nthS (nat_lit 32) top0
noncomputable def d33 : Stmt := nthS (nat_lit 33) top0
noncomputable def d35 : Stmt := nthS (nat_lit 35) top0
noncomputable def d37 : Stmt := nthS (nat_lit 37) top0
noncomputable def d43x0 : Stmt := nthS (nat_lit 0) (cBody (nthS (nat_lit 43) top0))
noncomputable def d44 : Stmt := nthS (nat_lit 44) top0
noncomputable def d45 : Stmt := nthS (nat_lit 45) top0
noncomputable def d46 : Stmt := nthS (nat_lit 46) top0
noncomputable def d47 : Stmt := nthS (nat_lit 47) top0
noncomputable def d49 : Stmt := nthS (nat_lit 49) top0
noncomputable def d52 : Stmt := nthS (nat_lit 52) top0
noncomputable def d53 : Stmt := nthS (nat_lit 53) top0
noncomputable def d56 : Stmt := nthS (nat_lit 56) top0
noncomputable def d58 : Stmt := nthS (nat_lit 58) top0
noncomputable def d59 : Stmt := nthS (nat_lit 59) top0
noncomputable def d62 : Stmt := nthS (nat_lit 62) top0
noncomputable def d64 : Stmt := nthS (nat_lit 64) top0
noncomputable def d66 : Stmt := nthS (nat_lit 66) top0
noncomputable def d70 : Stmt := nthS (nat_lit 70) top0
noncomputable def d71 : Stmt := nthS (nat_lit 71) top0
noncomputable def d72 : Stmt := nthS (nat_lit 72) top0
noncomputable def d76 : Stmt := nthS (nat_lit 76) top0
noncomputable def d77 : Stmt := nthS (nat_lit 77) top0
noncomputable def d79x0 : Stmt := nthS (nat_lit 0) (cBody (nthS (nat_lit 79) top0))
noncomputable def d80x0 : Stmt := nthS (nat_lit 0) (cBody (nthS (nat_lit 80) top0))
noncomputable def d80x1 : Stmt := nthS (nat_lit 1) (cBody (nthS (nat_lit 80) top0))
noncomputable def d80x2 : Stmt := nthS (nat_lit 2) (cBody (nthS (nat_lit 80) top0))
noncomputable def d80x3 : Stmt := nthS (nat_lit 3) (cBody (nthS (nat_lit 80) top0))
noncomputable def d80x4 : Stmt := nthS (nat_lit 4) (cBody (nthS (nat_lit 80) top0))
noncomputable def d80x7 : Stmt := nthS (nat_lit 7) (cBody (nthS (nat_lit 80) top0))
noncomputable def d80x8 : Stmt := nthS (nat_lit 8) (cBody (nthS (nat_lit 80) top0))
noncomputable def d80x10 : Stmt := nthS (nat_lit 10) (cBody (nthS (nat_lit 80) top0))
noncomputable def d80x11 : Stmt := nthS (nat_lit 11) (cBody (nthS (nat_lit 80) top0))
noncomputable def d80x12 : Stmt := nthS (nat_lit 12) (cBody (nthS (nat_lit 80) top0))
noncomputable def d80x14 : Stmt := nthS (nat_lit 14) (cBody (nthS (nat_lit 80) top0))
noncomputable def d80x16 : Stmt := nthS (nat_lit 16) (cBody (nthS (nat_lit 80) top0))
noncomputable def d80x19 : Stmt := nthS (nat_lit 19) (cBody (nthS (nat_lit 80) top0))
noncomputable def d80x21 : Stmt := nthS (nat_lit 21) (cBody (nthS (nat_lit 80) top0))
noncomputable def d80x22 : Stmt := nthS (nat_lit 22) (cBody (nthS (nat_lit 80) top0))
noncomputable def d80x23 : Stmt := nthS (nat_lit 23) (cBody (nthS (nat_lit 80) top0))
noncomputable def d80x24 : Stmt := nthS (nat_lit 24) (cBody (nthS (nat_lit 80) top0))
noncomputable def d83 : Stmt := nthS (nat_lit 83) top0
noncomputable def d84 : Stmt := nthS (nat_lit 84) top0
noncomputable def d85 : Stmt := nthS (nat_lit 85) top0
noncomputable def d86 : Stmt := nthS (nat_lit 86) top0
noncomputable def ob0 (P : Params) : Obj := ⟨(.type PySem.W.SL.s14018661285674007319x4), none, (.dict ⟨[⟨(PyData.keyHash P z0), (.str z0 (nat_lit 1)), (.str z1 (nat_lit 160))⟩, ⟨(PyData.keyHash P z2), (.str z2 (nat_lit 2)), (.builtin "builtins.__doc__:str#opaque")⟩, ⟨(PyData.keyHash P z3), (.str z3 (nat_lit 3)), (.builtin "builtins.__package__:str#opaque")⟩, ⟨(PyData.keyHash P z4), (.str z4 (nat_lit 4)), (.builtin "builtins.__loader__:shared#opaque")⟩, ⟨(PyData.keyHash P z5), (.str z5 (nat_lit 5)), (.builtin PySem.W.SL.s11665532747177232413x24)⟩, ⟨(PyData.keyHash P z6), (.str z6 (nat_lit 6)), (.builtin PySem.W.SL.s15183661809925369436x15)⟩, ⟨(PyData.keyHash P z7), (.str z7 (nat_lit 7)), (.builtin PySem.W.SL.s13915890719876406383x10)⟩, ⟨(PyData.keyHash P z8), (.str z8 (nat_lit 8)), (.builtin PySem.W.SL.s13459172003223722735x3)⟩, ⟨(PyData.keyHash P z9), (.str z9 (nat_lit 9)), (.builtin PySem.W.SL.s10557405761357834076x3)⟩, ⟨(PyData.keyHash P z10), (.str z10 (nat_lit 10)), (.builtin PySem.W.SL.s4233737765568776869x3)⟩, ⟨(PyData.keyHash P z11), (.str z11 (nat_lit 11)), (.builtin PySem.W.SL.s2508922471967985374x5)⟩, ⟨(PyData.keyHash P z12), (.str z12 (nat_lit 12)), (.builtin PySem.W.SL.s15574269061696679450x3)⟩, ⟨(PyData.keyHash P z13), (.str z13 (nat_lit 13)), (.builtin PySem.W.SL.s6016482663378992977x10)⟩, ⟨(PyData.keyHash P z14), (.str z14 (nat_lit 14)), (.builtin PySem.W.SL.s5596568736180474577x8)⟩, ⟨(PyData.keyHash P z15), (.str z15 (nat_lit 15)), (.builtin PySem.W.SL.s2839554839881490554x3)⟩, ⟨(PyData.keyHash P z16), (.str z16 (nat_lit 16)), (.builtin PySem.W.SL.s725004073602090463x7)⟩, ⟨(PyData.keyHash P z17), (.str z17 (nat_lit 17)), (.builtin PySem.W.SL.s9436932552931045734x7)⟩, ⟨(PyData.keyHash P z18), (.str z18 (nat_lit 18)), (.builtin PySem.W.SL.s2754603736356183583x3)⟩, ⟨(PyData.keyHash P z19), (.str z19 (nat_lit 19)), (.builtin PySem.W.SL.s15185746759980889043x6)⟩, ⟨(PyData.keyHash P z20), (.str z20 (nat_lit 20)), (.builtin PySem.W.SL.s8192189862530294059x4)⟩, ⟨(PyData.keyHash P z21), (.str z21 (nat_lit 21)), (.builtin PySem.W.SL.s7038307821325472102x4)⟩, ⟨(PyData.keyHash P z22), (.str z22 (nat_lit 22)), (.builtin PySem.W.SL.s5662562618415449548x6)⟩, ⟨(PyData.keyHash P z23), (.str z23 (nat_lit 23)), (.builtin PySem.W.SL.s15281542589158584767x7)⟩, ⟨(PyData.keyHash P z24), (.str z24 (nat_lit 24)), (.builtin PySem.W.SL.s17651547275483570877x7)⟩, ⟨(PyData.keyHash P z25), (.str z25 (nat_lit 25)), (.builtin PySem.W.SL.s4036449017235975746x7)⟩, ⟨(PyData.keyHash P z26), (.str z26 (nat_lit 26)), (.builtin PySem.W.SL.s8879979712987360175x4)⟩, ⟨(PyData.keyHash P z27), (.str z27 (nat_lit 27)), (.builtin PySem.W.SL.s1801250619170735830x3)⟩, ⟨(PyData.keyHash P z28), (.str z28 (nat_lit 28)), (.builtin PySem.W.SL.s17659931425627118568x2)⟩, ⟨(PyData.keyHash P z29), (.str z29 (nat_lit 29)), (.builtin PySem.W.SL.s6063217899685152688x5)⟩, ⟨(PyData.keyHash P z30), (.str z30 (nat_lit 30)), (.builtin PySem.W.SL.s8008927332132565319x10)⟩, ⟨(PyData.keyHash P z31), (.str z31 (nat_lit 31)), (.builtin PySem.W.SL.s3544116645089599534x10)⟩, ⟨(PyData.keyHash P z32), (.str z32 (nat_lit 32)), (.builtin PySem.W.SL.s13761710972054866084x4)⟩, ⟨(PyData.keyHash P z33), (.str z33 (nat_lit 33)), (.builtin PySem.W.SL.s12896375587409280029x5)⟩, ⟨(PyData.keyHash P z34), (.str z34 (nat_lit 34)), (.builtin PySem.W.SL.s13014049009108672802x3)⟩, ⟨(PyData.keyHash P z35), (.str z35 (nat_lit 35)), (.builtin PySem.W.SL.s13935586738268321596x6)⟩, ⟨(PyData.keyHash P z36), (.str z36 (nat_lit 36)), (.builtin PySem.W.SL.s8200498257699607233x3)⟩, ⟨(PyData.keyHash P z37), (.str z37 (nat_lit 37)), (.builtin PySem.W.SL.s14114244577727609259x3)⟩, ⟨(PyData.keyHash P z38), (.str z38 (nat_lit 38)), (.builtin PySem.W.SL.s1499430450269397089x4)⟩, ⟨(PyData.keyHash P z39), (.str z39 (nat_lit 39)), (.builtin PySem.W.SL.s8755793994789770505x5)⟩, ⟨(PyData.keyHash P z40), (.str z40 (nat_lit 40)), (.builtin PySem.W.SL.s15725212667919936108x3)⟩, ⟨(PyData.keyHash P z41), (.str z41 (nat_lit 41)), (.builtin PySem.W.SL.s15791221867095933363x3)⟩, ⟨(PyData.keyHash P z42), (.str z42 (nat_lit 42)), (.builtin PySem.W.SL.s81309575031448614x3)⟩, ⟨(PyData.keyHash P z43), (.str z43 (nat_lit 43)), (.builtin PySem.W.SL.s8069831620301644142x5)⟩, ⟨(PyData.keyHash P z44), (.str z44 (nat_lit 44)), (.builtin PySem.W.SL.s10061844253413749634x4)⟩, ⟨(PyData.keyHash P z45), (.str z45 (nat_lit 45)), (.builtin PySem.W.SL.s9496514870978017513x5)⟩, ⟨(PyData.keyHash P z46), (.str z46 (nat_lit 46)), (.builtin PySem.W.SL.s8899691144933366716x7)⟩, ⟨(PyData.keyHash P z47), (.str z47 (nat_lit 47)), (.builtin PySem.W.SL.s15201008993051130160x6)⟩, ⟨(PyData.keyHash P z48), (.str z48 (nat_lit 48)), (.builtin PySem.W.SL.s741896355592496720x3)⟩, ⟨(PyData.keyHash P z49), (.str z49 (nat_lit 49)), (.builtin PySem.W.SL.s17925004256654032244x4)⟩, ⟨(PyData.keyHash P z50), (.str z50 (nat_lit 50)), .none⟩, ⟨(PyData.keyHash P z51), (.str z51 (nat_lit 51)), .ellipsis⟩, ⟨(PyData.keyHash P z52), (.str z52 (nat_lit 52)), .notImplemented⟩, ⟨(PyData.keyHash P z53), (.str z53 (nat_lit 53)), (.bool false)⟩, ⟨(PyData.keyHash P z54), (.str z54 (nat_lit 54)), (.bool true)⟩, ⟨(PyData.keyHash P z55), (.str z55 (nat_lit 55)), (.type PySem.W.SL.s11695548795398191787x4)⟩, ⟨(PyData.keyHash P z56), (.str z56 (nat_lit 56)), (.type PySem.W.SL.s4156966113859768872x10)⟩, ⟨(PyData.keyHash P z57), (.str z57 (nat_lit 57)), (.type PySem.W.SL.s9501651726347032510x9)⟩, ⟨(PyData.keyHash P z58), (.str z58 (nat_lit 58)), (.type PySem.W.SL.s15722918466584999320x5)⟩, ⟨(PyData.keyHash P z59), (.str z59 (nat_lit 59)), (.type PySem.W.SL.s591115383303110208x11)⟩, ⟨(PyData.keyHash P z60), (.str z60 (nat_lit 60)), (.type PySem.W.SL.s15721156781594690315x7)⟩, ⟨(PyData.keyHash P z61), (.str z61 (nat_lit 61)), (.type PySem.W.SL.s14018661285674007319x4)⟩, ⟨(PyData.keyHash P z62), (.str z62 (nat_lit 62)), (.type PySem.W.SL.s14340494229221121180x9)⟩, ⟨(PyData.keyHash P z63), (.str z63 (nat_lit 63)), (.type PySem.W.SL.s13429844117177748173x6)⟩, ⟨(PyData.keyHash P z64), (.str z64 (nat_lit 64)), (.type PySem.W.SL.s16463266125957815391x5)⟩, ⟨(PyData.keyHash P z65), (.str z65 (nat_lit 65)), (.type PySem.W.SL.s4922535414793169389x9)⟩, ⟨(PyData.keyHash P z66), (.str z66 (nat_lit 66)), (.type PySem.W.SL.s8101838861749082086x8)⟩, ⟨(PyData.keyHash P z67), (.str z67 (nat_lit 67)), (.type PySem.W.SL.s7066276694103001551x3)⟩, ⟨(PyData.keyHash P z68), (.str z68 (nat_lit 68)), (.type PySem.W.SL.s9222952809800978799x4)⟩, ⟨(PyData.keyHash P z69), (.str z69 (nat_lit 69)), (.type PySem.W.SL.s462964344163437139x3)⟩, ⟨(PyData.keyHash P z70), (.str z70 (nat_lit 70)), (.type PySem.W.SL.s2742458400755230247x6)⟩, ⟨(PyData.keyHash P z71), (.str z71 (nat_lit 71)), (.type PySem.W.SL.s1438033511350832697x5)⟩, ⟨(PyData.keyHash P z72), (.str z72 (nat_lit 72)), (.type PySem.W.SL.s14365286008749172514x8)⟩, ⟨(PyData.keyHash P z73), (.str z73 (nat_lit 73)), (.type PySem.W.SL.s3642769012341782148x3)⟩, ⟨(PyData.keyHash P z74), (.str z74 (nat_lit 74)), (.type PySem.W.SL.s4674234679698826739x5)⟩, ⟨(PyData.keyHash P z75), (.str z75 (nat_lit 75)), (.type PySem.W.SL.s16656946322747308186x12)⟩, ⟨(PyData.keyHash P z76), (.str z76 (nat_lit 76)), (.type PySem.W.SL.s10796804682411823810x3)⟩, ⟨(PyData.keyHash P z77), (.str z77 (nat_lit 77)), (.type PySem.W.SL.s4290257624100764138x5)⟩, ⟨(PyData.keyHash P z78), (.str z78 (nat_lit 78)), (.type PySem.W.SL.s2766695959194262286x5)⟩, ⟨(PyData.keyHash P z79), (.str z79 (nat_lit 79)), (.type PySem.W.SL.s17162191345867700912x4)⟩, ⟨(PyData.keyHash P z80), (.str z80 (nat_lit 80)), (.type PySem.W.SL.s14339709457334898076x3)⟩, ⟨(PyData.keyHash P z81), (.str z81 (nat_lit 81)), (.bool true)⟩, ⟨(PyData.keyHash P z82), (.str z82 (nat_lit 82)), (.type PySem.W.SL.s4278001404047624695x13)⟩, ⟨(PyData.keyHash P z83), (.str z83 (nat_lit 83)), (.type PySem.W.SL.s6585700554429387442x18)⟩, ⟨(PyData.keyHash P z84), (.str z84 (nat_lit 84)), (.type PySem.W.SL.s5946037652744460706x9)⟩, ⟨(PyData.keyHash P z85), (.str z85 (nat_lit 85)), (.type PySem.W.SL.s7410770068591931388x13)⟩, ⟨(PyData.keyHash P z86), (.str z86 (nat_lit 86)), (.type PySem.W.SL.s11817881795495490833x17)⟩, ⟨(PyData.keyHash P z87), (.str z87 (nat_lit 87)), (.type PySem.W.SL.s15679963881808890155x10)⟩, ⟨(PyData.keyHash P z88), (.str z88 (nat_lit 88)), (.type PySem.W.SL.s3871700062485845797x15)⟩, ⟨(PyData.keyHash P z89), (.str z89 (nat_lit 89)), (.type PySem.W.SL.s7689518266570723881x14)⟩, ⟨(PyData.keyHash P z90), (.str z90 (nat_lit 90)), (.type PySem.W.SL.s9001593270443806431x14)⟩, ⟨(PyData.keyHash P z91), (.str z91 (nat_lit 91)), (.type PySem.W.SL.s6882542574934516792x11)⟩, ⟨(PyData.keyHash P z92), (.str z92 (nat_lit 92)), (.type PySem.W.SL.s14403400214490484960x8)⟩, ⟨(PyData.keyHash P z93), (.str z93 (nat_lit 93)), (.type PySem.W.SL.s14457978657717015782x11)⟩, ⟨(PyData.keyHash P z94), (.str z94 (nat_lit 94)), (.type PySem.W.SL.s1753610191782819921x11)⟩, ⟨(PyData.keyHash P z95), (.str z95 (nat_lit 95)), (.type PySem.W.SL.s14119380538032626715x11)⟩, ⟨(PyData.keyHash P z96), (.str z96 (nat_lit 96)), (.type PySem.W.SL.s11437920000406562045x9)⟩, ⟨(PyData.keyHash P z97), (.str z97 (nat_lit 97)), (.type PySem.W.SL.s10852414792293593619x7)⟩, ⟨(PyData.keyHash P z98), (.str z98 (nat_lit 98)), (.type PySem.W.SL.s14816307405966870543x14)⟩, ⟨(PyData.keyHash P z99), (.str z99 (nat_lit 99)), (.type PySem.W.SL.s8682627914449686677x12)⟩, ⟨(PyData.keyHash P z100), (.str z100 (nat_lit 100)), (.type PySem.W.SL.s4428170145600203450x18)⟩, ⟨(PyData.keyHash P z101), (.str z101 (nat_lit 101)), (.type PySem.W.SL.s5991306692159431302x13)⟩, ⟨(PyData.keyHash P z102), (.str z102 (nat_lit 102)), (.type PySem.W.SL.s16067994140765818257x11)⟩, ⟨(PyData.keyHash P z103), (.str z103 (nat_lit 103)), (.type PySem.W.SL.s2327743974964600596x11)⟩, ⟨(PyData.keyHash P z104), (.str z104 (nat_lit 104)), (.type PySem.W.SL.s2804747833354056582x9)⟩, ⟨(PyData.keyHash P z105), (.str z105 (nat_lit 105)), (.type PySem.W.SL.s6070975301684473832x10)⟩, ⟨(PyData.keyHash P z106), (.str z106 (nat_lit 106)), (.type PySem.W.SL.s14270485950484850486x7)⟩, ⟨(PyData.keyHash P z107), (.str z107 (nat_lit 107)), (.type PySem.W.SL.s12041534306414923332x18)⟩, ⟨(PyData.keyHash P z108), (.str z108 (nat_lit 108)), (.type PySem.W.SL.s2531307568338490285x13)⟩, ⟨(PyData.keyHash P z109), (.str z109 (nat_lit 109)), (.type PySem.W.SL.s631175304937289666x17)⟩, ⟨(PyData.keyHash P z110), (.str z110 (nat_lit 110)), (.type PySem.W.SL.s5144983644357021410x12)⟩, ⟨(PyData.keyHash P z111), (.str z111 (nat_lit 111)), (.type PySem.W.SL.s18039099521571816885x18)⟩, ⟨(PyData.keyHash P z112), (.str z112 (nat_lit 112)), (.type PySem.W.SL.s6011586214260557989x15)⟩, ⟨(PyData.keyHash P z113), (.str z113 (nat_lit 113)), (.type PySem.W.SL.s5430567037509283100x13)⟩, ⟨(PyData.keyHash P z114), (.str z114 (nat_lit 114)), (.type PySem.W.SL.s8117915138073963741x13)⟩, ⟨(PyData.keyHash P z115), (.str z115 (nat_lit 115)), (.type PySem.W.SL.s3423317712779056401x25)⟩, ⟨(PyData.keyHash P z116), (.str z116 (nat_lit 116)), (.type PySem.W.SL.s2007317383269046180x15)⟩, ⟨(PyData.keyHash P z117), (.str z117 (nat_lit 117)), (.type PySem.W.SL.s17481586968713580700x14)⟩, ⟨(PyData.keyHash P z118), (.str z118 (nat_lit 118)), (.type PySem.W.SL.s2450899226349176912x13)⟩, ⟨(PyData.keyHash P z119), (.str z119 (nat_lit 119)), (.type PySem.W.SL.s16626165730633575011x14)⟩, ⟨(PyData.keyHash P z120), (.str z120 (nat_lit 120)), (.type PySem.W.SL.s14288496050688921416x11)⟩, ⟨(PyData.keyHash P z121), (.str z121 (nat_lit 121)), (.type PySem.W.SL.s5735081916595925998x15)⟩, ⟨(PyData.keyHash P z122), (.str z122 (nat_lit 122)), (.type PySem.W.SL.s3865607918536308442x17)⟩, ⟨(PyData.keyHash P z123), (.str z123 (nat_lit 123)), (.type PySem.W.SL.s13337502604062700212x15)⟩, ⟨(PyData.keyHash P z124), (.str z124 (nat_lit 124)), (.type PySem.W.SL.s13114017843053701147x15)⟩, ⟨(PyData.keyHash P z125), (.str z125 (nat_lit 125)), (.type PySem.W.SL.s17467278006356818441x17)⟩, ⟨(PyData.keyHash P z126), (.str z126 (nat_lit 126)), (.type PySem.W.SL.s17722149559621369488x16)⟩, ⟨(PyData.keyHash P z127), (.str z127 (nat_lit 127)), (.type PySem.W.SL.s7855274175708717672x17)⟩, ⟨(PyData.keyHash P z128), (.str z128 (nat_lit 128)), (.type PySem.W.SL.s13351283678309829046x18)⟩, ⟨(PyData.keyHash P z129), (.str z129 (nat_lit 129)), (.type PySem.W.SL.s6668348653404991179x15)⟩, ⟨(PyData.keyHash P z130), (.str z130 (nat_lit 130)), (.type PySem.W.SL.s12913350958174193794x18)⟩, ⟨(PyData.keyHash P z131), (.str z131 (nat_lit 131)), (.type PySem.W.SL.s16115879512475548326x12)⟩, ⟨(PyData.keyHash P z132), (.str z132 (nat_lit 132)), (.type PySem.W.SL.s15920661018069861047x16)⟩, ⟨(PyData.keyHash P z133), (.str z133 (nat_lit 133)), (.type PySem.W.SL.s10779130036587390575x21)⟩, ⟨(PyData.keyHash P z134), (.str z134 (nat_lit 134)), (.type PySem.W.SL.s7801419657504700863x10)⟩, ⟨(PyData.keyHash P z135), (.str z135 (nat_lit 135)), (.type PySem.W.SL.s1688129525768580628x8)⟩, ⟨(PyData.keyHash P z136), (.str z136 (nat_lit 136)), (.type PySem.W.SL.s1031832959479892071x19)⟩, ⟨(PyData.keyHash P z137), (.str z137 (nat_lit 137)), (.type PySem.W.SL.s8991790508128307865x19)⟩, ⟨(PyData.keyHash P z138), (.str z138 (nat_lit 138)), (.type PySem.W.SL.s14539662485746970245x23)⟩, ⟨(PyData.keyHash P z139), (.str z139 (nat_lit 139)), (.type PySem.W.SL.s11643622729373238714x14)⟩, ⟨(PyData.keyHash P z140), (.str z140 (nat_lit 140)), (.type PySem.W.SL.s3386828779285465597x17)⟩, ⟨(PyData.keyHash P z141), (.str z141 (nat_lit 141)), (.type PySem.W.SL.s13042696260734638735x12)⟩, ⟨(PyData.keyHash P z142), (.str z142 (nat_lit 142)), (.type PySem.W.SL.s18239426817015966623x15)⟩, ⟨(PyData.keyHash P z143), (.str z143 (nat_lit 143)), (.type PySem.W.SL.s1270395311379034370x22)⟩, ⟨(PyData.keyHash P z144), (.str z144 (nat_lit 144)), (.type PySem.W.SL.s10696252587037064777x22)⟩, ⟨(PyData.keyHash P z145), (.str z145 (nat_lit 145)), (.type PySem.W.SL.s7852717498200857586x20)⟩, ⟨(PyData.keyHash P z146), (.str z146 (nat_lit 146)), (.type PySem.W.SL.s6377248116197321094x8)⟩, ⟨(PyData.keyHash P z147), (.str z147 (nat_lit 147)), (.type PySem.W.SL.s3834378056692298002x18)⟩, ⟨(PyData.keyHash P z148), (.str z148 (nat_lit 148)), (.type PySem.W.SL.s17586630440231065808x18)⟩, ⟨(PyData.keyHash P z149), (.str z149 (nat_lit 149)), (.type PySem.W.SL.s15234114252648025395x21)⟩, ⟨(PyData.keyHash P z150), (.str z150 (nat_lit 150)), (.type PySem.W.SL.s8496462677383758984x14)⟩, ⟨(PyData.keyHash P z151), (.str z151 (nat_lit 151)), (.type PySem.W.SL.s10852414792293593619x7)⟩, ⟨(PyData.keyHash P z152), (.str z152 (nat_lit 152)), (.type PySem.W.SL.s10852414792293593619x7)⟩, ⟨(PyData.keyHash P z153), (.str z153 (nat_lit 153)), (.builtin PySem.W.SL.s16789243406116112673x4)⟩, ⟨(PyData.keyHash P z154), (.str z154 (nat_lit 154)), (.builtin PySem.W.SL.s14400166428656793546x20)⟩, ⟨(PyData.keyHash P z155), (.str z155 (nat_lit 155)), (.builtin PySem.W.SL.s5857708277339239366x20)⟩, ⟨(PyData.keyHash P z156), (.str z156 (nat_lit 156)), (.builtin "builtins.copyright#opaque")⟩, ⟨(PyData.keyHash P z157), (.str z157 (nat_lit 157)), (.builtin "builtins.credits#opaque")⟩, ⟨(PyData.keyHash P z158), (.str z158 (nat_lit 158)), (.builtin "builtins.license#opaque")⟩, ⟨(PyData.keyHash P z159), (.str z159 (nat_lit 159)), (.builtin PySem.W.SL.s7804999707787243718x20)⟩]⟩ 159), ⟨[]⟩⟩
noncomputable def ob1 (P : Params) : Obj := ⟨(.type PySem.W.SL.s14018661285674007319x4), none, (.dict ⟨[⟨(PyData.keyHash P z1), (.str z1 (nat_lit 162)), (.ref (nat_lit 4))⟩, ⟨(PyData.keyHash P z160), (.str z160 (nat_lit 163)), (.ref (nat_lit 5))⟩]⟩ 2), ⟨[]⟩⟩
noncomputable def ob2 (P : Params) : Obj := ⟨.none, none, (.dict ⟨[⟨(PyData.keyHash P z161), (.str z161 (nat_lit 212)), (.int (.ofNat (nat_lit 31)) (nat_lit 0))⟩, ⟨(PyData.keyHash P z162), (.str z162 (nat_lit 213)), (.int (.ofNat (nat_lit 1)) (nat_lit 0))⟩]⟩ 2), ⟨[]⟩⟩
noncomputable def ob3 (P : Params) : Obj := ⟨(.type PySem.W.SL.s14018661285674007319x4), none, (.dict ⟨[⟨(PyData.keyHash P z0), (.str z0 (nat_lit 165)), (.str z163 (nat_lit 1651))⟩, ⟨(PyData.keyHash P z2), (.str z2 (nat_lit 166)), .none⟩, ⟨(PyData.keyHash P z3), (.str z3 (nat_lit 167)), .none⟩, ⟨(PyData.keyHash P z4), (.str z4 (nat_lit 168)), (.builtin PySem.W.SL.s7097527257260152453x26)⟩, ⟨(PyData.keyHash P z5), (.str z5 (nat_lit 169)), .none⟩, ⟨(PyData.keyHash P z164), (.str z164 (nat_lit 170)), (.ref (nat_lit 6))⟩, ⟨(PyData.keyHash P z165), (.str z165 (nat_lit 171)), (.ref (nat_lit 4))⟩, ⟨(PyData.keyHash P z166), (.str z166 (nat_lit 173)), (.str z167 (nat_lit 172))⟩, ⟨(PyData.keyHash P z168), (.str z168 (nat_lit 174)), .none⟩, ⟨(PyData.keyHash P z169), (.str z169 (nat_lit 193)), (.ref (nat_lit 21))⟩, ⟨(PyData.keyHash P z170), (.str z170 (nat_lit 215)), (.ref (nat_lit 31))⟩, ⟨(PyData.keyHash P z171), (.str z171 (nat_lit 240)), (.ref (nat_lit 51))⟩, ⟨(PyData.keyHash P z172), (.str z172 (nat_lit 269)), (.ref (nat_lit 70))⟩, ⟨(PyData.keyHash P z173), (.str z173 (nat_lit 294)), (.ref (nat_lit 89))⟩, ⟨(PyData.keyHash P z174), (.str z174 (nat_lit 321)), (.ref (nat_lit 108))⟩, ⟨(PyData.keyHash P z175), (.str z175 (nat_lit 348)), (.ref (nat_lit 127))⟩, ⟨(PyData.keyHash P z176), (.str z176 (nat_lit 379)), (.ref (nat_lit 146))⟩, ⟨(PyData.keyHash P z177), (.str z177 (nat_lit 408)), (.ref (nat_lit 167))⟩, ⟨(PyData.keyHash P z178), (.str z178 (nat_lit 450)), (.ref (nat_lit 196))⟩, ⟨(PyData.keyHash P z179), (.str z179 (nat_lit 481)), (.ref (nat_lit 217))⟩, ⟨(PyData.keyHash P z180), (.str z180 (nat_lit 516)), (.ref (nat_lit 239))⟩, ⟨(PyData.keyHash P z181), (.str z181 (nat_lit 552)), (.ref (nat_lit 261))⟩, ⟨(PyData.keyHash P z182), (.str z182 (nat_lit 589)), (.ref (nat_lit 282))⟩, ⟨(PyData.keyHash P z183), (.str z183 (nat_lit 626)), (.ref (nat_lit 304))⟩, ⟨(PyData.keyHash P z184), (.str z184 (nat_lit 662)), (.ref (nat_lit 325))⟩, ⟨(PyData.keyHash P z185), (.str z185 (nat_lit 693)), (.ref (nat_lit 346))⟩, ⟨(PyData.keyHash P z186), (.str z186 (nat_lit 699)), (.ref (nat_lit 357))⟩, ⟨(PyData.keyHash P z187), (.str z187 (nat_lit 705)), (.ref (nat_lit 364))⟩, ⟨(PyData.keyHash P z188), (.str z188 (nat_lit 712)), (.ref (nat_lit 371))⟩, ⟨(PyData.keyHash P z189), (.str z189 (nat_lit 719)), (.ref (nat_lit 378))⟩, ⟨(PyData.keyHash P z190), (.str z190 (nat_lit 726)), (.ref (nat_lit 385))⟩, ⟨(PyData.keyHash P z191), (.str z191 (nat_lit 733)), (.ref (nat_lit 392))⟩, ⟨(PyData.keyHash P z192), (.str z192 (nat_lit 740)), (.ref (nat_lit 399))⟩, ⟨(PyData.keyHash P z193), (.str z193 (nat_lit 747)), (.ref (nat_lit 406))⟩, ⟨(PyData.keyHash P z194), (.str z194 (nat_lit 832)), (.ref (nat_lit 463))⟩, ⟨(PyData.keyHash P z195), (.str z195 (nat_lit 839)), (.ref (nat_lit 474))⟩, ⟨(PyData.keyHash P z196), (.str z196 (nat_lit 851)), (.ref (nat_lit 481))⟩, ⟨(PyData.keyHash P z197), (.str z197 (nat_lit 859)), (.ref (nat_lit 488))⟩, ⟨(PyData.keyHash P z198), (.str z198 (nat_lit 865)), (.ref (nat_lit 493))⟩, ⟨(PyData.keyHash P z199), (.str z199 (nat_lit 871)), (.ref (nat_lit 499))⟩, ⟨(PyData.keyHash P z200), (.str z200 (nat_lit 881)), (.ref (nat_lit 506))⟩, ⟨(PyData.keyHash P z201), (.str z201 (nat_lit 889)), (.ref (nat_lit 513))⟩, ⟨(PyData.keyHash P z202), (.str z202 (nat_lit 897)), (.ref (nat_lit 520))⟩, ⟨(PyData.keyHash P z203), (.str z203 (nat_lit 905)), (.ref (nat_lit 527))⟩, ⟨(PyData.keyHash P z204), (.str z204 (nat_lit 913)), (.ref (nat_lit 534))⟩, ⟨(PyData.keyHash P z205), (.str z205 (nat_lit 921)), (.ref (nat_lit 541))⟩, ⟨(PyData.keyHash P z206), (.str z206 (nat_lit 930)), (.ref (nat_lit 548))⟩, ⟨(PyData.keyHash P z207), (.str z207 (nat_lit 971)), (.ref (nat_lit 565))⟩, ⟨(PyData.keyHash P z208), (.str z208 (nat_lit 977)), (.ref (nat_lit 574))⟩, ⟨(PyData.keyHash P z209), (.str z209 (nat_lit 987)), (.ref (nat_lit 581))⟩, ⟨(PyData.keyHash P z210), (.str z210 (nat_lit 997)), (.ref (nat_lit 588))⟩, ⟨(PyData.keyHash P z211), (.str z211 (nat_lit 1012)), (.ref (nat_lit 595))⟩, ⟨(PyData.keyHash P z212), (.str z212 (nat_lit 1023)), (.ref (nat_lit 602))⟩, ⟨(PyData.keyHash P z213), (.str z213 (nat_lit 1031)), (.ref (nat_lit 609))⟩, ⟨(PyData.keyHash P z214), (.str z214 (nat_lit 1040)), (.ref (nat_lit 616))⟩, ⟨(PyData.keyHash P z215), (.str z215 (nat_lit 1052)), (.ref (nat_lit 623))⟩, ⟨(PyData.keyHash P z216), (.str z216 (nat_lit 1058)), (.ref (nat_lit 628))⟩, ⟨(PyData.keyHash P z217), (.str z217 (nat_lit 1070)), (.ref (nat_lit 635))⟩, ⟨(PyData.keyHash P z218), (.str z218 (nat_lit 1080)), (.ref (nat_lit 642))⟩, ⟨(PyData.keyHash P z219), (.str z219 (nat_lit 1089)), (.ref (nat_lit 649))⟩, ⟨(PyData.keyHash P z220), (.str z220 (nat_lit 1100)), (.ref (nat_lit 656))⟩, ⟨(PyData.keyHash P z221), (.str z221 (nat_lit 1107)), (.ref (nat_lit 663))⟩, ⟨(PyData.keyHash P z222), (.str z222 (nat_lit 1116)), (.ref (nat_lit 670))⟩, ⟨(PyData.keyHash P z223), (.str z223 (nat_lit 1125)), (.ref (nat_lit 677))⟩, ⟨(PyData.keyHash P z224), (.str z224 (nat_lit 1131)), (.ref (nat_lit 683))⟩, ⟨(PyData.keyHash P z225), (.str z225 (nat_lit 1139)), (.ref (nat_lit 690))⟩, ⟨(PyData.keyHash P z226), (.str z226 (nat_lit 1147)), (.ref (nat_lit 697))⟩, ⟨(PyData.keyHash P z227), (.str z227 (nat_lit 1158)), (.ref (nat_lit 704))⟩, ⟨(PyData.keyHash P z228), (.str z228 (nat_lit 1167)), (.ref (nat_lit 711))⟩, ⟨(PyData.keyHash P z229), (.str z229 (nat_lit 1177)), (.ref (nat_lit 718))⟩, ⟨(PyData.keyHash P z230), (.str z230 (nat_lit 1185)), (.ref (nat_lit 725))⟩, ⟨(PyData.keyHash P z231), (.str z231 (nat_lit 1194)), (.ref (nat_lit 732))⟩, ⟨(PyData.keyHash P z232), (.str z232 (nat_lit 1208)), (.ref (nat_lit 739))⟩, ⟨(PyData.keyHash P z233), (.str z233 (nat_lit 1216)), (.ref (nat_lit 746))⟩, ⟨(PyData.keyHash P z234), (.str z234 (nat_lit 1222)), (.ref (nat_lit 751))⟩, ⟨(PyData.keyHash P z235), (.str z235 (nat_lit 1232)), (.ref (nat_lit 758))⟩, ⟨(PyData.keyHash P z236), (.str z236 (nat_lit 1241)), (.ref (nat_lit 765))⟩, ⟨(PyData.keyHash P z237), (.str z237 (nat_lit 1259)), (.ref (nat_lit 772))⟩, ⟨(PyData.keyHash P z238), (.str z238 (nat_lit 1265)), (.ref (nat_lit 777))⟩, ⟨(PyData.keyHash P z239), (.str z239 (nat_lit 1306)), (.ref (nat_lit 794))⟩, ⟨(PyData.keyHash P z240), (.str z240 (nat_lit 1643)), (.ref (nat_lit 1004))⟩, ⟨(PyData.keyHash P z241), (.str z241 (nat_lit 1650)), (.ref (nat_lit 1015))⟩, ⟨(PyData.keyHash P z242), (.str z242 (nat_lit 1661)), (.ref (nat_lit 1022))⟩, ⟨(PyData.keyHash P z243), (.str z243 (nat_lit 1670)), (.ref (nat_lit 1029))⟩, ⟨(PyData.keyHash P z244), (.str z244 (nat_lit 1679)), (.ref (nat_lit 1036))⟩, ⟨(PyData.keyHash P z245), (.str z245 (nat_lit 1685)), (.ref (nat_lit 1041))⟩]⟩ 86), ⟨[]⟩⟩
noncomputable def ob4 (P : Params) : Obj := ⟨(.type PySem.W.SL.s6658869562736209489x6), (some (nat_lit 0)), .plain, ⟨[]⟩⟩
noncomputable def ob30 (P : Params) : Obj := ⟨(.type PySem.W.SL.s14018661285674007319x4), none, (.dict ⟨[⟨(PyData.keyHash P z246), (.str z246 (nat_lit 203)), (.str z247 (nat_lit 194))⟩, ⟨(PyData.keyHash P z248), (.str z248 (nat_lit 207)), (.int (.ofNat (nat_lit 5)) (nat_lit 206))⟩, ⟨(PyData.keyHash P z249), (.str z249 (nat_lit 208)), (.ref (nat_lit 29))⟩, ⟨(PyData.keyHash P z250), (.str z250 (nat_lit 210)), (.ref (nat_lit 32))⟩, ⟨(PyData.keyHash P z2), (.str z2 (nat_lit 211)), .none⟩]⟩ 3), ⟨[]⟩⟩
noncomputable def ob31 (P : Params) : Obj := ⟨(.type PySem.W.SL.s17162191345867700912x4), none, (.cls ⟨z170, [(.type PySem.W.SL.s5946037652744460706x9)], [(.ref (nat_lit 31)), (.type PySem.W.SL.s5946037652744460706x9), (.type PySem.W.SL.s4278001404047624695x13), (.type PySem.W.SL.s2742458400755230247x6)], (nat_lit 30), z170, true, [], [(.ref (nat_lit 51)), (.ref (nat_lit 70)), (.ref (nat_lit 89)), (.ref (nat_lit 108)), (.ref (nat_lit 127))], false, none, false⟩), ⟨[(some (.ref (nat_lit 22))), none, (some (.str z170 (nat_lit 196))), (some (.str z170 (nat_lit 204))), (some (.builtin PySem.W.SL.s5160863994218179198x17)), (some (.bool true))]⟩⟩
noncomputable def ob47 (P : Params) : Obj := ⟨(.type PySem.W.SL.s5856160107412720595x4), none, (.fields ⟨[(.str z251 (nat_lit 228)), (.str z252 (nat_lit 229)), (.str z167 (nat_lit 230)), (.int (.ofNat (nat_lit 9)) (nat_lit 0)), (.int (.ofNat (nat_lit 2)) (nat_lit 0)), (.int (.ofNat (nat_lit 0)) (nat_lit 0)), (.int (.ofNat (nat_lit 0)) (nat_lit 0)), (.int (.ofNat (nat_lit 3)) (nat_lit 0)), (.ref (nat_lit 42)), (.bool true), (.int (.ofNat (nat_lit 181)) (nat_lit 0)), (.ref (nat_lit 43)), .none, (.ref (nat_lit 44)), (.ref (nat_lit 45)), (.ref (nat_lit 46)), (.int (.ofNat (nat_lit 233)) (nat_lit 0)), (.int (.ofNat (nat_lit 9)) (nat_lit 0)), (.str z167 (nat_lit 234))]⟩), ⟨[]⟩⟩
noncomputable def ob48 (P : Params) : Obj := ⟨(.type PySem.W.SL.s7174869446012820540x8), none, (.func ⟨z251, z252, fArgs d3x0, .stmts (fBody d3x0), fScope d3x0, (nat_lit 3), [], .none, .none, .none, (.str z247 (nat_lit 194)), none, (.ref (nat_lit 47)), .none, (nat_lit 0)⟩), ⟨[]⟩⟩
noncomputable def ob50 (P : Params) : Obj := ⟨(.type PySem.W.SL.s14018661285674007319x4), none, (.dict ⟨[⟨(PyData.keyHash P z246), (.str z246 (nat_lit 223)), (.str z247 (nat_lit 194))⟩, ⟨(PyData.keyHash P z248), (.str z248 (nat_lit 227)), (.int (.ofNat (nat_lit 7)) (nat_lit 226))⟩, ⟨(PyData.keyHash P z251), (.str z251 (nat_lit 235)), (.ref (nat_lit 48))⟩, ⟨(PyData.keyHash P z249), (.str z249 (nat_lit 237)), (.ref (nat_lit 49))⟩, ⟨(PyData.keyHash P z2), (.str z2 (nat_lit 238)), .none⟩]⟩ 2), ⟨[]⟩⟩
noncomputable def ob51 (P : Params) : Obj := ⟨(.type PySem.W.SL.s17162191345867700912x4), none, (.cls ⟨z171, [(.ref (nat_lit 31))], [(.ref (nat_lit 51)), (.ref (nat_lit 31)), (.type PySem.W.SL.s5946037652744460706x9), (.type PySem.W.SL.s4278001404047624695x13), (.type PySem.W.SL.s2742458400755230247x6)], (nat_lit 50), z171, true, [], [], false, none, false⟩), ⟨[(some (.ref (nat_lit 35))), none, (some (.str z171 (nat_lit 216))), (some (.str z171 (nat_lit 224))), (some (.builtin PySem.W.SL.s5160863994218179198x17)), (some (.bool true))]⟩⟩
noncomputable def ob66 (P : Params) : Obj := ⟨(.type PySem.W.SL.s5856160107412720595x4), none, (.fields ⟨[(.str z251 (nat_lit 253)), (.str z253 (nat_lit 254)), (.str z167 (nat_lit 255)), (.int (.ofNat (nat_lit 13)) (nat_lit 0)), (.int (.ofNat (nat_lit 4)) (nat_lit 0)), (.int (.ofNat (nat_lit 0)) (nat_lit 0)), (.int (.ofNat (nat_lit 0)) (nat_lit 0)), (.int (.ofNat (nat_lit 3)) (nat_lit 0)), (.ref (nat_lit 61)), (.bool true), (.int (.ofNat (nat_lit 181)) (nat_lit 0)), (.ref (nat_lit 62)), .none, (.ref (nat_lit 63)), (.ref (nat_lit 64)), (.ref (nat_lit 65)), (.int (.ofNat (nat_lit 260)) (nat_lit 0)), (.int (.ofNat (nat_lit 13)) (nat_lit 0)), (.str z167 (nat_lit 261))]⟩), ⟨[]⟩⟩
noncomputable def ob67 (P : Params) : Obj := ⟨(.type PySem.W.SL.s7174869446012820540x8), none, (.func ⟨z251, z253, fArgs d4x0, .stmts (fBody d4x0), fScope d4x0, (nat_lit 3), [], .none, .none, .none, (.str z247 (nat_lit 194)), none, (.ref (nat_lit 66)), .none, (nat_lit 0)⟩), ⟨[]⟩⟩
noncomputable def ob69 (P : Params) : Obj := ⟨(.type PySem.W.SL.s14018661285674007319x4), none, (.dict ⟨[⟨(PyData.keyHash P z246), (.str z246 (nat_lit 248)), (.str z247 (nat_lit 194))⟩, ⟨(PyData.keyHash P z248), (.str z248 (nat_lit 252)), (.int (.ofNat (nat_lit 11)) (nat_lit 251))⟩, ⟨(PyData.keyHash P z251), (.str z251 (nat_lit 262)), (.ref (nat_lit 67))⟩, ⟨(PyData.keyHash P z249), (.str z249 (nat_lit 266)), (.ref (nat_lit 68))⟩, ⟨(PyData.keyHash P z2), (.str z2 (nat_lit 267)), .none⟩]⟩ 2), ⟨[]⟩⟩
noncomputable def ob70 (P : Params) : Obj := ⟨(.type PySem.W.SL.s17162191345867700912x4), none, (.cls ⟨z172, [(.ref (nat_lit 31))], [(.ref (nat_lit 70)), (.ref (nat_lit 31)), (.type PySem.W.SL.s5946037652744460706x9), (.type PySem.W.SL.s4278001404047624695x13), (.type PySem.W.SL.s2742458400755230247x6)], (nat_lit 69), z172, true, [], [], false, none, false⟩), ⟨[(some (.ref (nat_lit 54))), none, (some (.str z172 (nat_lit 241))), (some (.str z172 (nat_lit 249))), (some (.builtin PySem.W.SL.s5160863994218179198x17)), (some (.bool true))]⟩⟩
noncomputable def ob104 (P : Params) : Obj := ⟨(.type PySem.W.SL.s5856160107412720595x4), none, (.fields ⟨[(.str z251 (nat_lit 307)), (.str z254 (nat_lit 308)), (.str z167 (nat_lit 309)), (.int (.ofNat (nat_lit 23)) (nat_lit 0)), (.int (.ofNat (nat_lit 3)) (nat_lit 0)), (.int (.ofNat (nat_lit 0)) (nat_lit 0)), (.int (.ofNat (nat_lit 0)) (nat_lit 0)), (.int (.ofNat (nat_lit 3)) (nat_lit 0)), (.ref (nat_lit 99)), (.bool true), (.int (.ofNat (nat_lit 181)) (nat_lit 0)), (.ref (nat_lit 100)), .none, (.ref (nat_lit 101)), (.ref (nat_lit 102)), (.ref (nat_lit 103)), (.int (.ofNat (nat_lit 313)) (nat_lit 0)), (.int (.ofNat (nat_lit 23)) (nat_lit 0)), (.str z167 (nat_lit 314))]⟩), ⟨[]⟩⟩
noncomputable def ob105 (P : Params) : Obj := ⟨(.type PySem.W.SL.s7174869446012820540x8), none, (.func ⟨z251, z254, fArgs d6x0, .stmts (fBody d6x0), fScope d6x0, (nat_lit 3), [], .none, .none, .none, (.str z247 (nat_lit 194)), none, (.ref (nat_lit 104)), .none, (nat_lit 0)⟩), ⟨[]⟩⟩
noncomputable def ob107 (P : Params) : Obj := ⟨(.type PySem.W.SL.s14018661285674007319x4), none, (.dict ⟨[⟨(PyData.keyHash P z246), (.str z246 (nat_lit 302)), (.str z247 (nat_lit 194))⟩, ⟨(PyData.keyHash P z248), (.str z248 (nat_lit 306)), (.int (.ofNat (nat_lit 21)) (nat_lit 305))⟩, ⟨(PyData.keyHash P z251), (.str z251 (nat_lit 315)), (.ref (nat_lit 105))⟩, ⟨(PyData.keyHash P z249), (.str z249 (nat_lit 318)), (.ref (nat_lit 106))⟩, ⟨(PyData.keyHash P z2), (.str z2 (nat_lit 319)), .none⟩]⟩ 2), ⟨[]⟩⟩
noncomputable def ob108 (P : Params) : Obj := ⟨(.type PySem.W.SL.s17162191345867700912x4), none, (.cls ⟨z174, [(.ref (nat_lit 31))], [(.ref (nat_lit 108)), (.ref (nat_lit 31)), (.type PySem.W.SL.s5946037652744460706x9), (.type PySem.W.SL.s4278001404047624695x13), (.type PySem.W.SL.s2742458400755230247x6)], (nat_lit 107), z174, true, [], [], false, none, false⟩), ⟨[(some (.ref (nat_lit 92))), none, (some (.str z174 (nat_lit 295))), (some (.str z174 (nat_lit 303))), (some (.builtin PySem.W.SL.s5160863994218179198x17)), (some (.bool true))]⟩⟩
noncomputable def ob127 (P : Params) : Obj := ⟨(.type PySem.W.SL.s17162191345867700912x4), none, (.cls ⟨z175, [(.ref (nat_lit 31))], [(.ref (nat_lit 127)), (.ref (nat_lit 31)), (.type PySem.W.SL.s5946037652744460706x9), (.type PySem.W.SL.s4278001404047624695x13), (.type PySem.W.SL.s2742458400755230247x6)], (nat_lit 126), z175, true, [], [], false, none, false⟩), ⟨[(some (.ref (nat_lit 111))), none, (some (.str z175 (nat_lit 322))), (some (.str z175 (nat_lit 330))), (some (.builtin PySem.W.SL.s5160863994218179198x17)), (some (.bool true))]⟩⟩
noncomputable def ob142 (P : Params) : Obj := ⟨(.type PySem.W.SL.s5856160107412720595x4), none, (.fields ⟨[(.str z251 (nat_lit 363)), (.str z255 (nat_lit 364)), (.str z167 (nat_lit 365)), (.int (.ofNat (nat_lit 34)) (nat_lit 0)), (.int (.ofNat (nat_lit 1)) (nat_lit 0)), (.int (.ofNat (nat_lit 0)) (nat_lit 0)), (.int (.ofNat (nat_lit 0)) (nat_lit 0)), (.int (.ofNat (nat_lit 3)) (nat_lit 0)), (.ref (nat_lit 137)), (.bool true), (.int (.ofNat (nat_lit 181)) (nat_lit 0)), (.ref (nat_lit 138)), .none, (.ref (nat_lit 139)), (.ref (nat_lit 140)), (.ref (nat_lit 141)), (.int (.ofNat (nat_lit 367)) (nat_lit 0)), (.int (.ofNat (nat_lit 34)) (nat_lit 0)), (.str z167 (nat_lit 368))]⟩), ⟨[]⟩⟩
noncomputable def ob143 (P : Params) : Obj := ⟨(.type PySem.W.SL.s7174869446012820540x8), none, (.func ⟨z251, z255, fArgs d9x0, .stmts (fBody d9x0), fScope d9x0, (nat_lit 3), [], .none, .none, .none, (.str z256 (nat_lit 349)), none, (.ref (nat_lit 142)), .none, (nat_lit 0)⟩), ⟨[]⟩⟩
noncomputable def ob145 (P : Params) : Obj := ⟨(.type PySem.W.SL.s14018661285674007319x4), none, (.dict ⟨[⟨(PyData.keyHash P z246), (.str z246 (nat_lit 358)), (.str z256 (nat_lit 349))⟩, ⟨(PyData.keyHash P z248), (.str z248 (nat_lit 362)), (.int (.ofNat (nat_lit 32)) (nat_lit 361))⟩, ⟨(PyData.keyHash P z251), (.str z251 (nat_lit 369)), (.ref (nat_lit 143))⟩, ⟨(PyData.keyHash P z249), (.str z249 (nat_lit 372)), (.ref (nat_lit 144))⟩, ⟨(PyData.keyHash P z257), (.str z257 (nat_lit 374)), (.ref (nat_lit 147))⟩, ⟨(PyData.keyHash P z250), (.str z250 (nat_lit 376)), (.ref (nat_lit 148))⟩, ⟨(PyData.keyHash P z2), (.str z2 (nat_lit 377)), .none⟩]⟩ 4), ⟨[]⟩⟩
noncomputable def ob146 (P : Params) : Obj := ⟨(.type PySem.W.SL.s17162191345867700912x4), none, (.cls ⟨z176, [(.type PySem.W.SL.s2742458400755230247x6)], [(.ref (nat_lit 146)), (.type PySem.W.SL.s2742458400755230247x6)], (nat_lit 145), z176, true, [], [], false, none, false⟩), ⟨[none, none, (some (.str z176 (nat_lit 351))), (some (.str z176 (nat_lit 359))), (some (.builtin PySem.W.SL.s11443829558043349243x14)), (some (.bool true))]⟩⟩
noncomputable def ob163 (P : Params) : Obj := ⟨(.type PySem.W.SL.s5856160107412720595x4), none, (.fields ⟨[(.str z251 (nat_lit 392)), (.str z258 (nat_lit 393)), (.str z167 (nat_lit 394)), (.int (.ofNat (nat_lit 39)) (nat_lit 0)), (.int (.ofNat (nat_lit 1)) (nat_lit 0)), (.int (.ofNat (nat_lit 0)) (nat_lit 0)), (.int (.ofNat (nat_lit 0)) (nat_lit 0)), (.int (.ofNat (nat_lit 3)) (nat_lit 0)), (.ref (nat_lit 158)), (.bool true), (.int (.ofNat (nat_lit 181)) (nat_lit 0)), (.ref (nat_lit 159)), .none, (.ref (nat_lit 160)), (.ref (nat_lit 161)), (.ref (nat_lit 162)), (.int (.ofNat (nat_lit 396)) (nat_lit 0)), (.int (.ofNat (nat_lit 39)) (nat_lit 0)), (.str z167 (nat_lit 397))]⟩), ⟨[]⟩⟩
noncomputable def ob164 (P : Params) : Obj := ⟨(.type PySem.W.SL.s7174869446012820540x8), none, (.func ⟨z251, z258, fArgs d10x0, .stmts (fBody d10x0), fScope d10x0, (nat_lit 3), [], .none, .none, .none, (.str z256 (nat_lit 349)), none, (.ref (nat_lit 163)), .none, (nat_lit 0)⟩), ⟨[]⟩⟩
noncomputable def ob166 (P : Params) : Obj := ⟨(.type PySem.W.SL.s14018661285674007319x4), none, (.dict ⟨[⟨(PyData.keyHash P z246), (.str z246 (nat_lit 387)), (.str z256 (nat_lit 349))⟩, ⟨(PyData.keyHash P z248), (.str z248 (nat_lit 391)), (.int (.ofNat (nat_lit 37)) (nat_lit 390))⟩, ⟨(PyData.keyHash P z251), (.str z251 (nat_lit 398)), (.ref (nat_lit 164))⟩, ⟨(PyData.keyHash P z249), (.str z249 (nat_lit 401)), (.ref (nat_lit 165))⟩, ⟨(PyData.keyHash P z257), (.str z257 (nat_lit 403)), (.ref (nat_lit 168))⟩, ⟨(PyData.keyHash P z250), (.str z250 (nat_lit 405)), (.ref (nat_lit 169))⟩, ⟨(PyData.keyHash P z2), (.str z2 (nat_lit 406)), .none⟩]⟩ 4), ⟨[]⟩⟩
noncomputable def ob167 (P : Params) : Obj := ⟨(.type PySem.W.SL.s17162191345867700912x4), none, (.cls ⟨z177, [(.type PySem.W.SL.s2742458400755230247x6)], [(.ref (nat_lit 167)), (.type PySem.W.SL.s2742458400755230247x6)], (nat_lit 166), z177, true, [], [], false, none, false⟩), ⟨[none, none, (some (.str z177 (nat_lit 380))), (some (.str z177 (nat_lit 388))), (some (.builtin PySem.W.SL.s11443829558043349243x14)), (some (.bool true))]⟩⟩
noncomputable def ob179 (P : Params) : Obj := ⟨(.type PySem.W.SL.s2766695959194262286x5), none, (.seq ⟨[.none]⟩ 0), ⟨[]⟩⟩
noncomputable def ob185 (P : Params) : Obj := ⟨(.type PySem.W.SL.s5856160107412720595x4), none, (.fields ⟨[(.str z251 (nat_lit 421)), (.str z259 (nat_lit 422)), (.str z167 (nat_lit 423)), (.int (.ofNat (nat_lit 44)) (nat_lit 0)), (.int (.ofNat (nat_lit 4)) (nat_lit 0)), (.int (.ofNat (nat_lit 0)) (nat_lit 0)), (.int (.ofNat (nat_lit 0)) (nat_lit 0)), (.int (.ofNat (nat_lit 3)) (nat_lit 0)), (.ref (nat_lit 180)), (.bool true), (.int (.ofNat (nat_lit 181)) (nat_lit 0)), (.ref (nat_lit 181)), .none, (.ref (nat_lit 182)), (.ref (nat_lit 183)), (.ref (nat_lit 184)), (.int (.ofNat (nat_lit 428)) (nat_lit 0)), (.int (.ofNat (nat_lit 44)) (nat_lit 0)), (.str z167 (nat_lit 429))]⟩), ⟨[]⟩⟩
noncomputable def ob186 (P : Params) : Obj := ⟨(.type PySem.W.SL.s7174869446012820540x8), none, (.func ⟨z251, z259, fArgs d11x0, .stmts (fBody d11x0), fScope d11x0, (nat_lit 3), [], (.ref (nat_lit 179)), .none, .none, (.str z256 (nat_lit 349)), none, (.ref (nat_lit 185)), .none, (nat_lit 0)⟩), ⟨[]⟩⟩
noncomputable def ob195 (P : Params) : Obj := ⟨(.type PySem.W.SL.s14018661285674007319x4), none, (.dict ⟨[⟨(PyData.keyHash P z246), (.str z246 (nat_lit 416)), (.str z256 (nat_lit 349))⟩, ⟨(PyData.keyHash P z248), (.str z248 (nat_lit 420)), (.int (.ofNat (nat_lit 42)) (nat_lit 419))⟩, ⟨(PyData.keyHash P z251), (.str z251 (nat_lit 430)), (.ref (nat_lit 186))⟩, ⟨(PyData.keyHash P z260), (.str z260 (nat_lit 437)), (.ref (nat_lit 193))⟩, ⟨(PyData.keyHash P z249), (.str z249 (nat_lit 443)), (.ref (nat_lit 194))⟩, ⟨(PyData.keyHash P z257), (.str z257 (nat_lit 445)), (.ref (nat_lit 197))⟩, ⟨(PyData.keyHash P z250), (.str z250 (nat_lit 447)), (.ref (nat_lit 198))⟩, ⟨(PyData.keyHash P z2), (.str z2 (nat_lit 448)), .none⟩]⟩ 4), ⟨[]⟩⟩
noncomputable def ob196 (P : Params) : Obj := ⟨(.type PySem.W.SL.s17162191345867700912x4), none, (.cls ⟨z178, [(.type PySem.W.SL.s2742458400755230247x6)], [(.ref (nat_lit 196)), (.type PySem.W.SL.s2742458400755230247x6)], (nat_lit 195), z178, true, [], [], false, none, false⟩), ⟨[none, none, (some (.str z178 (nat_lit 409))), (some (.str z178 (nat_lit 417))), (some (.builtin PySem.W.SL.s11443829558043349243x14)), (some (.bool true))]⟩⟩
noncomputable def ob213 (P : Params) : Obj := ⟨(.type PySem.W.SL.s5856160107412720595x4), none, (.fields ⟨[(.str z251 (nat_lit 463)), (.str z261 (nat_lit 464)), (.str z167 (nat_lit 465)), (.int (.ofNat (nat_lit 55)) (nat_lit 0)), (.int (.ofNat (nat_lit 2)) (nat_lit 0)), (.int (.ofNat (nat_lit 0)) (nat_lit 0)), (.int (.ofNat (nat_lit 0)) (nat_lit 0)), (.int (.ofNat (nat_lit 3)) (nat_lit 0)), (.ref (nat_lit 208)), (.bool true), (.int (.ofNat (nat_lit 181)) (nat_lit 0)), (.ref (nat_lit 209)), .none, (.ref (nat_lit 210)), (.ref (nat_lit 211)), (.ref (nat_lit 212)), (.int (.ofNat (nat_lit 468)) (nat_lit 0)), (.int (.ofNat (nat_lit 55)) (nat_lit 0)), (.str z167 (nat_lit 469))]⟩), ⟨[]⟩⟩
noncomputable def ob214 (P : Params) : Obj := ⟨(.type PySem.W.SL.s7174869446012820540x8), none, (.func ⟨z251, z261, fArgs d12x0, .stmts (fBody d12x0), fScope d12x0, (nat_lit 3), [], .none, .none, .none, (.str z256 (nat_lit 349)), none, (.ref (nat_lit 213)), .none, (nat_lit 0)⟩), ⟨[]⟩⟩
noncomputable def ob216 (P : Params) : Obj := ⟨(.type PySem.W.SL.s14018661285674007319x4), none, (.dict ⟨[⟨(PyData.keyHash P z246), (.str z246 (nat_lit 458)), (.str z256 (nat_lit 349))⟩, ⟨(PyData.keyHash P z248), (.str z248 (nat_lit 462)), (.int (.ofNat (nat_lit 53)) (nat_lit 461))⟩, ⟨(PyData.keyHash P z251), (.str z251 (nat_lit 470)), (.ref (nat_lit 214))⟩, ⟨(PyData.keyHash P z249), (.str z249 (nat_lit 474)), (.ref (nat_lit 215))⟩, ⟨(PyData.keyHash P z257), (.str z257 (nat_lit 476)), (.ref (nat_lit 218))⟩, ⟨(PyData.keyHash P z250), (.str z250 (nat_lit 478)), (.ref (nat_lit 219))⟩, ⟨(PyData.keyHash P z2), (.str z2 (nat_lit 479)), .none⟩]⟩ 4), ⟨[]⟩⟩
noncomputable def ob217 (P : Params) : Obj := ⟨(.type PySem.W.SL.s17162191345867700912x4), none, (.cls ⟨z179, [(.type PySem.W.SL.s2742458400755230247x6)], [(.ref (nat_lit 217)), (.type PySem.W.SL.s2742458400755230247x6)], (nat_lit 216), z179, true, [], [], false, none, false⟩), ⟨[none, none, (some (.str z179 (nat_lit 451))), (some (.str z179 (nat_lit 459))), (some (.builtin PySem.W.SL.s11443829558043349243x14)), (some (.bool true))]⟩⟩
noncomputable def ob229 (P : Params) : Obj := ⟨(.type PySem.W.SL.s2766695959194262286x5), none, (.seq ⟨[.none]⟩ 0), ⟨[]⟩⟩
noncomputable def ob235 (P : Params) : Obj := ⟨(.type PySem.W.SL.s5856160107412720595x4), none, (.fields ⟨[(.str z251 (nat_lit 494)), (.str z262 (nat_lit 495)), (.str z167 (nat_lit 496)), (.int (.ofNat (nat_lit 61)) (nat_lit 0)), (.int (.ofNat (nat_lit 4)) (nat_lit 0)), (.int (.ofNat (nat_lit 0)) (nat_lit 0)), (.int (.ofNat (nat_lit 0)) (nat_lit 0)), (.int (.ofNat (nat_lit 3)) (nat_lit 0)), (.ref (nat_lit 230)), (.bool true), (.int (.ofNat (nat_lit 181)) (nat_lit 0)), (.ref (nat_lit 231)), .none, (.ref (nat_lit 232)), (.ref (nat_lit 233)), (.ref (nat_lit 234)), (.int (.ofNat (nat_lit 501)) (nat_lit 0)), (.int (.ofNat (nat_lit 61)) (nat_lit 0)), (.str z167 (nat_lit 502))]⟩), ⟨[]⟩⟩
noncomputable def ob236 (P : Params) : Obj := ⟨(.type PySem.W.SL.s7174869446012820540x8), none, (.func ⟨z251, z262, fArgs d13x0, .stmts (fBody d13x0), fScope d13x0, (nat_lit 3), [], (.ref (nat_lit 229)), .none, .none, (.str z256 (nat_lit 349)), none, (.ref (nat_lit 235)), .none, (nat_lit 0)⟩), ⟨[]⟩⟩
noncomputable def ob238 (P : Params) : Obj := ⟨(.type PySem.W.SL.s14018661285674007319x4), none, (.dict ⟨[⟨(PyData.keyHash P z246), (.str z246 (nat_lit 489)), (.str z256 (nat_lit 349))⟩, ⟨(PyData.keyHash P z248), (.str z248 (nat_lit 493)), (.int (.ofNat (nat_lit 59)) (nat_lit 492))⟩, ⟨(PyData.keyHash P z251), (.str z251 (nat_lit 503)), (.ref (nat_lit 236))⟩, ⟨(PyData.keyHash P z249), (.str z249 (nat_lit 509)), (.ref (nat_lit 237))⟩, ⟨(PyData.keyHash P z257), (.str z257 (nat_lit 511)), (.ref (nat_lit 240))⟩, ⟨(PyData.keyHash P z250), (.str z250 (nat_lit 513)), (.ref (nat_lit 241))⟩, ⟨(PyData.keyHash P z2), (.str z2 (nat_lit 514)), .none⟩]⟩ 4), ⟨[]⟩⟩
noncomputable def ob239 (P : Params) : Obj := ⟨(.type PySem.W.SL.s17162191345867700912x4), none, (.cls ⟨z180, [(.type PySem.W.SL.s2742458400755230247x6)], [(.ref (nat_lit 239)), (.type PySem.W.SL.s2742458400755230247x6)], (nat_lit 238), z180, true, [], [], false, none, false⟩), ⟨[none, none, (some (.str z180 (nat_lit 482))), (some (.str z180 (nat_lit 490))), (some (.builtin PySem.W.SL.s11443829558043349243x14)), (some (.bool true))]⟩⟩
noncomputable def ob251 (P : Params) : Obj := ⟨(.type PySem.W.SL.s2766695959194262286x5), none, (.seq ⟨[.none]⟩ 0), ⟨[]⟩⟩
noncomputable def ob257 (P : Params) : Obj := ⟨(.type PySem.W.SL.s5856160107412720595x4), none, (.fields ⟨[(.str z251 (nat_lit 529)), (.str z263 (nat_lit 530)), (.str z167 (nat_lit 531)), (.int (.ofNat (nat_lit 69)) (nat_lit 0)), (.int (.ofNat (nat_lit 5)) (nat_lit 0)), (.int (.ofNat (nat_lit 0)) (nat_lit 0)), (.int (.ofNat (nat_lit 0)) (nat_lit 0)), (.int (.ofNat (nat_lit 3)) (nat_lit 0)), (.ref (nat_lit 252)), (.bool true), (.int (.ofNat (nat_lit 181)) (nat_lit 0)), (.ref (nat_lit 253)), .none, (.ref (nat_lit 254)), (.ref (nat_lit 255)), (.ref (nat_lit 256)), (.int (.ofNat (nat_lit 537)) (nat_lit 0)), (.int (.ofNat (nat_lit 69)) (nat_lit 0)), (.str z167 (nat_lit 538))]⟩), ⟨[]⟩⟩
noncomputable def ob258 (P : Params) : Obj := ⟨(.type PySem.W.SL.s7174869446012820540x8), none, (.func ⟨z251, z263, fArgs d14x0, .stmts (fBody d14x0), fScope d14x0, (nat_lit 3), [], (.ref (nat_lit 251)), .none, .none, (.str z256 (nat_lit 349)), none, (.ref (nat_lit 257)), .none, (nat_lit 0)⟩), ⟨[]⟩⟩
noncomputable def ob260 (P : Params) : Obj := ⟨(.type PySem.W.SL.s14018661285674007319x4), none, (.dict ⟨[⟨(PyData.keyHash P z246), (.str z246 (nat_lit 524)), (.str z256 (nat_lit 349))⟩, ⟨(PyData.keyHash P z248), (.str z248 (nat_lit 528)), (.int (.ofNat (nat_lit 67)) (nat_lit 527))⟩, ⟨(PyData.keyHash P z251), (.str z251 (nat_lit 539)), (.ref (nat_lit 258))⟩, ⟨(PyData.keyHash P z249), (.str z249 (nat_lit 545)), (.ref (nat_lit 259))⟩, ⟨(PyData.keyHash P z257), (.str z257 (nat_lit 547)), (.ref (nat_lit 262))⟩, ⟨(PyData.keyHash P z250), (.str z250 (nat_lit 549)), (.ref (nat_lit 263))⟩, ⟨(PyData.keyHash P z2), (.str z2 (nat_lit 550)), .none⟩]⟩ 4), ⟨[]⟩⟩
noncomputable def ob261 (P : Params) : Obj := ⟨(.type PySem.W.SL.s17162191345867700912x4), none, (.cls ⟨z181, [(.type PySem.W.SL.s2742458400755230247x6)], [(.ref (nat_lit 261)), (.type PySem.W.SL.s2742458400755230247x6)], (nat_lit 260), z181, true, [], [], false, none, false⟩), ⟨[none, none, (some (.str z181 (nat_lit 517))), (some (.str z181 (nat_lit 525))), (some (.builtin PySem.W.SL.s11443829558043349243x14)), (some (.bool true))]⟩⟩
noncomputable def ob278 (P : Params) : Obj := ⟨(.type PySem.W.SL.s5856160107412720595x4), none, (.fields ⟨[(.str z251 (nat_lit 565)), (.str z264 (nat_lit 566)), (.str z167 (nat_lit 567)), (.int (.ofNat (nat_lit 77)) (nat_lit 0)), (.int (.ofNat (nat_lit 5)) (nat_lit 0)), (.int (.ofNat (nat_lit 0)) (nat_lit 0)), (.int (.ofNat (nat_lit 0)) (nat_lit 0)), (.int (.ofNat (nat_lit 3)) (nat_lit 0)), (.ref (nat_lit 273)), (.bool true), (.int (.ofNat (nat_lit 181)) (nat_lit 0)), (.ref (nat_lit 274)), .none, (.ref (nat_lit 275)), (.ref (nat_lit 276)), (.ref (nat_lit 277)), (.int (.ofNat (nat_lit 573)) (nat_lit 0)), (.int (.ofNat (nat_lit 77)) (nat_lit 0)), (.str z167 (nat_lit 574))]⟩), ⟨[]⟩⟩
noncomputable def ob279 (P : Params) : Obj := ⟨(.type PySem.W.SL.s7174869446012820540x8), none, (.func ⟨z251, z264, fArgs d15x0, .stmts (fBody d15x0), fScope d15x0, (nat_lit 3), [], .none, .none, .none, (.str z256 (nat_lit 349)), none, (.ref (nat_lit 278)), .none, (nat_lit 0)⟩), ⟨[]⟩⟩
noncomputable def ob281 (P : Params) : Obj := ⟨(.type PySem.W.SL.s14018661285674007319x4), none, (.dict ⟨[⟨(PyData.keyHash P z246), (.str z246 (nat_lit 560)), (.str z256 (nat_lit 349))⟩, ⟨(PyData.keyHash P z248), (.str z248 (nat_lit 564)), (.int (.ofNat (nat_lit 75)) (nat_lit 563))⟩, ⟨(PyData.keyHash P z251), (.str z251 (nat_lit 575)), (.ref (nat_lit 279))⟩, ⟨(PyData.keyHash P z249), (.str z249 (nat_lit 582)), (.ref (nat_lit 280))⟩, ⟨(PyData.keyHash P z257), (.str z257 (nat_lit 584)), (.ref (nat_lit 283))⟩, ⟨(PyData.keyHash P z250), (.str z250 (nat_lit 586)), (.ref (nat_lit 284))⟩, ⟨(PyData.keyHash P z2), (.str z2 (nat_lit 587)), .none⟩]⟩ 4), ⟨[]⟩⟩
noncomputable def ob282 (P : Params) : Obj := ⟨(.type PySem.W.SL.s17162191345867700912x4), none, (.cls ⟨z182, [(.type PySem.W.SL.s2742458400755230247x6)], [(.ref (nat_lit 282)), (.type PySem.W.SL.s2742458400755230247x6)], (nat_lit 281), z182, true, [], [], false, none, false⟩), ⟨[none, none, (some (.str z182 (nat_lit 553))), (some (.str z182 (nat_lit 561))), (some (.builtin PySem.W.SL.s11443829558043349243x14)), (some (.bool true))]⟩⟩
noncomputable def ob294 (P : Params) : Obj := ⟨(.type PySem.W.SL.s2766695959194262286x5), none, (.seq ⟨[.none]⟩ 0), ⟨[]⟩⟩
noncomputable def ob300 (P : Params) : Obj := ⟨(.type PySem.W.SL.s5856160107412720595x4), none, (.fields ⟨[(.str z251 (nat_lit 602)), (.str z265 (nat_lit 603)), (.str z167 (nat_lit 604)), (.int (.ofNat (nat_lit 86)) (nat_lit 0)), (.int (.ofNat (nat_lit 4)) (nat_lit 0)), (.int (.ofNat (nat_lit 0)) (nat_lit 0)), (.int (.ofNat (nat_lit 0)) (nat_lit 0)), (.int (.ofNat (nat_lit 3)) (nat_lit 0)), (.ref (nat_lit 295)), (.bool true), (.int (.ofNat (nat_lit 181)) (nat_lit 0)), (.ref (nat_lit 296)), .none, (.ref (nat_lit 297)), (.ref (nat_lit 298)), (.ref (nat_lit 299)), (.int (.ofNat (nat_lit 609)) (nat_lit 0)), (.int (.ofNat (nat_lit 86)) (nat_lit 0)), (.str z167 (nat_lit 610))]⟩), ⟨[]⟩⟩
noncomputable def ob301 (P : Params) : Obj := ⟨(.type PySem.W.SL.s7174869446012820540x8), none, (.func ⟨z251, z265, fArgs d16x0, .stmts (fBody d16x0), fScope d16x0, (nat_lit 3), [], (.ref (nat_lit 294)), .none, .none, (.str z256 (nat_lit 349)), none, (.ref (nat_lit 300)), .none, (nat_lit 0)⟩), ⟨[]⟩⟩
noncomputable def ob303 (P : Params) : Obj := ⟨(.type PySem.W.SL.s14018661285674007319x4), none, (.dict ⟨[⟨(PyData.keyHash P z246), (.str z246 (nat_lit 597)), (.str z256 (nat_lit 349))⟩, ⟨(PyData.keyHash P z248), (.str z248 (nat_lit 601)), (.int (.ofNat (nat_lit 84)) (nat_lit 600))⟩, ⟨(PyData.keyHash P z251), (.str z251 (nat_lit 611)), (.ref (nat_lit 301))⟩, ⟨(PyData.keyHash P z249), (.str z249 (nat_lit 619)), (.ref (nat_lit 302))⟩, ⟨(PyData.keyHash P z257), (.str z257 (nat_lit 621)), (.ref (nat_lit 305))⟩, ⟨(PyData.keyHash P z250), (.str z250 (nat_lit 623)), (.ref (nat_lit 306))⟩, ⟨(PyData.keyHash P z2), (.str z2 (nat_lit 624)), .none⟩]⟩ 4), ⟨[]⟩⟩
noncomputable def ob304 (P : Params) : Obj := ⟨(.type PySem.W.SL.s17162191345867700912x4), none, (.cls ⟨z183, [(.type PySem.W.SL.s2742458400755230247x6)], [(.ref (nat_lit 304)), (.type PySem.W.SL.s2742458400755230247x6)], (nat_lit 303), z183, true, [], [], false, none, false⟩), ⟨[none, none, (some (.str z183 (nat_lit 590))), (some (.str z183 (nat_lit 598))), (some (.builtin PySem.W.SL.s11443829558043349243x14)), (some (.bool true))]⟩⟩
noncomputable def ob321 (P : Params) : Obj := ⟨(.type PySem.W.SL.s5856160107412720595x4), none, (.fields ⟨[(.str z251 (nat_lit 639)), (.str z266 (nat_lit 640)), (.str z167 (nat_lit 641)), (.int (.ofNat (nat_lit 96)) (nat_lit 0)), (.int (.ofNat (nat_lit 3)) (nat_lit 0)), (.int (.ofNat (nat_lit 0)) (nat_lit 0)), (.int (.ofNat (nat_lit 0)) (nat_lit 0)), (.int (.ofNat (nat_lit 3)) (nat_lit 0)), (.ref (nat_lit 316)), (.bool true), (.int (.ofNat (nat_lit 181)) (nat_lit 0)), (.ref (nat_lit 317)), .none, (.ref (nat_lit 318)), (.ref (nat_lit 319)), (.ref (nat_lit 320)), (.int (.ofNat (nat_lit 645)) (nat_lit 0)), (.int (.ofNat (nat_lit 96)) (nat_lit 0)), (.str z167 (nat_lit 646))]⟩), ⟨[]⟩⟩
noncomputable def ob322 (P : Params) : Obj := ⟨(.type PySem.W.SL.s7174869446012820540x8), none, (.func ⟨z251, z266, fArgs d17x0, .stmts (fBody d17x0), fScope d17x0, (nat_lit 3), [], .none, .none, .none, (.str z256 (nat_lit 349)), none, (.ref (nat_lit 321)), .none, (nat_lit 0)⟩), ⟨[]⟩⟩
noncomputable def ob324 (P : Params) : Obj := ⟨(.type PySem.W.SL.s14018661285674007319x4), none, (.dict ⟨[⟨(PyData.keyHash P z246), (.str z246 (nat_lit 634)), (.str z256 (nat_lit 349))⟩, ⟨(PyData.keyHash P z248), (.str z248 (nat_lit 638)), (.int (.ofNat (nat_lit 94)) (nat_lit 637))⟩, ⟨(PyData.keyHash P z251), (.str z251 (nat_lit 647)), (.ref (nat_lit 322))⟩, ⟨(PyData.keyHash P z249), (.str z249 (nat_lit 655)), (.ref (nat_lit 323))⟩, ⟨(PyData.keyHash P z257), (.str z257 (nat_lit 657)), (.ref (nat_lit 326))⟩, ⟨(PyData.keyHash P z250), (.str z250 (nat_lit 659)), (.ref (nat_lit 327))⟩, ⟨(PyData.keyHash P z2), (.str z2 (nat_lit 660)), .none⟩]⟩ 4), ⟨[]⟩⟩
noncomputable def ob325 (P : Params) : Obj := ⟨(.type PySem.W.SL.s17162191345867700912x4), none, (.cls ⟨z184, [(.type PySem.W.SL.s2742458400755230247x6)], [(.ref (nat_lit 325)), (.type PySem.W.SL.s2742458400755230247x6)], (nat_lit 324), z184, true, [], [], false, none, false⟩), ⟨[none, none, (some (.str z184 (nat_lit 627))), (some (.str z184 (nat_lit 635))), (some (.builtin PySem.W.SL.s11443829558043349243x14)), (some (.bool true))]⟩⟩
noncomputable def ob356 (P : Params) : Obj := ⟨(.type PySem.W.SL.s5856160107412720595x4), none, (.fields ⟨[(.str z186 (nat_lit 694)), (.str z186 (nat_lit 695)), (.str z167 (nat_lit 696)), (.int (.ofNat (nat_lit 110)) (nat_lit 0)), (.int (.ofNat (nat_lit 0)) (nat_lit 0)), (.int (.ofNat (nat_lit 0)) (nat_lit 0)), (.int (.ofNat (nat_lit 0)) (nat_lit 0)), (.int (.ofNat (nat_lit 3)) (nat_lit 0)), (.ref (nat_lit 351)), (.bool true), (.int (.ofNat (nat_lit 181)) (nat_lit 0)), (.ref (nat_lit 352)), .none, (.ref (nat_lit 353)), (.ref (nat_lit 354)), (.ref (nat_lit 355)), (.int (.ofNat (nat_lit 697)) (nat_lit 0)), (.int (.ofNat (nat_lit 110)) (nat_lit 0)), (.str z167 (nat_lit 698))]⟩), ⟨[]⟩⟩
noncomputable def ob357 (P : Params) : Obj := ⟨(.type PySem.W.SL.s7174869446012820540x8), none, (.func ⟨z186, z186, fArgs d19, .stmts (fBody d19), fScope d19, (nat_lit 3), [], .none, .none, .none, (.str z256 (nat_lit 349)), none, (.ref (nat_lit 356)), .none, (nat_lit 0)⟩), ⟨[]⟩⟩
noncomputable def ob398 (P : Params) : Obj := ⟨(.type PySem.W.SL.s5856160107412720595x4), none, (.fields ⟨[(.str z192 (nat_lit 734)), (.str z192 (nat_lit 735)), (.str z167 (nat_lit 736)), (.int (.ofNat (nat_lit 124)) (nat_lit 0)), (.int (.ofNat (nat_lit 1)) (nat_lit 0)), (.int (.ofNat (nat_lit 0)) (nat_lit 0)), (.int (.ofNat (nat_lit 0)) (nat_lit 0)), (.int (.ofNat (nat_lit 3)) (nat_lit 0)), (.ref (nat_lit 393)), (.bool true), (.int (.ofNat (nat_lit 181)) (nat_lit 0)), (.ref (nat_lit 394)), .none, (.ref (nat_lit 395)), (.ref (nat_lit 396)), (.ref (nat_lit 397)), (.int (.ofNat (nat_lit 738)) (nat_lit 0)), (.int (.ofNat (nat_lit 124)) (nat_lit 0)), (.str z167 (nat_lit 739))]⟩), ⟨[]⟩⟩
noncomputable def ob399 (P : Params) : Obj := ⟨(.type PySem.W.SL.s7174869446012820540x8), none, (.func ⟨z192, z192, fArgs d25, .stmts (fBody d25), fScope d25, (nat_lit 3), [], .none, .none, .none, (.str z256 (nat_lit 349)), none, (.ref (nat_lit 398)), .none, (nat_lit 0)⟩), ⟨[]⟩⟩
noncomputable def ob405 (P : Params) : Obj := ⟨(.type PySem.W.SL.s5856160107412720595x4), none, (.fields ⟨[(.str z193 (nat_lit 741)), (.str z193 (nat_lit 742)), (.str z167 (nat_lit 743)), (.int (.ofNat (nat_lit 126)) (nat_lit 0)), (.int (.ofNat (nat_lit 1)) (nat_lit 0)), (.int (.ofNat (nat_lit 0)) (nat_lit 0)), (.int (.ofNat (nat_lit 0)) (nat_lit 0)), (.int (.ofNat (nat_lit 3)) (nat_lit 0)), (.ref (nat_lit 400)), (.bool true), (.int (.ofNat (nat_lit 181)) (nat_lit 0)), (.ref (nat_lit 401)), .none, (.ref (nat_lit 402)), (.ref (nat_lit 403)), (.ref (nat_lit 404)), (.int (.ofNat (nat_lit 745)) (nat_lit 0)), (.int (.ofNat (nat_lit 126)) (nat_lit 0)), (.str z167 (nat_lit 746))]⟩), ⟨[]⟩⟩
noncomputable def ob406 (P : Params) : Obj := ⟨(.type PySem.W.SL.s7174869446012820540x8), none, (.func ⟨z193, z193, fArgs d26, .stmts (fBody d26), fScope d26, (nat_lit 3), [], .none, .none, .none, (.str z256 (nat_lit 349)), none, (.ref (nat_lit 405)), .none, (nat_lit 0)⟩), ⟨[]⟩⟩
noncomputable def ob419 (P : Params) : Obj := ⟨(.type PySem.W.SL.s5856160107412720595x4), none, (.fields ⟨[(.str z251 (nat_lit 762)), (.str z267 (nat_lit 763)), (.str z167 (nat_lit 764)), (.int (.ofNat (nat_lit 133)) (nat_lit 0)), (.int (.ofNat (nat_lit 3)) (nat_lit 0)), (.int (.ofNat (nat_lit 0)) (nat_lit 0)), (.int (.ofNat (nat_lit 0)) (nat_lit 0)), (.int (.ofNat (nat_lit 3)) (nat_lit 0)), (.ref (nat_lit 414)), (.bool true), (.int (.ofNat (nat_lit 181)) (nat_lit 0)), (.ref (nat_lit 415)), .none, (.ref (nat_lit 416)), (.ref (nat_lit 417)), (.ref (nat_lit 418)), (.int (.ofNat (nat_lit 768)) (nat_lit 0)), (.int (.ofNat (nat_lit 133)) (nat_lit 0)), (.str z167 (nat_lit 769))]⟩), ⟨[]⟩⟩
noncomputable def ob420 (P : Params) : Obj := ⟨(.type PySem.W.SL.s7174869446012820540x8), none, (.func ⟨z251, z267, fArgs d28x0, .stmts (fBody d28x0), fScope d28x0, (nat_lit 3), [], .none, .none, .none, (.str z268 (nat_lit 748)), none, (.ref (nat_lit 419)), .none, (nat_lit 0)⟩), ⟨[]⟩⟩
noncomputable def ob426 (P : Params) : Obj := ⟨(.type PySem.W.SL.s5856160107412720595x4), none, (.fields ⟨[(.str z269 (nat_lit 771)), (.str z270 (nat_lit 772)), (.str z167 (nat_lit 773)), (.int (.ofNat (nat_lit 139)) (nat_lit 0)), (.int (.ofNat (nat_lit 1)) (nat_lit 0)), (.int (.ofNat (nat_lit 0)) (nat_lit 0)), (.int (.ofNat (nat_lit 0)) (nat_lit 0)), (.int (.ofNat (nat_lit 3)) (nat_lit 0)), (.ref (nat_lit 421)), (.bool true), (.int (.ofNat (nat_lit 181)) (nat_lit 0)), (.ref (nat_lit 422)), .none, (.ref (nat_lit 423)), (.ref (nat_lit 424)), (.ref (nat_lit 425)), (.int (.ofNat (nat_lit 777)) (nat_lit 0)), (.int (.ofNat (nat_lit 139)) (nat_lit 0)), (.str z167 (nat_lit 778))]⟩), ⟨[]⟩⟩
noncomputable def ob427 (P : Params) : Obj := ⟨(.type PySem.W.SL.s7174869446012820540x8), none, (.func ⟨z269, z270, fArgs d28x1, .stmts (fBody d28x1), fScope d28x1, (nat_lit 3), [], .none, .none, .none, (.str z268 (nat_lit 748)), none, (.ref (nat_lit 426)), .none, (nat_lit 0)⟩), ⟨[]⟩⟩
noncomputable def ob433 (P : Params) : Obj := ⟨(.type PySem.W.SL.s5856160107412720595x4), none, (.fields ⟨[(.str z271 (nat_lit 780)), (.str z272 (nat_lit 781)), (.str z167 (nat_lit 782)), (.int (.ofNat (nat_lit 149)) (nat_lit 0)), (.int (.ofNat (nat_lit 1)) (nat_lit 0)), (.int (.ofNat (nat_lit 0)) (nat_lit 0)), (.int (.ofNat (nat_lit 0)) (nat_lit 0)), (.int (.ofNat (nat_lit 3)) (nat_lit 0)), (.ref (nat_lit 428)), (.bool true), (.int (.ofNat (nat_lit 181)) (nat_lit 0)), (.ref (nat_lit 429)), .none, (.ref (nat_lit 430)), (.ref (nat_lit 431)), (.ref (nat_lit 432)), (.int (.ofNat (nat_lit 785)) (nat_lit 0)), (.int (.ofNat (nat_lit 149)) (nat_lit 0)), (.str z167 (nat_lit 786))]⟩), ⟨[]⟩⟩
noncomputable def ob434 (P : Params) : Obj := ⟨(.type PySem.W.SL.s7174869446012820540x8), none, (.func ⟨z271, z272, fArgs d28x2, .stmts (fBody d28x2), fScope d28x2, (nat_lit 3), [], .none, .none, .none, (.str z268 (nat_lit 748)), none, (.ref (nat_lit 433)), .none, (nat_lit 0)⟩), ⟨[]⟩⟩
noncomputable def ob440 (P : Params) : Obj := ⟨(.type PySem.W.SL.s5856160107412720595x4), none, (.fields ⟨[(.str z273 (nat_lit 788)), (.str z274 (nat_lit 789)), (.str z167 (nat_lit 790)), (.int (.ofNat (nat_lit 156)) (nat_lit 0)), (.int (.ofNat (nat_lit 2)) (nat_lit 0)), (.int (.ofNat (nat_lit 0)) (nat_lit 0)), (.int (.ofNat (nat_lit 0)) (nat_lit 0)), (.int (.ofNat (nat_lit 3)) (nat_lit 0)), (.ref (nat_lit 435)), (.bool true), (.int (.ofNat (nat_lit 181)) (nat_lit 0)), (.ref (nat_lit 436)), .none, (.ref (nat_lit 437)), (.ref (nat_lit 438)), (.ref (nat_lit 439)), (.int (.ofNat (nat_lit 795)) (nat_lit 0)), (.int (.ofNat (nat_lit 156)) (nat_lit 0)), (.str z167 (nat_lit 796))]⟩), ⟨[]⟩⟩
noncomputable def ob441 (P : Params) : Obj := ⟨(.type PySem.W.SL.s7174869446012820540x8), none, (.func ⟨z273, z274, fArgs d28x3, .stmts (fBody d28x3), fScope d28x3, (nat_lit 3), [], .none, .none, .none, (.str z268 (nat_lit 748)), none, (.ref (nat_lit 440)), .none, (nat_lit 0)⟩), ⟨[]⟩⟩
noncomputable def ob447 (P : Params) : Obj := ⟨(.type PySem.W.SL.s5856160107412720595x4), none, (.fields ⟨[(.str z275 (nat_lit 798)), (.str z276 (nat_lit 799)), (.str z167 (nat_lit 800)), (.int (.ofNat (nat_lit 167)) (nat_lit 0)), (.int (.ofNat (nat_lit 1)) (nat_lit 0)), (.int (.ofNat (nat_lit 0)) (nat_lit 0)), (.int (.ofNat (nat_lit 0)) (nat_lit 0)), (.int (.ofNat (nat_lit 3)) (nat_lit 0)), (.ref (nat_lit 442)), (.bool true), (.int (.ofNat (nat_lit 181)) (nat_lit 0)), (.ref (nat_lit 443)), .none, (.ref (nat_lit 444)), (.ref (nat_lit 445)), (.ref (nat_lit 446)), (.int (.ofNat (nat_lit 804)) (nat_lit 0)), (.int (.ofNat (nat_lit 167)) (nat_lit 0)), (.str z167 (nat_lit 805))]⟩), ⟨[]⟩⟩
noncomputable def ob448 (P : Params) : Obj := ⟨(.type PySem.W.SL.s7174869446012820540x8), none, (.func ⟨z275, z276, fArgs d28x4, .stmts (fBody d28x4), fScope d28x4, (nat_lit 3), [], .none, .none, .none, (.str z268 (nat_lit 748)), none, (.ref (nat_lit 447)), .none, (nat_lit 0)⟩), ⟨[]⟩⟩
noncomputable def ob454 (P : Params) : Obj := ⟨(.type PySem.W.SL.s5856160107412720595x4), none, (.fields ⟨[(.str z277 (nat_lit 807)), (.str z278 (nat_lit 808)), (.str z167 (nat_lit 809)), (.int (.ofNat (nat_lit 179)) (nat_lit 0)), (.int (.ofNat (nat_lit 2)) (nat_lit 0)), (.int (.ofNat (nat_lit 0)) (nat_lit 0)), (.int (.ofNat (nat_lit 0)) (nat_lit 0)), (.int (.ofNat (nat_lit 3)) (nat_lit 0)), (.ref (nat_lit 449)), (.bool true), (.int (.ofNat (nat_lit 181)) (nat_lit 0)), (.ref (nat_lit 450)), .none, (.ref (nat_lit 451)), (.ref (nat_lit 452)), (.ref (nat_lit 453)), (.int (.ofNat (nat_lit 812)) (nat_lit 0)), (.int (.ofNat (nat_lit 179)) (nat_lit 0)), (.str z167 (nat_lit 813))]⟩), ⟨[]⟩⟩
noncomputable def ob455 (P : Params) : Obj := ⟨(.type PySem.W.SL.s7174869446012820540x8), none, (.func ⟨z277, z278, fArgs d28x5, .stmts (fBody d28x5), fScope d28x5, (nat_lit 3), [], .none, .none, .none, (.str z268 (nat_lit 748)), none, (.ref (nat_lit 454)), .none, (nat_lit 0)⟩), ⟨[]⟩⟩
noncomputable def ob459 (P : Params) : Obj := ⟨(.type PySem.W.SL.s5856160107412720595x4), none, (.fields ⟨[(.str z279 (nat_lit 815)), (.str z280 (nat_lit 816)), (.str z167 (nat_lit 817)), (.int (.ofNat (nat_lit 182)) (nat_lit 0)), (.int (.ofNat (nat_lit 1)) (nat_lit 0)), (.int (.ofNat (nat_lit 0)) (nat_lit 0)), (.int (.ofNat (nat_lit 0)) (nat_lit 0)), (.int (.ofNat (nat_lit 3)) (nat_lit 0)), (.ref (nat_lit 456)), (.bool true), (.int (.ofNat (nat_lit 181)) (nat_lit 0)), (.ref (nat_lit 457)), .none, .none, .none, (.ref (nat_lit 458)), (.int (.ofNat (nat_lit 818)) (nat_lit 0)), (.int (.ofNat (nat_lit 182)) (nat_lit 0)), (.str z167 (nat_lit 819))]⟩), ⟨[]⟩⟩
noncomputable def ob460 (P : Params) : Obj := ⟨(.type PySem.W.SL.s7174869446012820540x8), none, (.func ⟨z279, z280, fArgs d28x6, .stmts (fBody d28x6), fScope d28x6, (nat_lit 3), [], .none, .none, .none, (.str z268 (nat_lit 748)), none, (.ref (nat_lit 459)), .none, (nat_lit 0)⟩), ⟨[]⟩⟩
noncomputable def ob462 (P : Params) : Obj := ⟨(.type PySem.W.SL.s14018661285674007319x4), none, (.dict ⟨[⟨(PyData.keyHash P z246), (.str z246 (nat_lit 757)), (.str z268 (nat_lit 748))⟩, ⟨(PyData.keyHash P z248), (.str z248 (nat_lit 761)), (.int (.ofNat (nat_lit 131)) (nat_lit 760))⟩, ⟨(PyData.keyHash P z251), (.str z251 (nat_lit 770)), (.ref (nat_lit 420))⟩, ⟨(PyData.keyHash P z269), (.str z269 (nat_lit 779)), (.ref (nat_lit 427))⟩, ⟨(PyData.keyHash P z271), (.str z271 (nat_lit 787)), (.ref (nat_lit 434))⟩, ⟨(PyData.keyHash P z273), (.str z273 (nat_lit 797)), (.ref (nat_lit 441))⟩, ⟨(PyData.keyHash P z275), (.str z275 (nat_lit 806)), (.ref (nat_lit 448))⟩, ⟨(PyData.keyHash P z277), (.str z277 (nat_lit 814)), (.ref (nat_lit 455))⟩, ⟨(PyData.keyHash P z279), (.str z279 (nat_lit 820)), (.ref (nat_lit 460))⟩, ⟨(PyData.keyHash P z249), (.str z249 (nat_lit 825)), (.ref (nat_lit 461))⟩, ⟨(PyData.keyHash P z257), (.str z257 (nat_lit 827)), (.ref (nat_lit 464))⟩, ⟨(PyData.keyHash P z250), (.str z250 (nat_lit 829)), (.ref (nat_lit 465))⟩, ⟨(PyData.keyHash P z2), (.str z2 (nat_lit 830)), .none⟩]⟩ 4), ⟨[]⟩⟩
noncomputable def ob463 (P : Params) : Obj := ⟨(.type PySem.W.SL.s17162191345867700912x4), none, (.cls ⟨z194, [(.type PySem.W.SL.s2742458400755230247x6)], [(.ref (nat_lit 463)), (.type PySem.W.SL.s2742458400755230247x6)], (nat_lit 462), z194, true, [], [], false, none, false⟩), ⟨[none, none, (some (.str z194 (nat_lit 750))), (some (.str z194 (nat_lit 758))), (some (.builtin PySem.W.SL.s11443829558043349243x14)), (some (.bool true))]⟩⟩
noncomputable def ob473 (P : Params) : Obj := ⟨(.type PySem.W.SL.s5856160107412720595x4), none, (.fields ⟨[(.str z195 (nat_lit 833)), (.str z195 (nat_lit 834)), (.str z167 (nat_lit 835)), (.int (.ofNat (nat_lit 184)) (nat_lit 0)), (.int (.ofNat (nat_lit 1)) (nat_lit 0)), (.int (.ofNat (nat_lit 0)) (nat_lit 0)), (.int (.ofNat (nat_lit 0)) (nat_lit 0)), (.int (.ofNat (nat_lit 3)) (nat_lit 0)), (.ref (nat_lit 468)), (.bool true), (.int (.ofNat (nat_lit 181)) (nat_lit 0)), (.ref (nat_lit 469)), .none, (.ref (nat_lit 470)), (.ref (nat_lit 471)), (.ref (nat_lit 472)), (.int (.ofNat (nat_lit 837)) (nat_lit 0)), (.int (.ofNat (nat_lit 184)) (nat_lit 0)), (.str z167 (nat_lit 838))]⟩), ⟨[]⟩⟩
noncomputable def ob474 (P : Params) : Obj := ⟨(.type PySem.W.SL.s7174869446012820540x8), none, (.func ⟨z195, z195, fArgs d29, .stmts (fBody d29), fScope d29, (nat_lit 3), [], .none, .none, .none, (.str z268 (nat_lit 748)), none, (.ref (nat_lit 473)), .none, (nat_lit 0)⟩), ⟨[]⟩⟩
noncomputable def ob480 (P : Params) : Obj := ⟨(.type PySem.W.SL.s5856160107412720595x4), none, (.fields ⟨[(.str z196 (nat_lit 840)), (.str z196 (nat_lit 841)), (.str z167 (nat_lit 842)), (.int (.ofNat (nat_lit 186)) (nat_lit 0)), (.int (.ofNat (nat_lit 3)) (nat_lit 0)), (.int (.ofNat (nat_lit 0)) (nat_lit 0)), (.int (.ofNat (nat_lit 0)) (nat_lit 0)), (.int (.ofNat (nat_lit 3)) (nat_lit 0)), (.ref (nat_lit 475)), (.bool true), (.int (.ofNat (nat_lit 181)) (nat_lit 0)), (.ref (nat_lit 476)), .none, (.ref (nat_lit 477)), (.ref (nat_lit 478)), (.ref (nat_lit 479)), (.int (.ofNat (nat_lit 849)) (nat_lit 0)), (.int (.ofNat (nat_lit 186)) (nat_lit 0)), (.str z167 (nat_lit 850))]⟩), ⟨[]⟩⟩
noncomputable def ob481 (P : Params) : Obj := ⟨(.type PySem.W.SL.s7174869446012820540x8), none, (.func ⟨z196, z196, fArgs d30, .stmts (fBody d30), fScope d30, (nat_lit 3), [], .none, .none, .none, (.str z268 (nat_lit 748)), none, (.ref (nat_lit 480)), .none, (nat_lit 0)⟩), ⟨[]⟩⟩
noncomputable def ob487 (P : Params) : Obj := ⟨(.type PySem.W.SL.s5856160107412720595x4), none, (.fields ⟨[(.str z197 (nat_lit 852)), (.str z197 (nat_lit 853)), (.str z167 (nat_lit 854)), (.int (.ofNat (nat_lit 192)) (nat_lit 0)), (.int (.ofNat (nat_lit 1)) (nat_lit 0)), (.int (.ofNat (nat_lit 0)) (nat_lit 0)), (.int (.ofNat (nat_lit 0)) (nat_lit 0)), (.int (.ofNat (nat_lit 3)) (nat_lit 0)), (.ref (nat_lit 482)), (.bool true), (.int (.ofNat (nat_lit 181)) (nat_lit 0)), (.ref (nat_lit 483)), .none, (.ref (nat_lit 484)), (.ref (nat_lit 485)), (.ref (nat_lit 486)), (.int (.ofNat (nat_lit 857)) (nat_lit 0)), (.int (.ofNat (nat_lit 192)) (nat_lit 0)), (.str z167 (nat_lit 858))]⟩), ⟨[]⟩⟩
noncomputable def ob488 (P : Params) : Obj := ⟨(.type PySem.W.SL.s7174869446012820540x8), none, (.func ⟨z197, z197, fArgs d31, .stmts (fBody d31), fScope d31, (nat_lit 3), [], .none, .none, .none, (.str z268 (nat_lit 748)), none, (.ref (nat_lit 487)), .none, (nat_lit 0)⟩), ⟨[]⟩⟩
noncomputable def ob492 (P : Params) : Obj := ⟨(.type PySem.W.SL.s5856160107412720595x4), none, (.fields ⟨[(.str z198 (nat_lit 860)), (.str z198 (nat_lit 861)), (.str z167 (nat_lit 862)), (.int (.ofNat (nat_lit 207)) (nat_lit 0)), (.int (.ofNat (nat_lit 3)) (nat_lit 0)), (.int (.ofNat (nat_lit 0)) (nat_lit 0)), (.int (.ofNat (nat_lit 0)) (nat_lit 0)), (.int (.ofNat (nat_lit 3)) (nat_lit 0)), (.ref (nat_lit 489)), (.bool true), (.int (.ofNat (nat_lit 181)) (nat_lit 0)), (.ref (nat_lit 490)), .none, .none, .none, (.ref (nat_lit 491)), (.int (.ofNat (nat_lit 863)) (nat_lit 0)), (.int (.ofNat (nat_lit 207)) (nat_lit 0)), (.str z167 (nat_lit 864))]⟩), ⟨[]⟩⟩
noncomputable def ob493 (P : Params) : Obj := ⟨(.type PySem.W.SL.s7174869446012820540x8), none, (.func ⟨z198, z198, fArgs d32, .stmts (fBody d32), fScope d32, (nat_lit 3), [], .none, .none, .none, (.str z268 (nat_lit 748)), none, (.ref (nat_lit 492)), .none, (nat_lit 0)⟩), ⟨[]⟩⟩
noncomputable def ob494 (P : Params) : Obj := ⟨(.type PySem.W.SL.s2766695959194262286x5), none, (.seq ⟨[.none]⟩ 0), ⟨[]⟩⟩
noncomputable def ob498 (P : Params) : Obj := ⟨(.type PySem.W.SL.s5856160107412720595x4), none, (.fields ⟨[(.str z199 (nat_lit 866)), (.str z199 (nat_lit 867)), (.str z167 (nat_lit 868)), (.int (.ofNat (nat_lit 213)) (nat_lit 0)), (.int (.ofNat (nat_lit 3)) (nat_lit 0)), (.int (.ofNat (nat_lit 0)) (nat_lit 0)), (.int (.ofNat (nat_lit 0)) (nat_lit 0)), (.int (.ofNat (nat_lit 3)) (nat_lit 0)), (.ref (nat_lit 495)), (.bool true), (.int (.ofNat (nat_lit 181)) (nat_lit 0)), (.ref (nat_lit 496)), .none, .none, .none, (.ref (nat_lit 497)), (.int (.ofNat (nat_lit 869)) (nat_lit 0)), (.int (.ofNat (nat_lit 213)) (nat_lit 0)), (.str z167 (nat_lit 870))]⟩), ⟨[]⟩⟩
noncomputable def ob499 (P : Params) : Obj := ⟨(.type PySem.W.SL.s7174869446012820540x8), none, (.func ⟨z199, z199, fArgs d33, .stmts (fBody d33), fScope d33, (nat_lit 3), [], (.ref (nat_lit 494)), .none, .none, (.str z268 (nat_lit 748)), none, (.ref (nat_lit 498)), .none, (nat_lit 0)⟩), ⟨[]⟩⟩
noncomputable def ob505 (P : Params) : Obj := ⟨(.type PySem.W.SL.s5856160107412720595x4), none, (.fields ⟨[(.str z200 (nat_lit 874)), (.str z200 (nat_lit 875)), (.str z167 (nat_lit 876)), (.int (.ofNat (nat_lit 223)) (nat_lit 0)), (.int (.ofNat (nat_lit 2)) (nat_lit 0)), (.int (.ofNat (nat_lit 0)) (nat_lit 0)), (.int (.ofNat (nat_lit 0)) (nat_lit 0)), (.int (.ofNat (nat_lit 3)) (nat_lit 0)), (.ref (nat_lit 500)), (.bool true), (.int (.ofNat (nat_lit 181)) (nat_lit 0)), (.ref (nat_lit 501)), .none, (.ref (nat_lit 502)), (.ref (nat_lit 503)), (.ref (nat_lit 504)), (.int (.ofNat (nat_lit 879)) (nat_lit 0)), (.int (.ofNat (nat_lit 223)) (nat_lit 0)), (.str z167 (nat_lit 880))]⟩), ⟨[]⟩⟩
noncomputable def ob506 (P : Params) : Obj := ⟨(.type PySem.W.SL.s7174869446012820540x8), none, (.func ⟨z200, z200, fArgs d35, .stmts (fBody d35), fScope d35, (nat_lit 3), [], .none, .none, .none, (.str z281 (nat_lit 872)), none, (.ref (nat_lit 505)), .none, (nat_lit 0)⟩), ⟨[]⟩⟩
noncomputable def ob519 (P : Params) : Obj := ⟨(.type PySem.W.SL.s5856160107412720595x4), none, (.fields ⟨[(.str z202 (nat_lit 890)), (.str z202 (nat_lit 891)), (.str z167 (nat_lit 892)), (.int (.ofNat (nat_lit 232)) (nat_lit 0)), (.int (.ofNat (nat_lit 1)) (nat_lit 0)), (.int (.ofNat (nat_lit 0)) (nat_lit 0)), (.int (.ofNat (nat_lit 0)) (nat_lit 0)), (.int (.ofNat (nat_lit 3)) (nat_lit 0)), (.ref (nat_lit 514)), (.bool true), (.int (.ofNat (nat_lit 181)) (nat_lit 0)), (.ref (nat_lit 515)), .none, (.ref (nat_lit 516)), (.ref (nat_lit 517)), (.ref (nat_lit 518)), (.int (.ofNat (nat_lit 895)) (nat_lit 0)), (.int (.ofNat (nat_lit 232)) (nat_lit 0)), (.str z167 (nat_lit 896))]⟩), ⟨[]⟩⟩
noncomputable def ob520 (P : Params) : Obj := ⟨(.type PySem.W.SL.s7174869446012820540x8), none, (.func ⟨z202, z202, fArgs d37, .stmts (fBody d37), fScope d37, (nat_lit 3), [], .none, .none, .none, (.str z281 (nat_lit 872)), none, (.ref (nat_lit 519)), .none, (nat_lit 0)⟩), ⟨[]⟩⟩
noncomputable def ob561 (P : Params) : Obj := ⟨(.type PySem.W.SL.s5856160107412720595x4), none, (.fields ⟨[(.str z251 (nat_lit 945)), (.str z282 (nat_lit 946)), (.str z167 (nat_lit 947)), (.int (.ofNat (nat_lit 267)) (nat_lit 0)), (.int (.ofNat (nat_lit 7)) (nat_lit 0)), (.int (.ofNat (nat_lit 0)) (nat_lit 0)), (.int (.ofNat (nat_lit 0)) (nat_lit 0)), (.int (.ofNat (nat_lit 3)) (nat_lit 0)), (.ref (nat_lit 556)), (.bool true), (.int (.ofNat (nat_lit 181)) (nat_lit 0)), (.ref (nat_lit 557)), .none, (.ref (nat_lit 558)), (.ref (nat_lit 559)), (.ref (nat_lit 560)), (.int (.ofNat (nat_lit 955)) (nat_lit 0)), (.int (.ofNat (nat_lit 267)) (nat_lit 0)), (.str z167 (nat_lit 956))]⟩), ⟨[]⟩⟩
noncomputable def ob562 (P : Params) : Obj := ⟨(.type PySem.W.SL.s7174869446012820540x8), none, (.func ⟨z251, z282, fArgs d43x0, .stmts (fBody d43x0), fScope d43x0, (nat_lit 3), [], .none, .none, .none, (.str z283 (nat_lit 931)), none, (.ref (nat_lit 561)), .none, (nat_lit 0)⟩), ⟨[]⟩⟩
noncomputable def ob564 (P : Params) : Obj := ⟨(.type PySem.W.SL.s14018661285674007319x4), none, (.dict ⟨[⟨(PyData.keyHash P z246), (.str z246 (nat_lit 940)), (.str z283 (nat_lit 931))⟩, ⟨(PyData.keyHash P z248), (.str z248 (nat_lit 944)), (.int (.ofNat (nat_lit 265)) (nat_lit 943))⟩, ⟨(PyData.keyHash P z251), (.str z251 (nat_lit 957)), (.ref (nat_lit 562))⟩, ⟨(PyData.keyHash P z249), (.str z249 (nat_lit 964)), (.ref (nat_lit 563))⟩, ⟨(PyData.keyHash P z257), (.str z257 (nat_lit 966)), (.ref (nat_lit 566))⟩, ⟨(PyData.keyHash P z250), (.str z250 (nat_lit 968)), (.ref (nat_lit 567))⟩, ⟨(PyData.keyHash P z2), (.str z2 (nat_lit 969)), .none⟩]⟩ 4), ⟨[]⟩⟩
noncomputable def ob565 (P : Params) : Obj := ⟨(.type PySem.W.SL.s17162191345867700912x4), none, (.cls ⟨z207, [(.type PySem.W.SL.s2742458400755230247x6)], [(.ref (nat_lit 565)), (.type PySem.W.SL.s2742458400755230247x6)], (nat_lit 564), z207, true, [], [], false, none, false⟩), ⟨[none, none, (some (.str z207 (nat_lit 933))), (some (.str z207 (nat_lit 941))), (some (.builtin PySem.W.SL.s11443829558043349243x14)), (some (.bool true))]⟩⟩
noncomputable def ob573 (P : Params) : Obj := ⟨(.type PySem.W.SL.s5856160107412720595x4), none, (.fields ⟨[(.str z208 (nat_lit 972)), (.str z208 (nat_lit 973)), (.str z167 (nat_lit 974)), (.int (.ofNat (nat_lit 274)) (nat_lit 0)), (.int (.ofNat (nat_lit 1)) (nat_lit 0)), (.int (.ofNat (nat_lit 0)) (nat_lit 0)), (.int (.ofNat (nat_lit 0)) (nat_lit 0)), (.int (.ofNat (nat_lit 3)) (nat_lit 0)), (.ref (nat_lit 570)), (.bool true), (.int (.ofNat (nat_lit 181)) (nat_lit 0)), (.ref (nat_lit 571)), .none, .none, .none, (.ref (nat_lit 572)), (.int (.ofNat (nat_lit 975)) (nat_lit 0)), (.int (.ofNat (nat_lit 274)) (nat_lit 0)), (.str z167 (nat_lit 976))]⟩), ⟨[]⟩⟩
noncomputable def ob574 (P : Params) : Obj := ⟨(.type PySem.W.SL.s7174869446012820540x8), none, (.func ⟨z208, z208, fArgs d44, .stmts (fBody d44), fScope d44, (nat_lit 3), [], .none, .none, .none, (.str z283 (nat_lit 931)), none, (.ref (nat_lit 573)), .none, (nat_lit 0)⟩), ⟨[]⟩⟩
noncomputable def ob580 (P : Params) : Obj := ⟨(.type PySem.W.SL.s5856160107412720595x4), none, (.fields ⟨[(.str z209 (nat_lit 978)), (.str z209 (nat_lit 979)), (.str z167 (nat_lit 980)), (.int (.ofNat (nat_lit 278)) (nat_lit 0)), (.int (.ofNat (nat_lit 3)) (nat_lit 0)), (.int (.ofNat (nat_lit 0)) (nat_lit 0)), (.int (.ofNat (nat_lit 0)) (nat_lit 0)), (.int (.ofNat (nat_lit 3)) (nat_lit 0)), (.ref (nat_lit 575)), (.bool true), (.int (.ofNat (nat_lit 181)) (nat_lit 0)), (.ref (nat_lit 576)), .none, (.ref (nat_lit 577)), (.ref (nat_lit 578)), (.ref (nat_lit 579)), (.int (.ofNat (nat_lit 985)) (nat_lit 0)), (.int (.ofNat (nat_lit 278)) (nat_lit 0)), (.str z167 (nat_lit 986))]⟩), ⟨[]⟩⟩
noncomputable def ob581 (P : Params) : Obj := ⟨(.type PySem.W.SL.s7174869446012820540x8), none, (.func ⟨z209, z209, fArgs d45, .stmts (fBody d45), fScope d45, (nat_lit 3), [], .none, .none, .none, (.str z283 (nat_lit 931)), none, (.ref (nat_lit 580)), .none, (nat_lit 0)⟩), ⟨[]⟩⟩
noncomputable def ob587 (P : Params) : Obj := ⟨(.type PySem.W.SL.s5856160107412720595x4), none, (.fields ⟨[(.str z210 (nat_lit 988)), (.str z210 (nat_lit 989)), (.str z167 (nat_lit 990)), (.int (.ofNat (nat_lit 288)) (nat_lit 0)), (.int (.ofNat (nat_lit 4)) (nat_lit 0)), (.int (.ofNat (nat_lit 0)) (nat_lit 0)), (.int (.ofNat (nat_lit 0)) (nat_lit 0)), (.int (.ofNat (nat_lit 3)) (nat_lit 0)), (.ref (nat_lit 582)), (.bool true), (.int (.ofNat (nat_lit 181)) (nat_lit 0)), (.ref (nat_lit 583)), .none, (.ref (nat_lit 584)), (.ref (nat_lit 585)), (.ref (nat_lit 586)), (.int (.ofNat (nat_lit 995)) (nat_lit 0)), (.int (.ofNat (nat_lit 288)) (nat_lit 0)), (.str z167 (nat_lit 996))]⟩), ⟨[]⟩⟩
noncomputable def ob588 (P : Params) : Obj := ⟨(.type PySem.W.SL.s7174869446012820540x8), none, (.func ⟨z210, z210, fArgs d46, .stmts (fBody d46), fScope d46, (nat_lit 3), [], .none, .none, .none, (.str z283 (nat_lit 931)), none, (.ref (nat_lit 587)), .none, (nat_lit 0)⟩), ⟨[]⟩⟩
noncomputable def ob594 (P : Params) : Obj := ⟨(.type PySem.W.SL.s5856160107412720595x4), none, (.fields ⟨[(.str z211 (nat_lit 998)), (.str z211 (nat_lit 999)), (.str z167 (nat_lit 1000)), (.int (.ofNat (nat_lit 290)) (nat_lit 0)), (.int (.ofNat (nat_lit 5)) (nat_lit 0)), (.int (.ofNat (nat_lit 0)) (nat_lit 0)), (.int (.ofNat (nat_lit 0)) (nat_lit 0)), (.int (.ofNat (nat_lit 3)) (nat_lit 0)), (.ref (nat_lit 589)), (.bool true), (.int (.ofNat (nat_lit 181)) (nat_lit 0)), (.ref (nat_lit 590)), .none, (.ref (nat_lit 591)), (.ref (nat_lit 592)), (.ref (nat_lit 593)), (.int (.ofNat (nat_lit 1010)) (nat_lit 0)), (.int (.ofNat (nat_lit 290)) (nat_lit 0)), (.str z167 (nat_lit 1011))]⟩), ⟨[]⟩⟩
noncomputable def ob595 (P : Params) : Obj := ⟨(.type PySem.W.SL.s7174869446012820540x8), none, (.func ⟨z211, z211, fArgs d47, .stmts (fBody d47), fScope d47, (nat_lit 3), [], .none, .none, .none, (.str z283 (nat_lit 931)), none, (.ref (nat_lit 594)), .none, (nat_lit 0)⟩), ⟨[]⟩⟩
noncomputable def ob608 (P : Params) : Obj := ⟨(.type PySem.W.SL.s5856160107412720595x4), none, (.fields ⟨[(.str z213 (nat_lit 1024)), (.str z213 (nat_lit 1025)), (.str z167 (nat_lit 1026)), (.int (.ofNat (nat_lit 306)) (nat_lit 0)), (.int (.ofNat (nat_lit 2)) (nat_lit 0)), (.int (.ofNat (nat_lit 0)) (nat_lit 0)), (.int (.ofNat (nat_lit 0)) (nat_lit 0)), (.int (.ofNat (nat_lit 3)) (nat_lit 0)), (.ref (nat_lit 603)), (.bool true), (.int (.ofNat (nat_lit 181)) (nat_lit 0)), (.ref (nat_lit 604)), .none, (.ref (nat_lit 605)), (.ref (nat_lit 606)), (.ref (nat_lit 607)), (.int (.ofNat (nat_lit 1029)) (nat_lit 0)), (.int (.ofNat (nat_lit 306)) (nat_lit 0)), (.str z167 (nat_lit 1030))]⟩), ⟨[]⟩⟩
noncomputable def ob609 (P : Params) : Obj := ⟨(.type PySem.W.SL.s7174869446012820540x8), none, (.func ⟨z213, z213, fArgs d49, .stmts (fBody d49), fScope d49, (nat_lit 3), [], .none, .none, .none, (.str z283 (nat_lit 931)), none, (.ref (nat_lit 608)), .none, (nat_lit 0)⟩), ⟨[]⟩⟩
noncomputable def ob627 (P : Params) : Obj := ⟨(.type PySem.W.SL.s5856160107412720595x4), none, (.fields ⟨[(.str z216 (nat_lit 1053)), (.str z216 (nat_lit 1054)), (.str z167 (nat_lit 1055)), (.int (.ofNat (nat_lit 327)) (nat_lit 0)), (.int (.ofNat (nat_lit 5)) (nat_lit 0)), (.int (.ofNat (nat_lit 0)) (nat_lit 0)), (.int (.ofNat (nat_lit 0)) (nat_lit 0)), (.int (.ofNat (nat_lit 3)) (nat_lit 0)), (.ref (nat_lit 624)), (.bool true), (.int (.ofNat (nat_lit 181)) (nat_lit 0)), (.ref (nat_lit 625)), .none, .none, .none, (.ref (nat_lit 626)), (.int (.ofNat (nat_lit 1056)) (nat_lit 0)), (.int (.ofNat (nat_lit 327)) (nat_lit 0)), (.str z167 (nat_lit 1057))]⟩), ⟨[]⟩⟩
noncomputable def ob628 (P : Params) : Obj := ⟨(.type PySem.W.SL.s7174869446012820540x8), none, (.func ⟨z216, z216, fArgs d52, .stmts (fBody d52), fScope d52, (nat_lit 3), [], .none, .none, .none, (.str z283 (nat_lit 931)), none, (.ref (nat_lit 627)), .none, (nat_lit 0)⟩), ⟨[]⟩⟩
noncomputable def ob634 (P : Params) : Obj := ⟨(.type PySem.W.SL.s5856160107412720595x4), none, (.fields ⟨[(.str z217 (nat_lit 1059)), (.str z217 (nat_lit 1060)), (.str z167 (nat_lit 1061)), (.int (.ofNat (nat_lit 343)) (nat_lit 0)), (.int (.ofNat (nat_lit 6)) (nat_lit 0)), (.int (.ofNat (nat_lit 0)) (nat_lit 0)), (.int (.ofNat (nat_lit 0)) (nat_lit 0)), (.int (.ofNat (nat_lit 3)) (nat_lit 0)), (.ref (nat_lit 629)), (.bool true), (.int (.ofNat (nat_lit 181)) (nat_lit 0)), (.ref (nat_lit 630)), .none, (.ref (nat_lit 631)), (.ref (nat_lit 632)), (.ref (nat_lit 633)), (.int (.ofNat (nat_lit 1068)) (nat_lit 0)), (.int (.ofNat (nat_lit 343)) (nat_lit 0)), (.str z167 (nat_lit 1069))]⟩), ⟨[]⟩⟩
noncomputable def ob635 (P : Params) : Obj := ⟨(.type PySem.W.SL.s7174869446012820540x8), none, (.func ⟨z217, z217, fArgs d53, .stmts (fBody d53), fScope d53, (nat_lit 3), [], .none, .none, .none, (.str z283 (nat_lit 931)), none, (.ref (nat_lit 634)), .none, (nat_lit 0)⟩), ⟨[]⟩⟩
noncomputable def ob648 (P : Params) : Obj := ⟨(.type PySem.W.SL.s5856160107412720595x4), none, (.fields ⟨[(.str z219 (nat_lit 1081)), (.str z219 (nat_lit 1082)), (.str z167 (nat_lit 1083)), (.int (.ofNat (nat_lit 353)) (nat_lit 0)), (.int (.ofNat (nat_lit 2)) (nat_lit 0)), (.int (.ofNat (nat_lit 0)) (nat_lit 0)), (.int (.ofNat (nat_lit 0)) (nat_lit 0)), (.int (.ofNat (nat_lit 3)) (nat_lit 0)), (.ref (nat_lit 643)), (.bool true), (.int (.ofNat (nat_lit 181)) (nat_lit 0)), (.ref (nat_lit 644)), .none, (.ref (nat_lit 645)), (.ref (nat_lit 646)), (.ref (nat_lit 647)), (.int (.ofNat (nat_lit 1087)) (nat_lit 0)), (.int (.ofNat (nat_lit 353)) (nat_lit 0)), (.str z167 (nat_lit 1088))]⟩), ⟨[]⟩⟩
noncomputable def ob649 (P : Params) : Obj := ⟨(.type PySem.W.SL.s7174869446012820540x8), none, (.func ⟨z219, z219, fArgs d56, .stmts (fBody d56), fScope d56, (nat_lit 3), [], .none, .none, .none, (.str z284 (nat_lit 1071)), none, (.ref (nat_lit 648)), .none, (nat_lit 0)⟩), ⟨[]⟩⟩
noncomputable def ob655 (P : Params) : Obj := ⟨(.type PySem.W.SL.s5856160107412720595x4), none, (.fields ⟨[(.str z220 (nat_lit 1092)), (.str z220 (nat_lit 1093)), (.str z167 (nat_lit 1094)), (.int (.ofNat (nat_lit 361)) (nat_lit 0)), (.int (.ofNat (nat_lit 2)) (nat_lit 0)), (.int (.ofNat (nat_lit 0)) (nat_lit 0)), (.int (.ofNat (nat_lit 0)) (nat_lit 0)), (.int (.ofNat (nat_lit 3)) (nat_lit 0)), (.ref (nat_lit 650)), (.bool true), (.int (.ofNat (nat_lit 181)) (nat_lit 0)), (.ref (nat_lit 651)), .none, (.ref (nat_lit 652)), (.ref (nat_lit 653)), (.ref (nat_lit 654)), (.int (.ofNat (nat_lit 1098)) (nat_lit 0)), (.int (.ofNat (nat_lit 361)) (nat_lit 0)), (.str z167 (nat_lit 1099))]⟩), ⟨[]⟩⟩
noncomputable def ob656 (P : Params) : Obj := ⟨(.type PySem.W.SL.s7174869446012820540x8), none, (.func ⟨z220, z220, fArgs d58, .stmts (fBody d58), fScope d58, (nat_lit 3), [], .none, .none, .none, (.str z285 (nat_lit 1090)), none, (.ref (nat_lit 655)), .none, (nat_lit 0)⟩), ⟨[]⟩⟩
noncomputable def ob662 (P : Params) : Obj := ⟨(.type PySem.W.SL.s5856160107412720595x4), none, (.fields ⟨[(.str z221 (nat_lit 1101)), (.str z221 (nat_lit 1102)), (.str z167 (nat_lit 1103)), (.int (.ofNat (nat_lit 366)) (nat_lit 0)), (.int (.ofNat (nat_lit 1)) (nat_lit 0)), (.int (.ofNat (nat_lit 0)) (nat_lit 0)), (.int (.ofNat (nat_lit 0)) (nat_lit 0)), (.int (.ofNat (nat_lit 3)) (nat_lit 0)), (.ref (nat_lit 657)), (.bool true), (.int (.ofNat (nat_lit 181)) (nat_lit 0)), (.ref (nat_lit 658)), .none, (.ref (nat_lit 659)), (.ref (nat_lit 660)), (.ref (nat_lit 661)), (.int (.ofNat (nat_lit 1105)) (nat_lit 0)), (.int (.ofNat (nat_lit 366)) (nat_lit 0)), (.str z167 (nat_lit 1106))]⟩), ⟨[]⟩⟩
noncomputable def ob663 (P : Params) : Obj := ⟨(.type PySem.W.SL.s7174869446012820540x8), none, (.func ⟨z221, z221, fArgs d59, .stmts (fBody d59), fScope d59, (nat_lit 3), [], .none, .none, .none, (.str z285 (nat_lit 1090)), none, (.ref (nat_lit 662)), .none, (nat_lit 0)⟩), ⟨[]⟩⟩
noncomputable def ob678 (P : Params) : Obj := ⟨(.type PySem.W.SL.s2766695959194262286x5), none, (.seq ⟨[.none]⟩ 0), ⟨[]⟩⟩
noncomputable def ob682 (P : Params) : Obj := ⟨(.type PySem.W.SL.s5856160107412720595x4), none, (.fields ⟨[(.str z224 (nat_lit 1126)), (.str z224 (nat_lit 1127)), (.str z167 (nat_lit 1128)), (.int (.ofNat (nat_lit 381)) (nat_lit 0)), (.int (.ofNat (nat_lit 4)) (nat_lit 0)), (.int (.ofNat (nat_lit 0)) (nat_lit 0)), (.int (.ofNat (nat_lit 0)) (nat_lit 0)), (.int (.ofNat (nat_lit 3)) (nat_lit 0)), (.ref (nat_lit 679)), (.bool true), (.int (.ofNat (nat_lit 181)) (nat_lit 0)), (.ref (nat_lit 680)), .none, .none, .none, (.ref (nat_lit 681)), (.int (.ofNat (nat_lit 1129)) (nat_lit 0)), (.int (.ofNat (nat_lit 381)) (nat_lit 0)), (.str z167 (nat_lit 1130))]⟩), ⟨[]⟩⟩
noncomputable def ob683 (P : Params) : Obj := ⟨(.type PySem.W.SL.s7174869446012820540x8), none, (.func ⟨z224, z224, fArgs d62, .stmts (fBody d62), fScope d62, (nat_lit 3), [], (.ref (nat_lit 678)), .none, .none, (.str z285 (nat_lit 1090)), none, (.ref (nat_lit 682)), .none, (nat_lit 0)⟩), ⟨[]⟩⟩
noncomputable def ob696 (P : Params) : Obj := ⟨(.type PySem.W.SL.s5856160107412720595x4), none, (.fields ⟨[(.str z226 (nat_lit 1140)), (.str z226 (nat_lit 1141)), (.str z167 (nat_lit 1142)), (.int (.ofNat (nat_lit 399)) (nat_lit 0)), (.int (.ofNat (nat_lit 1)) (nat_lit 0)), (.int (.ofNat (nat_lit 0)) (nat_lit 0)), (.int (.ofNat (nat_lit 0)) (nat_lit 0)), (.int (.ofNat (nat_lit 3)) (nat_lit 0)), (.ref (nat_lit 691)), (.bool true), (.int (.ofNat (nat_lit 181)) (nat_lit 0)), (.ref (nat_lit 692)), .none, (.ref (nat_lit 693)), (.ref (nat_lit 694)), (.ref (nat_lit 695)), (.int (.ofNat (nat_lit 1145)) (nat_lit 0)), (.int (.ofNat (nat_lit 399)) (nat_lit 0)), (.str z167 (nat_lit 1146))]⟩), ⟨[]⟩⟩
noncomputable def ob697 (P : Params) : Obj := ⟨(.type PySem.W.SL.s7174869446012820540x8), none, (.func ⟨z226, z226, fArgs d64, .stmts (fBody d64), fScope d64, (nat_lit 3), [], .none, .none, .none, (.str z285 (nat_lit 1090)), none, (.ref (nat_lit 696)), .none, (nat_lit 0)⟩), ⟨[]⟩⟩
noncomputable def ob710 (P : Params) : Obj := ⟨(.type PySem.W.SL.s5856160107412720595x4), none, (.fields ⟨[(.str z228 (nat_lit 1159)), (.str z228 (nat_lit 1160)), (.str z167 (nat_lit 1161)), (.int (.ofNat (nat_lit 415)) (nat_lit 0)), (.int (.ofNat (nat_lit 2)) (nat_lit 0)), (.int (.ofNat (nat_lit 0)) (nat_lit 0)), (.int (.ofNat (nat_lit 0)) (nat_lit 0)), (.int (.ofNat (nat_lit 3)) (nat_lit 0)), (.ref (nat_lit 705)), (.bool true), (.int (.ofNat (nat_lit 181)) (nat_lit 0)), (.ref (nat_lit 706)), .none, (.ref (nat_lit 707)), (.ref (nat_lit 708)), (.ref (nat_lit 709)), (.int (.ofNat (nat_lit 1165)) (nat_lit 0)), (.int (.ofNat (nat_lit 415)) (nat_lit 0)), (.str z167 (nat_lit 1166))]⟩), ⟨[]⟩⟩
noncomputable def ob711 (P : Params) : Obj := ⟨(.type PySem.W.SL.s7174869446012820540x8), none, (.func ⟨z228, z228, fArgs d66, .stmts (fBody d66), fScope d66, (nat_lit 3), [], .none, .none, .none, (.str z285 (nat_lit 1090)), none, (.ref (nat_lit 710)), .none, (nat_lit 0)⟩), ⟨[]⟩⟩
noncomputable def ob731 (P : Params) : Obj := ⟨(.type PySem.W.SL.s5856160107412720595x4), none, (.fields ⟨[(.str z231 (nat_lit 1188)), (.str z231 (nat_lit 1189)), (.str z167 (nat_lit 1190)), (.int (.ofNat (nat_lit 435)) (nat_lit 0)), (.int (.ofNat (nat_lit 1)) (nat_lit 0)), (.int (.ofNat (nat_lit 0)) (nat_lit 0)), (.int (.ofNat (nat_lit 0)) (nat_lit 0)), (.int (.ofNat (nat_lit 3)) (nat_lit 0)), (.ref (nat_lit 726)), (.bool true), (.int (.ofNat (nat_lit 181)) (nat_lit 0)), (.ref (nat_lit 727)), .none, (.ref (nat_lit 728)), (.ref (nat_lit 729)), (.ref (nat_lit 730)), (.int (.ofNat (nat_lit 1192)) (nat_lit 0)), (.int (.ofNat (nat_lit 435)) (nat_lit 0)), (.str z167 (nat_lit 1193))]⟩), ⟨[]⟩⟩
noncomputable def ob732 (P : Params) : Obj := ⟨(.type PySem.W.SL.s7174869446012820540x8), none, (.func ⟨z231, z231, fArgs d70, .stmts (fBody d70), fScope d70, (nat_lit 3), [], .none, .none, .none, (.str z286 (nat_lit 1186)), none, (.ref (nat_lit 731)), .none, (nat_lit 0)⟩), ⟨[]⟩⟩
noncomputable def ob738 (P : Params) : Obj := ⟨(.type PySem.W.SL.s5856160107412720595x4), none, (.fields ⟨[(.str z232 (nat_lit 1195)), (.str z232 (nat_lit 1196)), (.str z167 (nat_lit 1197)), (.int (.ofNat (nat_lit 437)) (nat_lit 0)), (.int (.ofNat (nat_lit 2)) (nat_lit 0)), (.int (.ofNat (nat_lit 0)) (nat_lit 0)), (.int (.ofNat (nat_lit 0)) (nat_lit 0)), (.int (.ofNat (nat_lit 3)) (nat_lit 0)), (.ref (nat_lit 733)), (.bool true), (.int (.ofNat (nat_lit 181)) (nat_lit 0)), (.ref (nat_lit 734)), .none, (.ref (nat_lit 735)), (.ref (nat_lit 736)), (.ref (nat_lit 737)), (.int (.ofNat (nat_lit 1206)) (nat_lit 0)), (.int (.ofNat (nat_lit 437)) (nat_lit 0)), (.str z167 (nat_lit 1207))]⟩), ⟨[]⟩⟩
noncomputable def ob739 (P : Params) : Obj := ⟨(.type PySem.W.SL.s7174869446012820540x8), none, (.func ⟨z232, z232, fArgs d71, .stmts (fBody d71), fScope d71, (nat_lit 3), [], .none, .none, .none, (.str z286 (nat_lit 1186)), none, (.ref (nat_lit 738)), .none, (nat_lit 0)⟩), ⟨[]⟩⟩
noncomputable def ob745 (P : Params) : Obj := ⟨(.type PySem.W.SL.s5856160107412720595x4), none, (.fields ⟨[(.str z233 (nat_lit 1209)), (.str z233 (nat_lit 1210)), (.str z167 (nat_lit 1211)), (.int (.ofNat (nat_lit 459)) (nat_lit 0)), (.int (.ofNat (nat_lit 2)) (nat_lit 0)), (.int (.ofNat (nat_lit 0)) (nat_lit 0)), (.int (.ofNat (nat_lit 0)) (nat_lit 0)), (.int (.ofNat (nat_lit 3)) (nat_lit 0)), (.ref (nat_lit 740)), (.bool true), (.int (.ofNat (nat_lit 181)) (nat_lit 0)), (.ref (nat_lit 741)), .none, (.ref (nat_lit 742)), (.ref (nat_lit 743)), (.ref (nat_lit 744)), (.int (.ofNat (nat_lit 1214)) (nat_lit 0)), (.int (.ofNat (nat_lit 459)) (nat_lit 0)), (.str z167 (nat_lit 1215))]⟩), ⟨[]⟩⟩
noncomputable def ob746 (P : Params) : Obj := ⟨(.type PySem.W.SL.s7174869446012820540x8), none, (.func ⟨z233, z233, fArgs d72, .stmts (fBody d72), fScope d72, (nat_lit 3), [], .none, .none, .none, (.str z286 (nat_lit 1186)), none, (.ref (nat_lit 745)), .none, (nat_lit 0)⟩), ⟨[]⟩⟩
noncomputable def ob771 (P : Params) : Obj := ⟨(.type PySem.W.SL.s5856160107412720595x4), none, (.fields ⟨[(.str z237 (nat_lit 1242)), (.str z237 (nat_lit 1243)), (.str z167 (nat_lit 1244)), (.int (.ofNat (nat_lit 479)) (nat_lit 0)), (.int (.ofNat (nat_lit 4)) (nat_lit 0)), (.int (.ofNat (nat_lit 0)) (nat_lit 0)), (.int (.ofNat (nat_lit 0)) (nat_lit 0)), (.int (.ofNat (nat_lit 3)) (nat_lit 0)), (.ref (nat_lit 766)), (.bool true), (.int (.ofNat (nat_lit 181)) (nat_lit 0)), (.ref (nat_lit 767)), .none, (.ref (nat_lit 768)), (.ref (nat_lit 769)), (.ref (nat_lit 770)), (.int (.ofNat (nat_lit 1257)) (nat_lit 0)), (.int (.ofNat (nat_lit 479)) (nat_lit 0)), (.str z167 (nat_lit 1258))]⟩), ⟨[]⟩⟩
noncomputable def ob772 (P : Params) : Obj := ⟨(.type PySem.W.SL.s7174869446012820540x8), none, (.func ⟨z237, z237, fArgs d76, .stmts (fBody d76), fScope d76, (nat_lit 3), [], .none, .none, .none, (.str z286 (nat_lit 1186)), none, (.ref (nat_lit 771)), .none, (nat_lit 0)⟩), ⟨[]⟩⟩
noncomputable def ob776 (P : Params) : Obj := ⟨(.type PySem.W.SL.s5856160107412720595x4), none, (.fields ⟨[(.str z238 (nat_lit 1260)), (.str z238 (nat_lit 1261)), (.str z167 (nat_lit 1262)), (.int (.ofNat (nat_lit 496)) (nat_lit 0)), (.int (.ofNat (nat_lit 3)) (nat_lit 0)), (.int (.ofNat (nat_lit 0)) (nat_lit 0)), (.int (.ofNat (nat_lit 0)) (nat_lit 0)), (.int (.ofNat (nat_lit 3)) (nat_lit 0)), (.ref (nat_lit 773)), (.bool true), (.int (.ofNat (nat_lit 181)) (nat_lit 0)), (.ref (nat_lit 774)), .none, .none, .none, (.ref (nat_lit 775)), (.int (.ofNat (nat_lit 1263)) (nat_lit 0)), (.int (.ofNat (nat_lit 496)) (nat_lit 0)), (.str z167 (nat_lit 1264))]⟩), ⟨[]⟩⟩
noncomputable def ob777 (P : Params) : Obj := ⟨(.type PySem.W.SL.s7174869446012820540x8), none, (.func ⟨z238, z238, fArgs d77, .stmts (fBody d77), fScope d77, (nat_lit 3), [], .none, .none, .none, (.str z286 (nat_lit 1186)), none, (.ref (nat_lit 776)), .none, (nat_lit 0)⟩), ⟨[]⟩⟩
noncomputable def ob790 (P : Params) : Obj := ⟨(.type PySem.W.SL.s5856160107412720595x4), none, (.fields ⟨[(.str z251 (nat_lit 1280)), (.str z287 (nat_lit 1281)), (.str z167 (nat_lit 1282)), (.int (.ofNat (nat_lit 514)) (nat_lit 0)), (.int (.ofNat (nat_lit 6)) (nat_lit 0)), (.int (.ofNat (nat_lit 0)) (nat_lit 0)), (.int (.ofNat (nat_lit 0)) (nat_lit 0)), (.int (.ofNat (nat_lit 3)) (nat_lit 0)), (.ref (nat_lit 785)), (.bool true), (.int (.ofNat (nat_lit 181)) (nat_lit 0)), (.ref (nat_lit 786)), .none, (.ref (nat_lit 787)), (.ref (nat_lit 788)), (.ref (nat_lit 789)), (.int (.ofNat (nat_lit 1289)) (nat_lit 0)), (.int (.ofNat (nat_lit 514)) (nat_lit 0)), (.str z167 (nat_lit 1290))]⟩), ⟨[]⟩⟩
noncomputable def ob791 (P : Params) : Obj := ⟨(.type PySem.W.SL.s7174869446012820540x8), none, (.func ⟨z251, z287, fArgs d79x0, .stmts (fBody d79x0), fScope d79x0, (nat_lit 3), [], .none, .none, .none, (.str z288 (nat_lit 1266)), none, (.ref (nat_lit 790)), .none, (nat_lit 0)⟩), ⟨[]⟩⟩
noncomputable def ob793 (P : Params) : Obj := ⟨(.type PySem.W.SL.s14018661285674007319x4), none, (.dict ⟨[⟨(PyData.keyHash P z246), (.str z246 (nat_lit 1275)), (.str z288 (nat_lit 1266))⟩, ⟨(PyData.keyHash P z248), (.str z248 (nat_lit 1279)), (.int (.ofNat (nat_lit 512)) (nat_lit 1278))⟩, ⟨(PyData.keyHash P z251), (.str z251 (nat_lit 1291)), (.ref (nat_lit 791))⟩, ⟨(PyData.keyHash P z249), (.str z249 (nat_lit 1299)), (.ref (nat_lit 792))⟩, ⟨(PyData.keyHash P z257), (.str z257 (nat_lit 1301)), (.ref (nat_lit 795))⟩, ⟨(PyData.keyHash P z250), (.str z250 (nat_lit 1303)), (.ref (nat_lit 796))⟩, ⟨(PyData.keyHash P z2), (.str z2 (nat_lit 1304)), .none⟩]⟩ 4), ⟨[]⟩⟩
noncomputable def ob794 (P : Params) : Obj := ⟨(.type PySem.W.SL.s17162191345867700912x4), none, (.cls ⟨z239, [(.type PySem.W.SL.s2742458400755230247x6)], [(.ref (nat_lit 794)), (.type PySem.W.SL.s2742458400755230247x6)], (nat_lit 793), z239, true, [], [], false, none, false⟩), ⟨[none, none, (some (.str z239 (nat_lit 1268))), (some (.str z239 (nat_lit 1276))), (some (.builtin PySem.W.SL.s11443829558043349243x14)), (some (.bool true))]⟩⟩
noncomputable def ob806 (P : Params) : Obj := ⟨(.type PySem.W.SL.s2766695959194262286x5), none, (.seq ⟨[(.int (.ofNat (nat_lit 20000)) (nat_lit 1319)), (.int (.ofNat (nat_lit 40)) (nat_lit 1320))]⟩ 0), ⟨[]⟩⟩
noncomputable def ob812 (P : Params) : Obj := ⟨(.type PySem.W.SL.s5856160107412720595x4), none, (.fields ⟨[(.str z251 (nat_lit 1321)), (.str z289 (nat_lit 1322)), (.str z167 (nat_lit 1323)), (.int (.ofNat (nat_lit 524)) (nat_lit 0)), (.int (.ofNat (nat_lit 3)) (nat_lit 0)), (.int (.ofNat (nat_lit 0)) (nat_lit 0)), (.int (.ofNat (nat_lit 0)) (nat_lit 0)), (.int (.ofNat (nat_lit 3)) (nat_lit 0)), (.ref (nat_lit 807)), (.bool true), (.int (.ofNat (nat_lit 181)) (nat_lit 0)), (.ref (nat_lit 808)), .none, (.ref (nat_lit 809)), (.ref (nat_lit 810)), (.ref (nat_lit 811)), (.int (.ofNat (nat_lit 1327)) (nat_lit 0)), (.int (.ofNat (nat_lit 524)) (nat_lit 0)), (.str z167 (nat_lit 1328))]⟩), ⟨[]⟩⟩
noncomputable def ob813 (P : Params) : Obj := ⟨(.type PySem.W.SL.s7174869446012820540x8), none, (.func ⟨z251, z289, fArgs d80x0, .stmts (fBody d80x0), fScope d80x0, (nat_lit 3), [], (.ref (nat_lit 806)), .none, .none, (.str z288 (nat_lit 1266)), none, (.ref (nat_lit 812)), .none, (nat_lit 0)⟩), ⟨[]⟩⟩
noncomputable def ob819 (P : Params) : Obj := ⟨(.type PySem.W.SL.s5856160107412720595x4), none, (.fields ⟨[(.str z290 (nat_lit 1330)), (.str z291 (nat_lit 1331)), (.str z167 (nat_lit 1332)), (.int (.ofNat (nat_lit 545)) (nat_lit 0)), (.int (.ofNat (nat_lit 2)) (nat_lit 0)), (.int (.ofNat (nat_lit 0)) (nat_lit 0)), (.int (.ofNat (nat_lit 0)) (nat_lit 0)), (.int (.ofNat (nat_lit 3)) (nat_lit 0)), (.ref (nat_lit 814)), (.bool true), (.int (.ofNat (nat_lit 181)) (nat_lit 0)), (.ref (nat_lit 815)), .none, (.ref (nat_lit 816)), (.ref (nat_lit 817)), (.ref (nat_lit 818)), (.int (.ofNat (nat_lit 1336)) (nat_lit 0)), (.int (.ofNat (nat_lit 545)) (nat_lit 0)), (.str z167 (nat_lit 1337))]⟩), ⟨[]⟩⟩
noncomputable def ob820 (P : Params) : Obj := ⟨(.type PySem.W.SL.s7174869446012820540x8), none, (.func ⟨z290, z291, fArgs d80x1, .stmts (fBody d80x1), fScope d80x1, (nat_lit 3), [], .none, .none, .none, (.str z288 (nat_lit 1266)), none, (.ref (nat_lit 819)), .none, (nat_lit 0)⟩), ⟨[]⟩⟩
noncomputable def ob821 (P : Params) : Obj := ⟨(.type PySem.W.SL.s2766695959194262286x5), none, (.seq ⟨[(.str z292 (nat_lit 1339))]⟩ 0), ⟨[]⟩⟩
noncomputable def ob827 (P : Params) : Obj := ⟨(.type PySem.W.SL.s5856160107412720595x4), none, (.fields ⟨[(.str z293 (nat_lit 1340)), (.str z294 (nat_lit 1341)), (.str z167 (nat_lit 1342)), (.int (.ofNat (nat_lit 550)) (nat_lit 0)), (.int (.ofNat (nat_lit 5)) (nat_lit 0)), (.int (.ofNat (nat_lit 0)) (nat_lit 0)), (.int (.ofNat (nat_lit 0)) (nat_lit 0)), (.int (.ofNat (nat_lit 3)) (nat_lit 0)), (.ref (nat_lit 822)), (.bool true), (.int (.ofNat (nat_lit 181)) (nat_lit 0)), (.ref (nat_lit 823)), .none, (.ref (nat_lit 824)), (.ref (nat_lit 825)), (.ref (nat_lit 826)), (.int (.ofNat (nat_lit 1348)) (nat_lit 0)), (.int (.ofNat (nat_lit 550)) (nat_lit 0)), (.str z167 (nat_lit 1349))]⟩), ⟨[]⟩⟩
noncomputable def ob828 (P : Params) : Obj := ⟨(.type PySem.W.SL.s7174869446012820540x8), none, (.func ⟨z293, z294, fArgs d80x2, .stmts (fBody d80x2), fScope d80x2, (nat_lit 3), [], (.ref (nat_lit 821)), .none, .none, (.str z288 (nat_lit 1266)), none, (.ref (nat_lit 827)), .none, (nat_lit 0)⟩), ⟨[]⟩⟩
noncomputable def ob834 (P : Params) : Obj := ⟨(.type PySem.W.SL.s5856160107412720595x4), none, (.fields ⟨[(.str z295 (nat_lit 1351)), (.str z296 (nat_lit 1352)), (.str z167 (nat_lit 1353)), (.int (.ofNat (nat_lit 553)) (nat_lit 0)), (.int (.ofNat (nat_lit 1)) (nat_lit 0)), (.int (.ofNat (nat_lit 0)) (nat_lit 0)), (.int (.ofNat (nat_lit 0)) (nat_lit 0)), (.int (.ofNat (nat_lit 3)) (nat_lit 0)), (.ref (nat_lit 829)), (.bool true), (.int (.ofNat (nat_lit 181)) (nat_lit 0)), (.ref (nat_lit 830)), .none, (.ref (nat_lit 831)), (.ref (nat_lit 832)), (.ref (nat_lit 833)), (.int (.ofNat (nat_lit 1355)) (nat_lit 0)), (.int (.ofNat (nat_lit 553)) (nat_lit 0)), (.str z167 (nat_lit 1356))]⟩), ⟨[]⟩⟩
noncomputable def ob835 (P : Params) : Obj := ⟨(.type PySem.W.SL.s7174869446012820540x8), none, (.func ⟨z295, z296, fArgs d80x3, .stmts (fBody d80x3), fScope d80x3, (nat_lit 3), [], .none, .none, .none, (.str z288 (nat_lit 1266)), none, (.ref (nat_lit 834)), .none, (nat_lit 0)⟩), ⟨[]⟩⟩
noncomputable def ob841 (P : Params) : Obj := ⟨(.type PySem.W.SL.s5856160107412720595x4), none, (.fields ⟨[(.str z297 (nat_lit 1358)), (.str z298 (nat_lit 1359)), (.str z167 (nat_lit 1360)), (.int (.ofNat (nat_lit 558)) (nat_lit 0)), (.int (.ofNat (nat_lit 3)) (nat_lit 0)), (.int (.ofNat (nat_lit 0)) (nat_lit 0)), (.int (.ofNat (nat_lit 0)) (nat_lit 0)), (.int (.ofNat (nat_lit 3)) (nat_lit 0)), (.ref (nat_lit 836)), (.bool true), (.int (.ofNat (nat_lit 181)) (nat_lit 0)), (.ref (nat_lit 837)), .none, (.ref (nat_lit 838)), (.ref (nat_lit 839)), (.ref (nat_lit 840)), (.int (.ofNat (nat_lit 1364)) (nat_lit 0)), (.int (.ofNat (nat_lit 558)) (nat_lit 0)), (.str z167 (nat_lit 1365))]⟩), ⟨[]⟩⟩
noncomputable def ob842 (P : Params) : Obj := ⟨(.type PySem.W.SL.s7174869446012820540x8), none, (.func ⟨z297, z298, fArgs d80x4, .stmts (fBody d80x4), fScope d80x4, (nat_lit 3), [], .none, .none, .none, (.str z288 (nat_lit 1266)), none, (.ref (nat_lit 841)), .none, (nat_lit 0)⟩), ⟨[]⟩⟩
noncomputable def ob863 (P : Params) : Obj := ⟨(.type PySem.W.SL.s5856160107412720595x4), none, (.fields ⟨[(.str z20 (nat_lit 1383)), (.str z299 (nat_lit 1384)), (.str z167 (nat_lit 1385)), (.int (.ofNat (nat_lit 571)) (nat_lit 0)), (.int (.ofNat (nat_lit 3)) (nat_lit 0)), (.int (.ofNat (nat_lit 0)) (nat_lit 0)), (.int (.ofNat (nat_lit 0)) (nat_lit 0)), (.int (.ofNat (nat_lit 3)) (nat_lit 0)), (.ref (nat_lit 858)), (.bool true), (.int (.ofNat (nat_lit 181)) (nat_lit 0)), (.ref (nat_lit 859)), .none, (.ref (nat_lit 860)), (.ref (nat_lit 861)), (.ref (nat_lit 862)), (.int (.ofNat (nat_lit 1390)) (nat_lit 0)), (.int (.ofNat (nat_lit 571)) (nat_lit 0)), (.str z167 (nat_lit 1391))]⟩), ⟨[]⟩⟩
noncomputable def ob864 (P : Params) : Obj := ⟨(.type PySem.W.SL.s7174869446012820540x8), none, (.func ⟨z20, z299, fArgs d80x7, .stmts (fBody d80x7), fScope d80x7, (nat_lit 3), [], .none, .none, .none, (.str z288 (nat_lit 1266)), none, (.ref (nat_lit 863)), .none, (nat_lit 0)⟩), ⟨[]⟩⟩
noncomputable def ob870 (P : Params) : Obj := ⟨(.type PySem.W.SL.s5856160107412720595x4), none, (.fields ⟨[(.str z300 (nat_lit 1393)), (.str z301 (nat_lit 1394)), (.str z167 (nat_lit 1395)), (.int (.ofNat (nat_lit 584)) (nat_lit 0)), (.int (.ofNat (nat_lit 3)) (nat_lit 0)), (.int (.ofNat (nat_lit 0)) (nat_lit 0)), (.int (.ofNat (nat_lit 0)) (nat_lit 0)), (.int (.ofNat (nat_lit 3)) (nat_lit 0)), (.ref (nat_lit 865)), (.bool true), (.int (.ofNat (nat_lit 181)) (nat_lit 0)), (.ref (nat_lit 866)), .none, (.ref (nat_lit 867)), (.ref (nat_lit 868)), (.ref (nat_lit 869)), (.int (.ofNat (nat_lit 1401)) (nat_lit 0)), (.int (.ofNat (nat_lit 584)) (nat_lit 0)), (.str z167 (nat_lit 1402))]⟩), ⟨[]⟩⟩
noncomputable def ob871 (P : Params) : Obj := ⟨(.type PySem.W.SL.s7174869446012820540x8), none, (.func ⟨z300, z301, fArgs d80x8, .stmts (fBody d80x8), fScope d80x8, (nat_lit 3), [], .none, .none, .none, (.str z288 (nat_lit 1266)), none, (.ref (nat_lit 870)), .none, (nat_lit 0)⟩), ⟨[]⟩⟩
noncomputable def ob884 (P : Params) : Obj := ⟨(.type PySem.W.SL.s5856160107412720595x4), none, (.fields ⟨[(.str z302 (nat_lit 1414)), (.str z303 (nat_lit 1415)), (.str z167 (nat_lit 1416)), (.int (.ofNat (nat_lit 608)) (nat_lit 0)), (.int (.ofNat (nat_lit 2)) (nat_lit 0)), (.int (.ofNat (nat_lit 0)) (nat_lit 0)), (.int (.ofNat (nat_lit 0)) (nat_lit 0)), (.int (.ofNat (nat_lit 3)) (nat_lit 0)), (.ref (nat_lit 879)), (.bool true), (.int (.ofNat (nat_lit 181)) (nat_lit 0)), (.ref (nat_lit 880)), .none, (.ref (nat_lit 881)), (.ref (nat_lit 882)), (.ref (nat_lit 883)), (.int (.ofNat (nat_lit 1419)) (nat_lit 0)), (.int (.ofNat (nat_lit 608)) (nat_lit 0)), (.str z167 (nat_lit 1420))]⟩), ⟨[]⟩⟩
noncomputable def ob885 (P : Params) : Obj := ⟨(.type PySem.W.SL.s7174869446012820540x8), none, (.func ⟨z302, z303, fArgs d80x10, .stmts (fBody d80x10), fScope d80x10, (nat_lit 3), [], .none, .none, .none, (.str z288 (nat_lit 1266)), none, (.ref (nat_lit 884)), .none, (nat_lit 0)⟩), ⟨[]⟩⟩
noncomputable def ob886 (P : Params) : Obj := ⟨(.type PySem.W.SL.s2766695959194262286x5), none, (.seq ⟨[.none]⟩ 0), ⟨[]⟩⟩
noncomputable def ob892 (P : Params) : Obj := ⟨(.type PySem.W.SL.s5856160107412720595x4), none, (.fields ⟨[(.str z304 (nat_lit 1422)), (.str z305 (nat_lit 1423)), (.str z167 (nat_lit 1424)), (.int (.ofNat (nat_lit 622)) (nat_lit 0)), (.int (.ofNat (nat_lit 4)) (nat_lit 0)), (.int (.ofNat (nat_lit 0)) (nat_lit 0)), (.int (.ofNat (nat_lit 0)) (nat_lit 0)), (.int (.ofNat (nat_lit 3)) (nat_lit 0)), (.ref (nat_lit 887)), (.bool true), (.int (.ofNat (nat_lit 181)) (nat_lit 0)), (.ref (nat_lit 888)), .none, (.ref (nat_lit 889)), (.ref (nat_lit 890)), (.ref (nat_lit 891)), (.int (.ofNat (nat_lit 1430)) (nat_lit 0)), (.int (.ofNat (nat_lit 622)) (nat_lit 0)), (.str z167 (nat_lit 1431))]⟩), ⟨[]⟩⟩
noncomputable def ob893 (P : Params) : Obj := ⟨(.type PySem.W.SL.s7174869446012820540x8), none, (.func ⟨z304, z305, fArgs d80x11, .stmts (fBody d80x11), fScope d80x11, (nat_lit 3), [], (.ref (nat_lit 886)), .none, .none, (.str z288 (nat_lit 1266)), none, (.ref (nat_lit 892)), .none, (nat_lit 0)⟩), ⟨[]⟩⟩
noncomputable def ob899 (P : Params) : Obj := ⟨(.type PySem.W.SL.s5856160107412720595x4), none, (.fields ⟨[(.str z306 (nat_lit 1433)), (.str z307 (nat_lit 1434)), (.str z167 (nat_lit 1435)), (.int (.ofNat (nat_lit 635)) (nat_lit 0)), (.int (.ofNat (nat_lit 3)) (nat_lit 0)), (.int (.ofNat (nat_lit 0)) (nat_lit 0)), (.int (.ofNat (nat_lit 0)) (nat_lit 0)), (.int (.ofNat (nat_lit 3)) (nat_lit 0)), (.ref (nat_lit 894)), (.bool true), (.int (.ofNat (nat_lit 181)) (nat_lit 0)), (.ref (nat_lit 895)), .none, (.ref (nat_lit 896)), (.ref (nat_lit 897)), (.ref (nat_lit 898)), (.int (.ofNat (nat_lit 1441)) (nat_lit 0)), (.int (.ofNat (nat_lit 635)) (nat_lit 0)), (.str z167 (nat_lit 1442))]⟩), ⟨[]⟩⟩
noncomputable def ob900 (P : Params) : Obj := ⟨(.type PySem.W.SL.s7174869446012820540x8), none, (.func ⟨z306, z307, fArgs d80x12, .stmts (fBody d80x12), fScope d80x12, (nat_lit 3), [], .none, .none, .none, (.str z288 (nat_lit 1266)), none, (.ref (nat_lit 899)), .none, (nat_lit 0)⟩), ⟨[]⟩⟩
noncomputable def ob913 (P : Params) : Obj := ⟨(.type PySem.W.SL.s5856160107412720595x4), none, (.fields ⟨[(.str z308 (nat_lit 1453)), (.str z309 (nat_lit 1454)), (.str z167 (nat_lit 1455)), (.int (.ofNat (nat_lit 649)) (nat_lit 0)), (.int (.ofNat (nat_lit 3)) (nat_lit 0)), (.int (.ofNat (nat_lit 0)) (nat_lit 0)), (.int (.ofNat (nat_lit 0)) (nat_lit 0)), (.int (.ofNat (nat_lit 3)) (nat_lit 0)), (.ref (nat_lit 908)), (.bool true), (.int (.ofNat (nat_lit 181)) (nat_lit 0)), (.ref (nat_lit 909)), .none, (.ref (nat_lit 910)), (.ref (nat_lit 911)), (.ref (nat_lit 912)), (.int (.ofNat (nat_lit 1462)) (nat_lit 0)), (.int (.ofNat (nat_lit 649)) (nat_lit 0)), (.str z167 (nat_lit 1463))]⟩), ⟨[]⟩⟩
noncomputable def ob914 (P : Params) : Obj := ⟨(.type PySem.W.SL.s7174869446012820540x8), none, (.func ⟨z308, z309, fArgs d80x14, .stmts (fBody d80x14), fScope d80x14, (nat_lit 3), [], .none, .none, .none, (.str z288 (nat_lit 1266)), none, (.ref (nat_lit 913)), .none, (nat_lit 0)⟩), ⟨[]⟩⟩
noncomputable def ob927 (P : Params) : Obj := ⟨(.type PySem.W.SL.s5856160107412720595x4), none, (.fields ⟨[(.str z310 (nat_lit 1474)), (.str z311 (nat_lit 1475)), (.str z167 (nat_lit 1476)), (.int (.ofNat (nat_lit 668)) (nat_lit 0)), (.int (.ofNat (nat_lit 4)) (nat_lit 0)), (.int (.ofNat (nat_lit 0)) (nat_lit 0)), (.int (.ofNat (nat_lit 0)) (nat_lit 0)), (.int (.ofNat (nat_lit 3)) (nat_lit 0)), (.ref (nat_lit 922)), (.bool true), (.int (.ofNat (nat_lit 181)) (nat_lit 0)), (.ref (nat_lit 923)), .none, (.ref (nat_lit 924)), (.ref (nat_lit 925)), (.ref (nat_lit 926)), (.int (.ofNat (nat_lit 1484)) (nat_lit 0)), (.int (.ofNat (nat_lit 668)) (nat_lit 0)), (.str z167 (nat_lit 1485))]⟩), ⟨[]⟩⟩
noncomputable def ob928 (P : Params) : Obj := ⟨(.type PySem.W.SL.s7174869446012820540x8), none, (.func ⟨z310, z311, fArgs d80x16, .stmts (fBody d80x16), fScope d80x16, (nat_lit 3), [], .none, .none, .none, (.str z288 (nat_lit 1266)), none, (.ref (nat_lit 927)), .none, (nat_lit 0)⟩), ⟨[]⟩⟩
noncomputable def ob949 (P : Params) : Obj := ⟨(.type PySem.W.SL.s5856160107412720595x4), none, (.fields ⟨[(.str z312 (nat_lit 1516)), (.str z313 (nat_lit 1517)), (.str z167 (nat_lit 1518)), (.int (.ofNat (nat_lit 704)) (nat_lit 0)), (.int (.ofNat (nat_lit 4)) (nat_lit 0)), (.int (.ofNat (nat_lit 0)) (nat_lit 0)), (.int (.ofNat (nat_lit 0)) (nat_lit 0)), (.int (.ofNat (nat_lit 3)) (nat_lit 0)), (.ref (nat_lit 944)), (.bool true), (.int (.ofNat (nat_lit 181)) (nat_lit 0)), (.ref (nat_lit 945)), .none, (.ref (nat_lit 946)), (.ref (nat_lit 947)), (.ref (nat_lit 948)), (.int (.ofNat (nat_lit 1526)) (nat_lit 0)), (.int (.ofNat (nat_lit 704)) (nat_lit 0)), (.str z167 (nat_lit 1527))]⟩), ⟨[]⟩⟩
noncomputable def ob950 (P : Params) : Obj := ⟨(.type PySem.W.SL.s7174869446012820540x8), none, (.func ⟨z312, z313, fArgs d80x19, .stmts (fBody d80x19), fScope d80x19, (nat_lit 3), [], .none, .none, .none, (.str z288 (nat_lit 1266)), none, (.ref (nat_lit 949)), .none, (nat_lit 0)⟩), ⟨[]⟩⟩
noncomputable def ob958 (P : Params) : Obj := ⟨(.type PySem.W.SL.s2766695959194262286x5), none, (.seq ⟨[.none]⟩ 0), ⟨[]⟩⟩
noncomputable def ob964 (P : Params) : Obj := ⟨(.type PySem.W.SL.s5856160107412720595x4), none, (.fields ⟨[(.str z314 (nat_lit 1545)), (.str z315 (nat_lit 1546)), (.str z167 (nat_lit 1547)), (.int (.ofNat (nat_lit 734)) (nat_lit 0)), (.int (.ofNat (nat_lit 6)) (nat_lit 0)), (.int (.ofNat (nat_lit 0)) (nat_lit 0)), (.int (.ofNat (nat_lit 0)) (nat_lit 0)), (.int (.ofNat (nat_lit 3)) (nat_lit 0)), (.ref (nat_lit 959)), (.bool true), (.int (.ofNat (nat_lit 181)) (nat_lit 0)), (.ref (nat_lit 960)), .none, (.ref (nat_lit 961)), (.ref (nat_lit 962)), (.ref (nat_lit 963)), (.int (.ofNat (nat_lit 1561)) (nat_lit 0)), (.int (.ofNat (nat_lit 734)) (nat_lit 0)), (.str z167 (nat_lit 1562))]⟩), ⟨[]⟩⟩
noncomputable def ob965 (P : Params) : Obj := ⟨(.type PySem.W.SL.s7174869446012820540x8), none, (.func ⟨z314, z315, fArgs d80x21, .stmts (fBody d80x21), fScope d80x21, (nat_lit 3), [], (.ref (nat_lit 958)), .none, .none, (.str z288 (nat_lit 1266)), none, (.ref (nat_lit 964)), .none, (nat_lit 0)⟩), ⟨[]⟩⟩
noncomputable def ob971 (P : Params) : Obj := ⟨(.type PySem.W.SL.s5856160107412720595x4), none, (.fields ⟨[(.str z316 (nat_lit 1564)), (.str z317 (nat_lit 1565)), (.str z167 (nat_lit 1566)), (.int (.ofNat (nat_lit 768)) (nat_lit 0)), (.int (.ofNat (nat_lit 3)) (nat_lit 0)), (.int (.ofNat (nat_lit 0)) (nat_lit 0)), (.int (.ofNat (nat_lit 0)) (nat_lit 0)), (.int (.ofNat (nat_lit 3)) (nat_lit 0)), (.ref (nat_lit 966)), (.bool true), (.int (.ofNat (nat_lit 181)) (nat_lit 0)), (.ref (nat_lit 967)), .none, (.ref (nat_lit 968)), (.ref (nat_lit 969)), (.ref (nat_lit 970)), (.int (.ofNat (nat_lit 1573)) (nat_lit 0)), (.int (.ofNat (nat_lit 768)) (nat_lit 0)), (.str z167 (nat_lit 1574))]⟩), ⟨[]⟩⟩
noncomputable def ob972 (P : Params) : Obj := ⟨(.type PySem.W.SL.s7174869446012820540x8), none, (.func ⟨z316, z317, fArgs d80x22, .stmts (fBody d80x22), fScope d80x22, (nat_lit 3), [], .none, .none, .none, (.str z288 (nat_lit 1266)), none, (.ref (nat_lit 971)), .none, (nat_lit 0)⟩), ⟨[]⟩⟩
noncomputable def ob978 (P : Params) : Obj := ⟨(.type PySem.W.SL.s5856160107412720595x4), none, (.fields ⟨[(.str z318 (nat_lit 1576)), (.str z319 (nat_lit 1577)), (.str z167 (nat_lit 1578)), (.int (.ofNat (nat_lit 788)) (nat_lit 0)), (.int (.ofNat (nat_lit 2)) (nat_lit 0)), (.int (.ofNat (nat_lit 0)) (nat_lit 0)), (.int (.ofNat (nat_lit 0)) (nat_lit 0)), (.int (.ofNat (nat_lit 3)) (nat_lit 0)), (.ref (nat_lit 973)), (.bool true), (.int (.ofNat (nat_lit 181)) (nat_lit 0)), (.ref (nat_lit 974)), .none, (.ref (nat_lit 975)), (.ref (nat_lit 976)), (.ref (nat_lit 977)), (.int (.ofNat (nat_lit 1584)) (nat_lit 0)), (.int (.ofNat (nat_lit 788)) (nat_lit 0)), (.str z167 (nat_lit 1585))]⟩), ⟨[]⟩⟩
noncomputable def ob979 (P : Params) : Obj := ⟨(.type PySem.W.SL.s7174869446012820540x8), none, (.func ⟨z318, z319, fArgs d80x23, .stmts (fBody d80x23), fScope d80x23, (nat_lit 3), [], .none, .none, .none, (.str z288 (nat_lit 1266)), none, (.ref (nat_lit 978)), .none, (nat_lit 0)⟩), ⟨[]⟩⟩
noncomputable def ob985 (P : Params) : Obj := ⟨(.type PySem.W.SL.s5856160107412720595x4), none, (.fields ⟨[(.str z320 (nat_lit 1587)), (.str z321 (nat_lit 1588)), (.str z167 (nat_lit 1589)), (.int (.ofNat (nat_lit 799)) (nat_lit 0)), (.int (.ofNat (nat_lit 1)) (nat_lit 0)), (.int (.ofNat (nat_lit 0)) (nat_lit 0)), (.int (.ofNat (nat_lit 0)) (nat_lit 0)), (.int (.ofNat (nat_lit 3)) (nat_lit 0)), (.ref (nat_lit 980)), (.bool true), (.int (.ofNat (nat_lit 181)) (nat_lit 0)), (.ref (nat_lit 981)), .none, (.ref (nat_lit 982)), (.ref (nat_lit 983)), (.ref (nat_lit 984)), (.int (.ofNat (nat_lit 1593)) (nat_lit 0)), (.int (.ofNat (nat_lit 799)) (nat_lit 0)), (.str z167 (nat_lit 1594))]⟩), ⟨[]⟩⟩
noncomputable def ob986 (P : Params) : Obj := ⟨(.type PySem.W.SL.s7174869446012820540x8), none, (.func ⟨z320, z321, fArgs d80x24, .stmts (fBody d80x24), fScope d80x24, (nat_lit 3), [], .none, .none, .none, (.str z288 (nat_lit 1266)), none, (.ref (nat_lit 985)), .none, (nat_lit 0)⟩), ⟨[]⟩⟩
noncomputable def ob1003 (P : Params) : Obj := ⟨(.type PySem.W.SL.s14018661285674007319x4), none, (.dict ⟨[⟨(PyData.keyHash P z246), (.str z246 (nat_lit 1314)), (.str z288 (nat_lit 1266))⟩, ⟨(PyData.keyHash P z248), (.str z248 (nat_lit 1318)), (.int (.ofNat (nat_lit 522)) (nat_lit 1317))⟩, ⟨(PyData.keyHash P z251), (.str z251 (nat_lit 1329)), (.ref (nat_lit 813))⟩, ⟨(PyData.keyHash P z290), (.str z290 (nat_lit 1338)), (.ref (nat_lit 820))⟩, ⟨(PyData.keyHash P z293), (.str z293 (nat_lit 1350)), (.ref (nat_lit 828))⟩, ⟨(PyData.keyHash P z295), (.str z295 (nat_lit 1357)), (.ref (nat_lit 835))⟩, ⟨(PyData.keyHash P z297), (.str z297 (nat_lit 1366)), (.ref (nat_lit 842))⟩, ⟨(PyData.keyHash P z322), (.str z322 (nat_lit 1375)), (.ref (nat_lit 850))⟩, ⟨(PyData.keyHash P z323), (.str z323 (nat_lit 1382)), (.ref (nat_lit 857))⟩, ⟨(PyData.keyHash P z20), (.str z20 (nat_lit 1392)), (.ref (nat_lit 864))⟩, ⟨(PyData.keyHash P z300), (.str z300 (nat_lit 1403)), (.ref (nat_lit 871))⟩, ⟨(PyData.keyHash P z324), (.str z324 (nat_lit 1413)), (.ref (nat_lit 878))⟩, ⟨(PyData.keyHash P z302), (.str z302 (nat_lit 1421)), (.ref (nat_lit 885))⟩, ⟨(PyData.keyHash P z304), (.str z304 (nat_lit 1432)), (.ref (nat_lit 893))⟩, ⟨(PyData.keyHash P z306), (.str z306 (nat_lit 1443)), (.ref (nat_lit 900))⟩, ⟨(PyData.keyHash P z325), (.str z325 (nat_lit 1452)), (.ref (nat_lit 907))⟩, ⟨(PyData.keyHash P z308), (.str z308 (nat_lit 1464)), (.ref (nat_lit 914))⟩, ⟨(PyData.keyHash P z326), (.str z326 (nat_lit 1473)), (.ref (nat_lit 921))⟩, ⟨(PyData.keyHash P z310), (.str z310 (nat_lit 1486)), (.ref (nat_lit 928))⟩, ⟨(PyData.keyHash P z327), (.str z327 (nat_lit 1503)), (.ref (nat_lit 936))⟩, ⟨(PyData.keyHash P z328), (.str z328 (nat_lit 1515)), (.ref (nat_lit 943))⟩, ⟨(PyData.keyHash P z312), (.str z312 (nat_lit 1528)), (.ref (nat_lit 950))⟩, ⟨(PyData.keyHash P z329), (.str z329 (nat_lit 1544)), (.ref (nat_lit 957))⟩, ⟨(PyData.keyHash P z314), (.str z314 (nat_lit 1563)), (.ref (nat_lit 965))⟩, ⟨(PyData.keyHash P z316), (.str z316 (nat_lit 1575)), (.ref (nat_lit 972))⟩, ⟨(PyData.keyHash P z318), (.str z318 (nat_lit 1586)), (.ref (nat_lit 979))⟩, ⟨(PyData.keyHash P z320), (.str z320 (nat_lit 1595)), (.ref (nat_lit 986))⟩, ⟨(PyData.keyHash P z330), (.str z330 (nat_lit 1606)), (.ref (nat_lit 994))⟩, ⟨(PyData.keyHash P z331), (.str z331 (nat_lit 1616)), (.ref (nat_lit 1001))⟩, ⟨(PyData.keyHash P z249), (.str z249 (nat_lit 1636)), (.ref (nat_lit 1002))⟩, ⟨(PyData.keyHash P z257), (.str z257 (nat_lit 1638)), (.ref (nat_lit 1005))⟩, ⟨(PyData.keyHash P z250), (.str z250 (nat_lit 1640)), (.ref (nat_lit 1006))⟩, ⟨(PyData.keyHash P z2), (.str z2 (nat_lit 1641)), .none⟩]⟩ 4), ⟨[]⟩⟩
noncomputable def ob1004 (P : Params) : Obj := ⟨(.type PySem.W.SL.s17162191345867700912x4), none, (.cls ⟨z240, [(.type PySem.W.SL.s2742458400755230247x6)], [(.ref (nat_lit 1004)), (.type PySem.W.SL.s2742458400755230247x6)], (nat_lit 1003), z240, true, [], [], false, none, false⟩), ⟨[none, none, (some (.str z240 (nat_lit 1307))), (some (.str z240 (nat_lit 1315))), (some (.builtin PySem.W.SL.s11443829558043349243x14)), (some (.bool true))]⟩⟩
noncomputable def ob1021 (P : Params) : Obj := ⟨(.type PySem.W.SL.s5856160107412720595x4), none, (.fields ⟨[(.str z242 (nat_lit 1653)), (.str z242 (nat_lit 1654)), (.str z167 (nat_lit 1655)), (.int (.ofNat (nat_lit 821)) (nat_lit 0)), (.int (.ofNat (nat_lit 2)) (nat_lit 0)), (.int (.ofNat (nat_lit 0)) (nat_lit 0)), (.int (.ofNat (nat_lit 0)) (nat_lit 0)), (.int (.ofNat (nat_lit 3)) (nat_lit 0)), (.ref (nat_lit 1016)), (.bool true), (.int (.ofNat (nat_lit 181)) (nat_lit 0)), (.ref (nat_lit 1017)), .none, (.ref (nat_lit 1018)), (.ref (nat_lit 1019)), (.ref (nat_lit 1020)), (.int (.ofNat (nat_lit 1659)) (nat_lit 0)), (.int (.ofNat (nat_lit 821)) (nat_lit 0)), (.str z167 (nat_lit 1660))]⟩), ⟨[]⟩⟩
noncomputable def ob1022 (P : Params) : Obj := ⟨(.type PySem.W.SL.s7174869446012820540x8), none, (.func ⟨z242, z242, fArgs d83, .stmts (fBody d83), fScope d83, (nat_lit 3), [], .none, .none, .none, (.str z163 (nat_lit 1651)), none, (.ref (nat_lit 1021)), .none, (nat_lit 0)⟩), ⟨[]⟩⟩
noncomputable def ob1024 (P : Params) : Obj := ⟨.none, none, (.fields ⟨[]⟩), ⟨[]⟩⟩
noncomputable def ob1028 (P : Params) : Obj := ⟨(.type PySem.W.SL.s5856160107412720595x4), none, (.fields ⟨[(.str z243 (nat_lit 1662)), (.str z243 (nat_lit 1663)), (.str z167 (nat_lit 1664)), (.int (.ofNat (nat_lit 829)) (nat_lit 0)), (.int (.ofNat (nat_lit 1)) (nat_lit 0)), (.int (.ofNat (nat_lit 0)) (nat_lit 0)), (.int (.ofNat (nat_lit 0)) (nat_lit 0)), (.int (.ofNat (nat_lit 3)) (nat_lit 0)), (.ref (nat_lit 1023)), (.bool true), (.int (.ofNat (nat_lit 181)) (nat_lit 0)), (.ref (nat_lit 1024)), .none, (.ref (nat_lit 1025)), (.ref (nat_lit 1026)), (.ref (nat_lit 1027)), (.int (.ofNat (nat_lit 1668)) (nat_lit 0)), (.int (.ofNat (nat_lit 829)) (nat_lit 0)), (.str z167 (nat_lit 1669))]⟩), ⟨[]⟩⟩
noncomputable def ob1029 (P : Params) : Obj := ⟨(.type PySem.W.SL.s7174869446012820540x8), none, (.func ⟨z243, z243, fArgs d84, .stmts (fBody d84), fScope d84, (nat_lit 3), [], .none, .none, .none, (.str z163 (nat_lit 1651)), none, (.ref (nat_lit 1028)), .none, (nat_lit 0)⟩), ⟨[]⟩⟩
noncomputable def ob1035 (P : Params) : Obj := ⟨(.type PySem.W.SL.s5856160107412720595x4), none, (.fields ⟨[(.str z244 (nat_lit 1671)), (.str z244 (nat_lit 1672)), (.str z167 (nat_lit 1673)), (.int (.ofNat (nat_lit 834)) (nat_lit 0)), (.int (.ofNat (nat_lit 3)) (nat_lit 0)), (.int (.ofNat (nat_lit 0)) (nat_lit 0)), (.int (.ofNat (nat_lit 0)) (nat_lit 0)), (.int (.ofNat (nat_lit 3)) (nat_lit 0)), (.ref (nat_lit 1030)), (.bool true), (.int (.ofNat (nat_lit 181)) (nat_lit 0)), (.ref (nat_lit 1031)), .none, (.ref (nat_lit 1032)), (.ref (nat_lit 1033)), (.ref (nat_lit 1034)), (.int (.ofNat (nat_lit 1677)) (nat_lit 0)), (.int (.ofNat (nat_lit 834)) (nat_lit 0)), (.str z167 (nat_lit 1678))]⟩), ⟨[]⟩⟩
noncomputable def ob1036 (P : Params) : Obj := ⟨(.type PySem.W.SL.s7174869446012820540x8), none, (.func ⟨z244, z244, fArgs d85, .stmts (fBody d85), fScope d85, (nat_lit 3), [], .none, .none, .none, (.str z163 (nat_lit 1651)), none, (.ref (nat_lit 1035)), .none, (nat_lit 0)⟩), ⟨[]⟩⟩
noncomputable def ob1040 (P : Params) : Obj := ⟨(.type PySem.W.SL.s5856160107412720595x4), none, (.fields ⟨[(.str z245 (nat_lit 1680)), (.str z245 (nat_lit 1681)), (.str z167 (nat_lit 1682)), (.int (.ofNat (nat_lit 836)) (nat_lit 0)), (.int (.ofNat (nat_lit 1)) (nat_lit 0)), (.int (.ofNat (nat_lit 0)) (nat_lit 0)), (.int (.ofNat (nat_lit 0)) (nat_lit 0)), (.int (.ofNat (nat_lit 3)) (nat_lit 0)), (.ref (nat_lit 1037)), (.bool true), (.int (.ofNat (nat_lit 181)) (nat_lit 0)), (.ref (nat_lit 1038)), .none, .none, .none, (.ref (nat_lit 1039)), (.int (.ofNat (nat_lit 1683)) (nat_lit 0)), (.int (.ofNat (nat_lit 836)) (nat_lit 0)), (.str z167 (nat_lit 1684))]⟩), ⟨[]⟩⟩
noncomputable def ob1041 (P : Params) : Obj := ⟨(.type PySem.W.SL.s7174869446012820540x8), none, (.func ⟨z245, z245, fArgs d86, .stmts (fBody d86), fScope d86, (nat_lit 3), [], .none, .none, .none, (.str z163 (nat_lit 1651)), none, (.ref (nat_lit 1040)), .none, (nat_lit 0)⟩), ⟨[]⟩⟩
/-- the top's objects that the call meets -/
noncomputable def KK (P : Params) : Frag := [((nat_lit 0), ob0 P), ((nat_lit 1), ob1 P), ((nat_lit 2), ob2 P), ((nat_lit 3), ob3 P), ((nat_lit 4), ob4 P), ((nat_lit 30), ob30 P), ((nat_lit 31), ob31 P), ((nat_lit 47), ob47 P), ((nat_lit 48), ob48 P), ((nat_lit 50), ob50 P), ((nat_lit 51), ob51 P), ((nat_lit 66), ob66 P), ((nat_lit 67), ob67 P), ((nat_lit 69), ob69 P), ((nat_lit 70), ob70 P), ((nat_lit 104), ob104 P), ((nat_lit 105), ob105 P), ((nat_lit 107), ob107 P), ((nat_lit 108), ob108 P), ((nat_lit 127), ob127 P), ((nat_lit 142), ob142 P), ((nat_lit 143), ob143 P), ((nat_lit 145), ob145 P), ((nat_lit 146), ob146 P), ((nat_lit 163), ob163 P), ((nat_lit 164), ob164 P), ((nat_lit 166), ob166 P), ((nat_lit 167), ob167 P), ((nat_lit 179), ob179 P), ((nat_lit 185), ob185 P), ((nat_lit 186), ob186 P), ((nat_lit 195), ob195 P), ((nat_lit 196), ob196 P), ((nat_lit 213), ob213 P), ((nat_lit 214), ob214 P), ((nat_lit 216), ob216 P), ((nat_lit 217), ob217 P), ((nat_lit 229), ob229 P), ((nat_lit 235), ob235 P), ((nat_lit 236), ob236 P), ((nat_lit 238), ob238 P), ((nat_lit 239), ob239 P), ((nat_lit 251), ob251 P), ((nat_lit 257), ob257 P), ((nat_lit 258), ob258 P), ((nat_lit 260), ob260 P), ((nat_lit 261), ob261 P), ((nat_lit 278), ob278 P), ((nat_lit 279), ob279 P), ((nat_lit 281), ob281 P), ((nat_lit 282), ob282 P), ((nat_lit 294), ob294 P), ((nat_lit 300), ob300 P), ((nat_lit 301), ob301 P), ((nat_lit 303), ob303 P), ((nat_lit 304), ob304 P), ((nat_lit 321), ob321 P), ((nat_lit 322), ob322 P), ((nat_lit 324), ob324 P), ((nat_lit 325), ob325 P), ((nat_lit 356), ob356 P), ((nat_lit 357), ob357 P), ((nat_lit 398), ob398 P), ((nat_lit 399), ob399 P), ((nat_lit 405), ob405 P), ((nat_lit 406), ob406 P), ((nat_lit 419), ob419 P), ((nat_lit 420), ob420 P), ((nat_lit 426), ob426 P), ((nat_lit 427), ob427 P), ((nat_lit 433), ob433 P), ((nat_lit 434), ob434 P), ((nat_lit 440), ob440 P), ((nat_lit 441), ob441 P), ((nat_lit 447), ob447 P), ((nat_lit 448), ob448 P), ((nat_lit 454), ob454 P), ((nat_lit 455), ob455 P), ((nat_lit 459), ob459 P), ((nat_lit 460), ob460 P), ((nat_lit 462), ob462 P), ((nat_lit 463), ob463 P), ((nat_lit 473), ob473 P), ((nat_lit 474), ob474 P), ((nat_lit 480), ob480 P), ((nat_lit 481), ob481 P), ((nat_lit 487), ob487 P), ((nat_lit 488), ob488 P), ((nat_lit 492), ob492 P), ((nat_lit 493), ob493 P), ((nat_lit 494), ob494 P), ((nat_lit 498), ob498 P), ((nat_lit 499), ob499 P), ((nat_lit 505), ob505 P), ((nat_lit 506), ob506 P), ((nat_lit 519), ob519 P), ((nat_lit 520), ob520 P), ((nat_lit 561), ob561 P), ((nat_lit 562), ob562 P), ((nat_lit 564), ob564 P), ((nat_lit 565), ob565 P), ((nat_lit 573), ob573 P), ((nat_lit 574), ob574 P), ((nat_lit 580), ob580 P), ((nat_lit 581), ob581 P), ((nat_lit 587), ob587 P), ((nat_lit 588), ob588 P), ((nat_lit 594), ob594 P), ((nat_lit 595), ob595 P), ((nat_lit 608), ob608 P), ((nat_lit 609), ob609 P), ((nat_lit 627), ob627 P), ((nat_lit 628), ob628 P), ((nat_lit 634), ob634 P), ((nat_lit 635), ob635 P), ((nat_lit 648), ob648 P), ((nat_lit 649), ob649 P), ((nat_lit 655), ob655 P), ((nat_lit 656), ob656 P), ((nat_lit 662), ob662 P), ((nat_lit 663), ob663 P), ((nat_lit 678), ob678 P), ((nat_lit 682), ob682 P), ((nat_lit 683), ob683 P), ((nat_lit 696), ob696 P), ((nat_lit 697), ob697 P), ((nat_lit 710), ob710 P), ((nat_lit 711), ob711 P), ((nat_lit 731), ob731 P), ((nat_lit 732), ob732 P), ((nat_lit 738), ob738 P), ((nat_lit 739), ob739 P), ((nat_lit 745), ob745 P), ((nat_lit 746), ob746 P), ((nat_lit 771), ob771 P), ((nat_lit 772), ob772 P), ((nat_lit 776), ob776 P), ((nat_lit 777), ob777 P), ((nat_lit 790), ob790 P), ((nat_lit 791), ob791 P), ((nat_lit 793), ob793 P), ((nat_lit 794), ob794 P), ((nat_lit 806), ob806 P), ((nat_lit 812), ob812 P), ((nat_lit 813), ob813 P), ((nat_lit 819), ob819 P), ((nat_lit 820), ob820 P), ((nat_lit 821), ob821 P), ((nat_lit 827), ob827 P), ((nat_lit 828), ob828 P), ((nat_lit 834), ob834 P), ((nat_lit 835), ob835 P), ((nat_lit 841), ob841 P), ((nat_lit 842), ob842 P), ((nat_lit 863), ob863 P), ((nat_lit 864), ob864 P), ((nat_lit 870), ob870 P), ((nat_lit 871), ob871 P), ((nat_lit 884), ob884 P), ((nat_lit 885), ob885 P), ((nat_lit 886), ob886 P), ((nat_lit 892), ob892 P), ((nat_lit 893), ob893 P), ((nat_lit 899), ob899 P), ((nat_lit 900), ob900 P), ((nat_lit 913), ob913 P), ((nat_lit 914), ob914 P), ((nat_lit 927), ob927 P), ((nat_lit 928), ob928 P), ((nat_lit 949), ob949 P), ((nat_lit 950), ob950 P), ((nat_lit 958), ob958 P), ((nat_lit 964), ob964 P), ((nat_lit 965), ob965 P), ((nat_lit 971), ob971 P), ((nat_lit 972), ob972 P), ((nat_lit 978), ob978 P), ((nat_lit 979), ob979 P), ((nat_lit 985), ob985 P), ((nat_lit 986), ob986 P), ((nat_lit 1003), ob1003 P), ((nat_lit 1004), ob1004 P), ((nat_lit 1021), ob1021 P), ((nat_lit 1022), ob1022 P), ((nat_lit 1024), ob1024 P), ((nat_lit 1028), ob1028 P), ((nat_lit 1029), ob1029 P), ((nat_lit 1035), ob1035 P), ((nat_lit 1036), ob1036 P), ((nat_lit 1040), ob1040 P), ((nat_lit 1041), ob1041 P)]
end Mine
end
section
open PySem PySem.W PySem.W.X PySem.Calls PyProof.Rows
open Sem (wp)
set_option maxRecDepth 100000
set_option linter.unusedVariables false
namespace Mine
/-- the top's certificate -/
noncomputable def unq (cs : List Nat) : List Nat := @List.rec Nat (fun _ => List Nat) [] (fun n _ ih => @Nat.rec (fun _ => Nat → List Nat) (fun _ => ih) (fun _ f n => Nat.mod n 1024 :: f (Nat.div n 1024)) 100 n) cs
noncomputable def ptop : List Nat := unq [0x54160580100401004010041605816058160581605c1705c170581705c1705c1705c170581605816058160581705c1705816058100400e0400e0000000000040100400004010040100401004010040020401000402000020100401004014100000f0000000000000000080000802008020080000804010040100500002, 0x741d0741d0741d008000081f07c1f07c200001d0741d0741d0741d0741d0081d07401008000080401004010050740007000000000000005c1705c02000020080005c0005c170001705c1705c1a0001705c00000170041906419000190001906419064190641905c1705c0006400064190000005c0000018, 0x1605c2b0042c0b02c0002c0002c0b02c0b02c0b02c0ac2b0ac000b0000b02c000000ac00000290a02a0a81705c170a82a0a82a0ac170ac2b0ac17058170a82b0ac2b0ac1705c2b0ac2b0581705c170a82a0a82a0a82a0a82b0ac2b0a82a0a81705c1705c1705c1d0741705c1705c0105c010041705c1705c1b0741b, 0xf43e0f83e0f43d0f41705c1705c1705c300c01705c1705c0105c010041705c1705c2e0c02e00000000000c0300c0300c03000800008320c8320c833000300c0300c0300c0300c030008300c001008000080401004010050c0000bc00000000000005c1705c0200002008000ac000ac2b0002b0ac2b0ac2d0002b0ac00, 0x10c0010800000000000005c1705c0200002008000f8000f83e0003e0f83e0f8400003e0f8000001605c3e0043f0fc3f0003f0003f0fc3f0fc3f0fc3f0f83e0f8000fc000fc3f000000f8000003c0ec3d0f41705c170f43d0f43d0f8170f83e0f817058170f43e0f83e0f81705c3e0f83e0581705c170f43d0f43d0f43d, 0x140501441714451144170581714051144511441705c51144510581705c171405014050140501405114451140501401705c1705c1705c4310c1705c1705c0105c010041705c1705c4110c41000000000010c4310c4310c43008000084511445114460004310c4310c4310c4310c430084310c0100800008040100401005, 0x80000858160581605900056158561585615856158560085615801008000080401004010051580015400000000000005c1705c020000200800144001445100051144511445300051144000001605c51004521485200052000521485214852148521445114400148001485200000144000004f138501401705c1714050, 0x65194651946519465190641900019400194650000019000000621846318c1705c1718c6318c631901719064190170581718c64190641901705c64190640581705c1718c6318c6318c6318c641906418c6318c1705c1705c1705c561581705c1705c0105c010041705c1705c54158540000000000158561585615856, 0x5c1705c691a41705c1705c0105c010041705c1705c671a46700000000001a4691a4691a469008000086b1ac6b1ac6c000691a4691a4691a4691a469008691a401008000080401004010051a4001a000000000000005c1705c020000200800190001906400064190641906600064190000001605c64004651946500065, 0x200802008001dc001dc77000771dc771dc79000771dc000001605c77004781e07800078000781e0781e0781e0781dc771dc001e0001e078000001dc00000751d0761d81705c171d8761d8761dc171dc771dc17058171d8771dc771dc1705c771dc770581705c171d8761d8761d8761d8771dc771d8761d81705c17, 0x2348d00000228000008c22c8821c8922489224892248922489224892248a2288a228892288a2288a2288a228892248922489224892288a224892247c1f07a1f07a00000000001f07c1f07c1f07c008000087e1f87e1f87f0007c1f07c1f07c1f07c1f07c0087c1f001008000080401004010051f0001ec000000000000, 0x2789e27c9f2789e278912448f2448f0000000000244912449124491008000089324c9324c940009124491244912449124491008912440100800008040100401005244002400000000000000000200800228002288a0008a2288a2288e0008a228000008a0048d2348d0008d0008d2348d2348d2348d2288a2280023400, 0x8a6298010080000804010040100529800294000000000000000020080027c0027c9f0009f27c9f27ca30009f27c000009f004a2288a2000a2000a2288a2288a2288a227c9f27c0028800288a20000027c00000a12809d2709e2789e2789e2789e2789e2789e2789f27c9f27c9e27c9f27c9f27c9f27c9e2789e2789e, 0x2fcbf2f0bc2f0002fc002fcbf000002f000000be2f4ba2e4b22ecbb2ecbb2ecbb2ecbb2ecbb2ecbb2f0bc2f0bc2ecbc2f0bc2f0bc2f0bc2ecbb2ecbb2ecbb2ecbc2f0bb2ecbb298a6290a62900000000000a6298a6298a629802000022a0a82a0a82a4a6298a600800008a82a0a82a0a9000a6298a6298a6298a6298a6, 0x344d1344d0340d0340d0340d0344d1340d0340c330cc130cc1000000000030cc330cc330cc300800008c5314c5314c6000c330cc330cc330cc330cc3008c330c010080000804010040100530c0030800000000000000002008002f0002f0bc000bc2f0bc2f0c0000bc2f000000bc004bf2fcbf000bf000bf2fcbf2fcbf, 0x360d8360d8360d8360d8008d836001008000080401004010053600035c000000000000000020080034400344d1000d1344d1344d5000d134400000d1004d4350d4000d4000d4350d4350d4350d4344d13440035000350d40000034400000d3348cf338d0340d0340d0340d0340d0340d0340d1344d1344d0344d1344d1, 0x39ceb000e739c00000e7004ea3a8ea000ea000ea3a8ea3a8ea3a8ea39ce739c003a8003a8ea0000039c00000e93a0e5390e6398e6398e6398e6398e6398e6398e739ce739ce639ce739ce739ce739ce6398e6398e6398e639ce7398e6398d8360d6360d60000000000360d8360d8360d800800008da368da368db000d8, 0x3f0fc3f0fc3f0fc3f0fc3f0fc3f0fd3f4fd3f4fc3f4fd3f4fd3f4fd3f4fc3f0fc3f0fc3f0fc3f4fd3f0fc3f0ee3b8ec3b8ec00000000003b8ee3b8ee3b8ee00800008f03c0f03c0f1000ee3b8ee3b8ee3b8ee3b8ee008ee3b801008000080401004010053b8003b4000000000000000020080039c0039ce7000e739ce7, 0x4110441104411040080000906419064190700104411044110441104411040090441001008000080401004010054100040c00000000000000002008003f4003f4fd000fd3f4fd3f501000fd3f400000fd005004010000100001004010040100401003f4fd3f4004000040100000003f400000ff3f8fb3e8fc, 0x4640046000000000000000002008004480044912001124491244916001124480000112005154551500115001154551545515455154491244800454004551500000448000011444d1043d114451144511445114451144511445124491244911449124491244912449114451144511445114491244511445044110241102, 0x4ad2b4a1284a0004ac004ad2b000004a0000012a4a5264952749d2749d2749d2749d2749d2749d284a1284a1274a1284a1284a1284a12749d2749d2749d274a12849d2749d1946517465170000000000465194651946519008000091b46d1b46d1c0011946519465194651946519009194640100800008040100401005, 0x4f53d4f53c4f13c4f13c4f13c4f53d4f13c4f12f4bd2d4bd2d00000000004bd2f4bd2f4bd2f00800009314c5314c5320012f4bd2f4bd2f4bd2f4bd2f0092f4bc01008000080401004010054bc004b800000000000000002008004a0004a128001284a1284a12c001284a000001280052b4ad2b0012b0012b4ad2b4ad2b, 0x511445114451144511440094451001008000080401004010055100050c00000000000000002008004f4004f53d0013d4f53d4f5410013d4f4000013d005405014000140001405014050140501404f53d4f4005000050140000004f4000013f4f93b4e93c4f13c4f13c4f13c4f13c4f13c4f13d4f53d4f53c4f53d4f53d, 0x54956001525480000152005555555500155001555555555555555555495254800554005555500000548000015454d5053d51545515455154551545515455154552549525495154952549525495254951545515455154551549525455154544511425114200000000005114451144511440080000946519465194700144, 0x6400000000000000000200802008020000201004010040140200802000020100401004014020080200002010040100401402008020000201004010040140200802000020100401004014020080200002010040100401402008020000201004010040140200802000020100401004014020080054800549520015254952, 0x64591008000099364d9364d9464591644020000264d9364d936519164591008000099364d9364d9464591644020000264d9364d936519164591008000099364d9364d9464591644020000264d9364d936519164591008000099364d9364d94001916459164591645916459100991644010080000804010040100564400, 0x71dc7001c771dc771dcb001c771c00001c7005ca729ca001ca001ca729ca729ca729ca71dc771c0072800729ca0000071c00001c9721c5711bf6e1b16a9a3671c6719c6719c6719c6719c6719c6719c771dc771dc671dc771dc771dc771dc6719c6719c6719c671dc7719c6719916458f6458f00000000006459164591, 0x100401402008020000201004010040140200802000020100401004014020080200002010040100401402008020000201004010040140200802008020000201004010040140200802000020100401004014020080200002010040100401402008020000201004010040140200802000020100401004014020080071c00, 0x8b62d8b62d8b62c8b22c8b22c8b22c8b62d8b22c8b21f87e1d87e1d000000000087e1f87e1f87e1f0080000a2188621886220021f87e1f87e1f87e1f87e1f00a1f87c010080000804010040100587c00878000000000000000020080200802000020100401004014020080200002010040100401402008020000201004, 0x1402008020000201004010040140200802000020100401004014020080200002010040100401402008008b4008b62d0022d8b62d8b6310022d8b4000022d006308c23000230002308c2308c2308c2308b62d8b4008c0008c230000008b4000022f8ba2b8aa2c8b22c8b22c8b22c8b22c8b22c8b22d8b62d8b62c8b62d, 0x201004010040140200802008020000201004010040140200802000020100401004014020080200802000020100401004014020080200002010040100401402008020000201004010040140200802000020100401004014020080200002010040100401402008020000201004010040140200802000020100401004, 0x201004010040140200802000020100401004014020080200002010040100401402008020000201004010040140200802000020100401004014020080200002010040100401402008020000201004010040140200802000020100401004014020080200002010040100401402008020000201004010040140200802, 0x100401005c1000c0c0000000000000000200802008020000201004010040140200802000020100401004014020080200002010040100401402008020000201004010040140200802000020100401004014020080200002010040100401402008020000201004010040140200802000020100401004014020080200802, 0xc5715c5715c5715c4b12c4800c5400c571500000c480000314c4f10c3f11c4711c4711c4711c4711c4711c4712c4b12c4b11c4b12c4b12c4b12c4b11c4711c4711c4711c4b12c4711c4704c1302c13020000000000c1304c1304c13040080000b06c1b06c1b0700304c1304c1304c1304c130400b04c10010080000804, 0xc640200002c6f1bc6f1bc7319c67190080000b1bc6f1bc6f1cc6719c640200002c6f1bc6f1bc7319c67190080000b1bc6f1bc6f1c00319c6719c6719c6719c671900b19c640100800008040100401005c6400c600000000000000000200800c4800c4b1200312c4b12c4b1600312c48000031200715c57150031500315, 0xc67190080000b1bc6f1bc6f1cc6719c640200002c6f1bc6f1bc7319c67190080000b1bc6f1bc6f1cc6719c640200002c6f1bc6f1bc7319c67190080000b1bc6f1bc6f1cc6719c640200002c6f1bc6f1bc7319c67190080000b1bc6f1bc6f1cc6719c640200002c6f1bc6f1bc7319c67190080000b1bc6f1bc6f1cc6719, 0xc6719c640200002c6f1bc6f1bc7319c67190080000b1bc6f1bc6f1cc6719c640200002c6f1bc6f1bc7319c67190080000b1bc6f1bc6f1cc6719c640200002c6f1bc6f1bc7319c67190080000b1bc6f1bc6f1cc6719c640200002c6f1bc6f1bc7319c67190080000b1bc6f1bc6f1cc6719c640200002c6f1bc6f1bc7319, 0xf8fe3f8fe3f8fe3f8fe3f8fe4f93e4f93e3f93e4f93e4f93e4f93e3f8fe3f8fe3f8fe3f93e4f8fe3f8f19c6717c67170000000000c6719c6719c67190080000b1bc6f1bc6f1cc6719c640200002c6f1bc6f1bc7319c67190080000b1bc6f1bc6f1cc6719c640200002c6f1bc6f1bc7319c67190080000b1bc6f1bc6f1c, 0x8020000201004010040140200802008020000201004010040140200800f9000f93e4003e4f93e4f93e8003e4f9000003e4007e7f9fe7003e7003e7f9fe7f9fe7f9fe7f93e4f9000f9c00f9fe700000f9000003e6f97e2f87daf4bcbf13bded7aee9fa0e6391e2b83df375db766d7f58d474ad0b3bcd32cc97e3f8fe3, 0x2008020000201004010040140200802000020100401004014020080200002010040100401402]
/-- the booted objects, but the two that the top changes -/
noncomputable def ktB (P : Params) : KT := [(0, boot_o_0 P), (1, boot_o_1 P), (4, boot_o_4 P), (5, boot_o_5 P), (6, boot_o_6 P), (7, boot_o_7 P), (8, boot_o_8 P), (9, boot_o_9 P), (10, boot_o_10 P)].foldl (fun t p => t.put 40 p.1 p.2) .nil
noncomputable def cfgT (w : World) (h : Heap) (os : OsState) : Cfg where
  prog := Challenge.pw_pq1416_01
  w := w
  h₀ := h
  n₁ := 11
  kt := ktB w.params
  tabs := []
  m₀ := 2
  old := fun i => i + 2
  N := 11
  d := boot_drawn
  t₀ := boot_toks
  os := os
  rest := []
noncomputable def treeT (P : Params) : BT := (BT.nil.ins 0 (boot_o_2 P)).ins 1 (boot_o_3 P)
noncomputable def topO (w : World) : Out := .more ΓC default ⟨[], .plain⟩ .base (topStub Challenge.pw_pq1416_01).cur (treeT w.params) 2 0 [] ptop [] []
noncomputable def topRes (w : World) (h : Heap) (os : OsState) : Res := loopF (cfgT w h os) Y1 100 78 (topO w) [] []
def okTop : Out → Bool
  | .done (.ok (.ret .none)) .. => true
  | _ => false
/-- an object behind the top's run -/
noncomputable def atTop (P : Params) (T : BT) (a : Nat) : Option Obj := match Nat.ble 11 a with
  | true => getB T (Nat.sub a 9)
  | false => match Nat.beq a 2 with
    | true => getB T 0
    | false => match Nat.beq a 3 with
      | true => getB T 1
      | false => getK (ktB P) a
def TopFact : Prop := ∀ (w : World) (h : Heap) (os : OsState), ((topRes w h os).la, laE (topRes w h os).out, okTop (topRes w h os).out, mE (topRes w h os).out, chE (topRes w h os).out, (KK w.params).map fun p => atTop w.params (TE (topRes w h os).out) p.1) =
  ((topRes w h os).lb, lbE (topRes w h os).out, true, 1033, [], (KK w.params).map fun p => some p.2)
end Mine
end
section
open PySem PySem.W PySem.W.X PySem.Calls PyProof.Rows PySem.Spec
open Sem (wp)
set_option maxRecDepth 100000
set_option linter.unusedVariables false
set_option linter.unusedSectionVars false
namespace Mine
theorem step_done {den : Code → Sem Fin} {prog : Program} {w : World} {s s' : Shared} {t : Thread} {f : Flow} (h : step den prog w s t = .halt (.done f) s') : through t = true ∧ s' = s := by
  obtain ⟨heap, gens, drawn, toks, os⟩ := s
  obtain ⟨cur, code, pos, stack⟩ := t
  cases cur with
  | pure fin =>
    cases fin with
    | again c => simp only [step] at h; cases h
    | done g =>
      cases stack with
      | nil =>
        simp only [step, PySem.finish] at h
        split at h
        · injection h with h1 h2
          cases h1
        · injection h with h1 h2
          exact ⟨rfl, h2.symm⟩
      | cons fr rest =>
        cases fr <;> (simp only [step] at h; cases h)
  | _ =>
    simp only [step, PySem.finish] at h
    repeat' split at h
    all_goals first | (injection h with h1 h2; cases h1; done) | (cases h; done)
theorem run_through {den : Code → Sem Fin} {prog : Program} {w : World} : ∀ (n : Nat) (s : Shared) (t : Thread) (f : Flow) (s'' : Shared), s.asleep →
    (∀ k s₁ t₁, runN den prog w k s t = .running s₁ t₁ → t₁.calm = true) → runN den prog w n s t = .halted (.done f) s'' →
    ∃ m t₁, schedN den prog w m (.single s t) = .running (.single s'' t₁) ∧ through t₁ = true
  | 0, s, t, f, s'', _, _, h => by cases h
  | n + 1, s, t, f, s'', hz, hc, h => by
    unfold runN at h
    cases hs : step den prog w s t with
    | halt o s' =>
      rw [hs] at h
      injection h with h1 h2
      subst h1 h2
      obtain ⟨h3, h4⟩ := step_done hs
      subst h4
      exact ⟨0, t, rfl, h3⟩
    | go s' t' =>
      rw [hs] at h
      have hl := step_life den prog w s s' t t' hs
      obtain ⟨m, t₁, h1, h2⟩ := run_through n s' t' f s'' (Shared.asleep_of_life hl hz) (fun k s₁ t₁ e => hc (k + 1) s₁ t₁ (by unfold runN; rw [hs]; exact e)) h
      have e : sstep den prog w (.single s t) = .go (.single s' t') := by
        rcases sstep_single den prog w s t (hc 0 s t rfl) hz with e | e
        · rw [e, hs]; rfl
        · rw [hs] at e; cases e
      exact ⟨m + 1, t₁, by unfold schedN; rw [e]; exact h1, h2⟩
/-- the top's run, told by its wp -/
theorem through_wp {prog : Program} {w : World} {t : Sem Fin} {s : Shared} {R : Shared → Prop} (hz : s.asleep)
    (h : wp (model prog w) ΓC t (Sem.finPost (model prog w) ΓC fun r s' => (r = rtn .none ∧ R s') ∧ s'.gens = #[]) (fun _ _ _ => False) default s) :
    ∃ s', R s' ∧ s'.gens = #[] ∧ s'.heap.life = s.heap.life ∧ ∃ n t₁, schedN (denote table) prog w n (.single s ⟨t, .builtin "claim.caller" {}, default, []⟩) = .running (.single s' t₁) ∧ through t₁ = true := by
  have h2 : wp (model prog w) ΓC t (Sem.finPost (model prog w) ΓC fun r s' => ((r = rtn .none ∧ R s') ∧ s'.gens = #[]) ∧ leftWithCleanup s'.gens = false)
      (fun e _ s' => (((Except.error e : Result) = rtn .none ∧ R s') ∧ s'.gens = #[]) ∧ leftWithCleanup s'.gens = false) default s := by
    refine Sem.wp_mono _ _ _ (fun fin p s' q => ?_) (fun e p s' q => q.elim) _ _ h
    have bare : ∀ s' : Shared, s'.gens = #[] → leftWithCleanup s'.gens = false := fun s' e => leftWithCleanup_false_of_bare (by rw [e]; exact AllBare.empty)
    cases fin with
    | done f => exact ⟨q, bare _ q.2⟩
    | again c => exact ⟨q.1, wpCode_mono (fun r s' z => ⟨z, bare _ z.2⟩) q.2⟩
  obtain ⟨n, r, s', hn, ⟨hr, hR⟩, hg⟩ := (wp_iff_halts (M := model prog w) t (fun r s' => (r = rtn .none ∧ R s') ∧ s'.gens = #[]) default s).mp h2
  subst hr
  obtain ⟨s'', h3, h4, h5⟩ := runNI_real (denote table) prog w hn rfl
  obtain rfl := Shared.eq_of_forget_eq h4 hg
  exact ⟨s'', hR, hg, runN_life _ _ _ h3, run_through n s _ _ s'' hz h5 h3⟩
end Mine
end
section
open PySem PySem.W PySem.W.X PySem.Calls PyProof.Rows PySem.Spec
open Sem (wp)
set_option maxRecDepth 100000
set_option linter.unusedVariables false
set_option linter.unusedSectionVars false
namespace Mine
def goneO : Obj := { cls := .none, data := .freed }
/-- the booted heap without the two objects that the top changes -/
noncomputable def heapT (P : Params) : Heap := ((boot_heap P).update 2 fun _ => goneO).update 3 fun _ => goneO
noncomputable def fragB (P : Params) : Frag := [(0, boot_o_0 P), (1, boot_o_1 P), (4, boot_o_4 P), (5, boot_o_5 P), (6, boot_o_6 P), (7, boot_o_7 P), (8, boot_o_8 P), (9, boot_o_9 P), (10, boot_o_10 P)]
theorem ktB_eq (P : Params) : ktB P = KT.of (fragB P) := rfl
theorem heapT_all (P : Params) : ((fragB P).map (·.1)).map (heapT P).get? = (fragB P).map fun p => some p.2 := by kernel_rfl
theorem heapT_size (P : Params) : (heapT P).objs.size = 11 := by kernel_rfl
theorem heapT_two (P : Params) : (heapT P).get? 2 = none := by kernel_rfl
theorem heapT_three (P : Params) : (heapT P).get? 3 = none := by kernel_rfl
theorem boot_size (P : Params) : (boot_heap P).objs.size = 11 := by kernel_rfl
theorem boot_two (P : Params) : (boot_heap P).get? 2 = some (boot_o_2 P) := by kernel_rfl
theorem boot_three (P : Params) : (boot_heap P).get? 3 = some (boot_o_3 P) := by kernel_rfl
theorem heapT_same (P : Params) {b : Addr} (h2 : b ≠ 2) (h3 : b ≠ 3) : (heapT P).get? b = (boot_heap P).get? b := by
  have e1 : Heap.SameBut 3 ((boot_heap P).update 2 fun _ => goneO) (heapT P) := Heap.SameBut.update ..
  have e2 : Heap.SameBut 2 (boot_heap P) ((boot_heap P).update 2 fun _ => goneO) := Heap.SameBut.update ..
  exact (e1.2 b h3).trans (e2.2 b h2)
theorem heapT_keep (P : Params) {b : Addr} {o : Obj} (h : (heapT P).get? b = some o) : (boot_heap P).get? b = some o := by
  by_cases h2 : b = 2
  · subst h2; rw [heapT_two] at h; cases h
  · by_cases h3 : b = 3
    · subst h3; rw [heapT_three] at h; cases h
    · rw [← heapT_same P h2 h3]; exact h
theorem locT (w : World) (h : Heap) (os : OsState) (i : Nat) : (cfgT w h os).loc i = if i < 2 then i + 2 else 11 + (i - 2) := by
  unfold Cfg.loc
  show (match Nat.blt i 2 with | true => i + 2 | false => 11 + (i - 2)) = _
  by_cases q : i < 2
  · have : Nat.blt i 2 = true := Nat.ble_eq_true_of_le q
    rw [this, if_pos q]
  · have : Nat.blt i 2 = false := by
      cases z : Nat.blt i 2 with
      | false => rfl
      | true => exact absurd (blt_true z) q
    rw [this, if_neg q]
theorem cfgT_ok (w : World) (os : OsState) : (cfgT w (heapT w.params) os).Ok where
  size := heapT_size _
  kt := holds_of (allIn_of (heapT_all w.params))
  tabs := fun a vs e => nomatch e
  big := by show sysModules < 11; decide
  up := Nat.le_refl 11
  apart := fun i => by
    rw [locT]
    show (heapT w.params).get? _ = none
    match i with
    | 0 => exact heapT_two _
    | 1 => exact heapT_three _
    | i + 2 =>
      refine Heap.get?_none_of_le ?_
      rw [heapT_size, if_neg (by omega)]
      omega
  ne := fun i => by
    rw [locT]
    show _ ≠ (1 : Nat)
    split <;> omega
  mono := fun i j h => by
    rw [locT, locT]
    have z : ∀ i j : Nat, i < j → (if i < 2 then i + 2 else 11 + (i - 2)) < (if j < 2 then j + 2 else 11 + (j - 2)) := by
      intro i j h
      split <;> split <;> omega
    exact z i j h
theorem treeT_get (P : Params) {i : Nat} {o : Obj} (h : (treeT P).get i = some o) : (i = 0 ∧ o = boot_o_2 P) ∨ (i = 1 ∧ o = boot_o_3 P) := by
  have e : treeT P = .node (boot_o_2 P) (.node (boot_o_3 P) .nil .nil) .nil := rfl
  rw [e, BT.get_node] at h
  split at h
  · rename_i q
    cases h
    exact .inl ⟨q, rfl⟩
  · split at h
    · rename_i q1 q2
      rw [BT.get_node] at h
      split at h
      · rename_i q3
        cases h
        exact .inr ⟨by omega, rfl⟩
      · split at h <;> cases h
    · cases h
theorem topRep (w : World) (os : OsState) : Rep (cfgT w (heapT w.params) os) (boot_heap w.params) (treeT w.params) 2 [] where
  size := by rw [boot_size, locT]; rfl
  own := fun i o h => by
    rcases treeT_get _ h with ⟨rfl, rfl⟩ | ⟨rfl, rfl⟩
    · exact ⟨by decide, by rw [locT]; exact boot_two _⟩
    · exact ⟨by decide, by rw [locT]; exact boot_three _⟩
  keep := fun b o h _ => heapT_keep _ h
  ch := fun a vs e => nomatch e
theorem atTop_get {w : World} {os : OsState} {h : Heap} {T : BT} {m : Nat} (D : Rep (cfgT w (heapT w.params) os) h T m []) {a : Nat} {o : Obj} (e : atTop w.params T a = some o) : h.get? a = some o := by
  unfold atTop at e
  split at e
  · rename_i q
    have q : (11 : Nat) ≤ a := Nat.le_of_ble_eq_true q
    rw [getB_eq] at e
    have z := (D.own _ _ e).2
    rw [locT, if_neg (show ¬ (Nat.sub a 9 < 2) by show ¬ (a - 9 < 2); omega)] at z
    have : 11 + (Nat.sub a 9 - 2) = a := by show 11 + (a - 9 - 2) = a; omega
    rw [this] at z
    exact z
  · split at e
    · rename_i q
      have q := Nat.eq_of_beq_eq_true q
      subst q
      rw [getB_eq] at e
      have z := (D.own _ _ e).2
      rw [locT] at z
      exact z
    · split at e
      · rename_i q
        have q := Nat.eq_of_beq_eq_true q
        subst q
        rw [getB_eq] at e
        have z := (D.own _ _ e).2
        rw [locT] at z
        exact z
      · rw [getK_eq] at e
        exact D.keep _ _ (kt_at (holds_of (allIn_of (heapT_all w.params))) e) rfl
theorem allIn_map {h : Heap} (f : Nat → Option Obj) (hf : ∀ a o, f a = some o → h.get? a = some o) : ∀ K : Frag, (K.map fun p => f p.1) = (K.map fun p => some p.2) → AllIn h K
  | [], _ => trivial
  | p :: K, e => by
    rw [List.map_cons, List.map_cons] at e
    injection e with e1 e2
    exact ⟨hf _ _ e1, allIn_map f hf K e2⟩
/-- what the top leaves -/
def LeftT (w : World) (os : OsState) (s : Shared) : Prop := AllIn s.heap (KK w.params) ∧ s.heap.objs.size = 1042 ∧ s.os = os ∧ ∀ b o, (heapT w.params).get? b = some o → s.heap.get? b = some o
theorem top_left (hF : TopFact) (w : World) (os : OsState) :
    wp (model Challenge.pw_pq1416_01 w) ΓC (topStub Challenge.pw_pq1416_01).cur (Sem.finPost (model Challenge.pw_pq1416_01 w) ΓC fun r s' => (r = rtn .none ∧ LeftT w os s') ∧ s'.gens = #[]) (fun e _ s' => False) default ⟨boot_heap w.params, #[], boot_drawn, boot_toks, os⟩ := by
  have F := hF w (heapT w.params) os
  have e1 : (topRes w (heapT w.params) os).la = (topRes w (heapT w.params) os).lb := congrArg (·.1) F
  have e2 : laE (topRes w (heapT w.params) os).out = lbE (topRes w (heapT w.params) os).out := congrArg (·.2.1) F
  have e3 : okTop (topRes w (heapT w.params) os).out = true := congrArg (·.2.2.1) F
  have e4 : mE (topRes w (heapT w.params) os).out = 1033 := congrArg (·.2.2.2.1) F
  have e5 : chE (topRes w (heapT w.params) os).out = [] := congrArg (·.2.2.2.2.1) F
  have e6 : ((KK w.params).map fun p => atTop w.params (TE (topRes w (heapT w.params) os).out) p.1) = (KK w.params).map fun p => some p.2 := congrArg (·.2.2.2.2.2) F
  unfold topRes at e1 e2 e3 e4 e5 e6
  rw [loopF_eq] at e1 e2 e3 e4 e5 e6
  have S : Sat (cfgT w (heapT w.params) os) (fun r s' => (r = rtn .none ∧ LeftT w os s') ∧ s'.gens = #[]) (topO w) := by
    refine (loop_sound (cfgT_ok w os) Y1_ok 100 78 (topO w) [] [] e1 ?_).2
    revert e2 e3 e4 e5 e6
    generalize (loopE (cfgT w (heapT w.params) os) Y1 100 78 (topO w) [] []).out = x
    intro e2 e3 e4 e5 e6
    cases x with
    | more Γ p H κ t T m i ch ce la lb => cases e3
    | bad k => cases e3
    | done r T m i ch ce la lb =>
      refine ⟨e2, fun h D => ?_⟩
      have e4 : m = 1033 := e4
      have e5 : ch = [] := e5
      subst e4 e5
      unfold okTop at e3
      split at e3
      · rename_i q
        cases q
        refine ⟨⟨rfl, allIn_map _ (fun a o z => atTop_get D z) _ e6, ?_, rfl, fun b o z => D.keep b o z rfl⟩, rfl⟩
        show h.objs.size = 1042
        rw [D.size, locT]
        rfl
      · cases e3
  have z := S.2 (boot_heap w.params) (topRep w os)
  refine Sem.wp_mono _ _ _ (fun fin p s' q => ?_) (fun e p s' q => ?_) _ _ z
  · cases fin with
    | done f => exact q
    | again c => exact q
  · exact nomatch q.1.1
end Mine
end
section
open PySem PySem.W PySem.W.X PySem.Calls PyProof.Rows PySem.Spec
open Sem (wp)
set_option maxRecDepth 100000
set_option linter.unusedVariables false
set_option linter.unusedSectionVars false
namespace Mine
section
variable {h h' : Heap} {a : Addr} (e : h.get? a = h'.get? a)
include e
theorem isNs_congr : h.isNs a = h'.isNs a := by unfold Heap.isNs; rw [e]
theorem nsKeys_congr : h.nsKeys a = h'.nsKeys a := by unfold Heap.nsKeys; rw [e]
theorem nsMap_congr : h.nsMap a = h'.nsMap a := by funext x; unfold Heap.nsMap; rw [e]
theorem nsPairs_congr : h.nsPairs a = h'.nsPairs a := by unfold Heap.nsPairs; rw [e]
end
/-- the five first objects behind the top -/
noncomputable def heapS (P : Params) : Heap := ⟨⟨[ob0 P, ob1 P, ob2 P, ob3 P, ob4 P]⟩, (boot_heap P).life⟩
noncomputable def chk (P : Params) : List Bool := [(heapS P).accountedOkI [], staticsOk [] (boot_heap P) (heapS P), (heapS P).isNs mainGlobals, namesBound Challenge.pw_pq1416_01 (heapS P), laidKept (boot_heap P) (heapS P), (heapS P).isNs builtinsNs]
/-- what the kernel says of them -/
structure Looks : Prop where
  chk : ∀ P, chk P = [true, true, true, true, true, true]
  blt : ∀ P, (heapS P).bltView = bltViewBooted
  bm : ∀ P, ((heapS P).nsMap mainGlobals "__builtins__", (ob4 P).cls, (ob4 P).dict) = (some (.ref 4), .type "module", some builtinsNs)
  law : ∀ P, (heapS P).nsMap mainGlobals (Str.ofString "law") = some (.ref 1041)
  fn : ∀ P, (ob1041 P).data = .func ⟨Str.ofString "law", Str.ofString "law", fArgs d86, .stmts (fBody d86), fScope d86, mainNs, [], .none, .none, .none, .str (Str.ofString "law_pq1416_01") 1651, none, .ref 1040, .none, builtinsNs⟩
  dfn : Challenge.pw_pq1416_01.theDef (Str.ofString "law") = some (fArgs d86, fBody d86, fScope d86)
  dft : (fArgs d86).defaults = []
  kwd : kwWritten? (fArgs d86).kwonlyargs (fArgs d86).kw_defaults = some []
  lookup : ∀ P, (KK P).lookup 1041 = some (ob1041 P)
  imp : importedModules Challenge.pw_pq1416_01.main.body = []
  op : opening Challenge.pw_pq1416_01 = plainProg Challenge.pw_pq1416_01.main.scope.names
  fence : ∀ s, fenceModules? Challenge.pw_pq1416_01 s = some s
theorem lk1 : ∀ P, chk P = [true, true, true, true, true, true] := by intro P; kernel_rfl
theorem lk2 : ∀ P, (heapS P).bltView = bltViewBooted := by intro P; kernel_rfl
theorem lk3 : ∀ P, ((heapS P).nsMap mainGlobals "__builtins__", (ob4 P).cls, (ob4 P).dict) = (some (.ref 4), .type "module", some builtinsNs) := by intro P; kernel_rfl
theorem lk4 : ∀ P, (heapS P).nsMap mainGlobals (Str.ofString "law") = some (.ref 1041) := by intro P; kernel_rfl
theorem lk5 : ∀ P, (ob1041 P).data = .func ⟨Str.ofString "law", Str.ofString "law", fArgs d86, .stmts (fBody d86), fScope d86, mainNs, [], .none, .none, .none, .str (Str.ofString "law_pq1416_01") 1651, none, .ref 1040, .none, builtinsNs⟩ := by intro P; kernel_rfl
theorem lk6 : Challenge.pw_pq1416_01.theDef (Str.ofString "law") = some (fArgs d86, fBody d86, fScope d86) := by kernel_rfl
theorem lk7 : (fArgs d86).defaults = [] := by kernel_rfl
theorem lk8 : kwWritten? (fArgs d86).kwonlyargs (fArgs d86).kw_defaults = some [] := by kernel_rfl
theorem lk9 : ∀ P, (KK P).lookup 1041 = some (ob1041 P) := by intro P; kernel_rfl
theorem lk10 : importedModules Challenge.pw_pq1416_01.main.body = [] := by kernel_rfl
theorem lk11 : opening Challenge.pw_pq1416_01 = plainProg Challenge.pw_pq1416_01.main.scope.names := by kernel_rfl
theorem lk12 : ∀ s, fenceModules? Challenge.pw_pq1416_01 s = some s := by intro s; kernel_rfl
end Mine
end
section
open PySem PySem.W PySem.W.X PySem.Calls PyProof.Rows PySem.Spec
set_option maxRecDepth 100000
set_option linter.unusedVariables false
namespace Mine
abbrev lw := PySem.Challenge.rw_pq1416_01
abbrev pw := PySem.Challenge.pw_pq1416_01
theorem law_said (l : OpenLaw) (c1 : l.row.wellSaid = true) (c2 : decide (l.foot ≤ (behindTheImports l.prog).length) = true) (c3 : l.footing.all footLine = true) (c4 : noClassBlock l.prog l.footing = true)
    (c5 : l.most.all (fun n => decide (63 ≤ n)) = true) (c6 : l.bound.all (fun n => decide (2 ^ 63 ≤ n)) = true)
    (c7 : noRoadLSs { strict := true, foot := some l.bound', writes := l.writes, may := l.may } l.footing = true)
    (c8 : defStands l.about l.above = true) (c9 : l.namesIt = true)
    (c10 : (["type", "isinstance", "issubclass", "getattr", "hasattr"] : List Str).all (fun n => l.about != [n]) = true) (c11 : l.bound'.all (fun n => !builtinNamed n || l.about == [n] || !l.reads n) = true)
    (c12 : (!l.writes) = true) (c13 : (l.prog.main.body.flatMap importedNames).isEmpty = true)
    (c14 : namesMeet l.prog l.footing (fun sc n => (!(["type", "isinstance", "issubclass", "getattr", "hasattr"] : List Str).contains n || sc.names.lookup n == some .globalImplicit) &&
      (l.may != some n || sc.kind == .module || sc.names.lookup n == some .globalImplicit)) = true)
    (c15 : (l.own.contains l.name && l.own.eraseDups.length == l.own.length && l.own.all (fun n => !builtinNamed n)) = true)
    (c18 : namesMeet l.prog l.above (fun _ n => !l.own.contains n) = true)
    (c19 : (namesMeet l.prog l.footing fun sc n => sc.kind == .module || sc.names.lookup n != some .globalExplicit) = true) : l.wellSaid = true := by
  have c13 := List.isEmpty_iff.mp c13
  obtain ⟨c15, c17⟩ := Bool.and_eq_true_iff.mp c15
  obtain ⟨c15, c16⟩ := Bool.and_eq_true_iff.mp c15
  unfold OpenLaw.wellSaid
  rw [c1, c2, c3, c4, c5, c6, c7, c8, c9, c10, c11, c12, c13, c14, c15, c16, c17, c18, c19]
  rfl
theorem row_said (r : OpenRow) (c1 : looksOpen r.prog = true) (h1 : r.loose = []) (h2 : r.makers = []) (h3 : r.records = []) (h4 : r.raises = []) (h5 : r.mutates = []) (h6 : r.within = []) (h7 : r.same = none)
    (c2 : r.toRowW.solid = true) (c3 : (r.pre.litsOk && r.post.litsOk) = true) (c4 : (r.prog.boundNames.contains r.name && !startupNames.contains r.name) = true) : r.wellSaid = true := by
  obtain ⟨c3, c3'⟩ := Bool.and_eq_true_iff.mp c3
  obtain ⟨c4, c4'⟩ := Bool.and_eq_true_iff.mp c4
  unfold OpenRow.wellSaid OpenRow.partSaid
  rw [c1, h1, h2, h3, h4, h5, h6, h7, c2, c3, c3', c4, c4']
  rfl
theorem looks_said (p : Program) (a1 : sreFenced p.main = true) (a2 : (moduleNames p.main.body).isEmpty = true) (a3 : namesResolve p = true) (a4 : p.boundNames.all (fun n => !worldNames.contains n) = true)
    (a5 : noRoadLSs { strict := !(importedModules p.main.body).all cThrough.contains, foot := none, bare := (["vars", "dir", "locals"] : List Str).filter (readsOut p p.main.body) } p.main.body = true)
    (a6 : namesMeet p p.main.body (fun _ n => attrL n) = true) : looksOpen p = true := by
  unfold looksOpen
  rw [a1, a2, a3, a4, a5, a6]
  rfl
end Mine
end
section
open PySem PySem.W PySem.W.X PySem.Calls PyProof.Rows PySem.Spec
open Sem (wp)
set_option maxRecDepth 100000
set_option linter.unusedVariables false
set_option linter.unusedSectionVars false
namespace Mine
/-- the top's objects as a tree -/
noncomputable def ktO (K : Params → Frag) (P : Params) : KT := KT.of (K P)
noncomputable abbrev kt0 : Params → KT := ktO KK
theorem heapS_zero (P : Params) : (heapS P).get? 0 = some (ob0 P) := by kernel_rfl
theorem heapS_two (P : Params) : (heapS P).get? 2 = some (ob2 P) := by kernel_rfl
theorem heapS_three (P : Params) : (heapS P).get? 3 = some (ob3 P) := by kernel_rfl
theorem first_five {P : Params} {h : Heap} (X : AllIn h (KK P)) : h.get? builtinsNs = (heapS P).get? builtinsNs ∧ h.get? cStatics = (heapS P).get? cStatics ∧ h.get? mainGlobals = (heapS P).get? mainGlobals ∧ h.get? 4 = some (ob4 P) :=
  ⟨X.1.trans (heapS_zero P).symm, X.2.2.1.trans (heapS_two P).symm, X.2.2.2.1.trans (heapS_three P).symm, X.2.2.2.2.1⟩
theorem allIn_lookup {h : Heap} : ∀ {K : Frag} {a : Nat} {o : Obj}, AllIn h K → K.lookup a = some o → h.get? a = some o
  | [], a, o, _, e => nomatch e
  | p :: K, a, o, X, e => by
    obtain ⟨b, x⟩ := p
    rw [List.lookup_cons] at e
    split at e
    · rename_i q
      have q : a = b := eq_of_beq q
      cases e
      rw [q]
      exact X.1
    · exact allIn_lookup X.2 e
section
variable {h h' : Heap}
theorem accounted_congr (e : h.get? cStatics = h'.get? cStatics) (mods : List Str) : h.accountedOkI mods = h'.accountedOkI mods := by
  unfold Heap.accountedOkI
  rw [isNs_congr e, nsKeys_congr e, nsMap_congr e]
theorem statics_congr (e : h.get? cStatics = h'.get? cStatics) (mods : List Str) (g : Heap) : staticsOk mods g h = staticsOk mods g h' := by
  unfold staticsOk
  rw [isNs_congr e, nsKeys_congr e, nsMap_congr e]
theorem bound_congr (e : h.get? mainGlobals = h'.get? mainGlobals) (p : Program) : namesBound p h = namesBound p h' := by
  unfold namesBound
  rw [isNs_congr e, nsKeys_congr e]
theorem kept_congr (e : h.get? mainGlobals = h'.get? mainGlobals) (g : Heap) : laidKept g h = laidKept g h' := by
  unfold laidKept
  rw [isNs_congr e, nsMap_congr e]
theorem blt_congr (e : h.get? builtinsNs = h'.get? builtinsNs) : h.bltView = h'.bltView := by
  unfold Heap.bltView
  rw [nsPairs_congr e]
end
/-- the walk of the law's call behind the top -/
theorem law_walk {C : Ce} {D : Cd} {cx : Nat → Nat → List Nat} {nx : Nat} {K : Params → Frag} (tab : ∀ P, tabOk (ktO K P) = true) (F : Facts (ktO K) C D) (T : Tails (ktO K) C cx nx) {w : World} {s₀ s₁ : Shared} {args : List WData} {vals : List Value} {as : List Addr}
    (X : AllIn s₀.heap (K w.params)) (sz : s₀.heap.objs.size = 1042) (L : Laid rw1.records w s₀ s₁ args vals as) (hpre : rw1.claim.pre args = true) (hlay : WData.layableAll args = true) (p : Pos) :
    wp (model Challenge.pw_pq1416_01 w) ΓC (PySem.call (.ref 1041) vals) (fun v _ s' => GoodWG rw1.claim (classAt s₀.heap) (ExcName.means s₀.heap) args s₁ (.ok (.ret v)) s')
      (fun e _ s' => GoodWG rw1.claim (classAt s₀.heap) (ExcName.means s₀.heap) args s₁ (.error e) s') p s₁ := by
  obtain ⟨xs, rfl, e2, e3, hi, hz, hpost⟩ := args_are L hpre hlay L.reads
  rw [sz] at e2 e3 ⊢
  have hg := L.gens
  have ZH : KT.Holds s₁.heap 1 0 (ktO K w.params) := KT.Holds.keeps L.keeps (holds_of X)
  obtain ⟨h₁, g₁, d₁, t₁, os₁⟩ := s₁
  dsimp only at hg
  subst hg
  have O : Par.Ok (ktO K w.params) ⟨w, h₁, d₁, t₁, os₁, xs⟩ := ⟨e2, ZH, e3, tabOk_spec (tab w.params) ZH⟩
  have R : EndOk ⟨w, h₁, d₁, t₁, os₁, xs⟩ (fun r s' => GoodWG rw1.claim (classAt s₀.heap) (ExcName.means s₀.heap) args ⟨h₁, #[], d₁, t₁, os₁⟩ r s') := by
    intro V h T m ch i O' hV hd' hos D
    have hK := D.oldK O'
    rw [hV] at hK
    exact ⟨.inl ⟨_, _, [], rfl, fun _ => rfl, ReadsW.bool true, hpost, fun _ => ⟨List.nodup_nil, fun _ hm => (nomatch hm)⟩⟩, hK, hos, AllBare.empty⟩
  have S := chain F T (P := ⟨w, h₁, d₁, t₁, os₁, xs⟩) O hi hz R p
  exact start_sound (P := ⟨w, h₁, d₁, t₁, os₁, xs⟩) e2.symm S
theorem law_from {C : Ce} {D : Cd} {cx : Nat → Nat → List Nat} {nx : Nat} {K : Params → Frag} (tab : ∀ P, tabOk (ktO K P) = true) (F : Facts (ktO K) C D) (T : Tails (ktO K) C cx nx) {w : World} {s : Shared} {free : Addr → Prop} {gens : Prop} {kept : Heap → Prop} (hz : s.asleep) (hgens : s.gens = #[])
    (X : AllIn s.heap (K w.params)) (sz : s.heap.objs.size = 1042) (hg : s.heap.isNs mainGlobals = true) (hl : s.heap.nsMap mainGlobals (Str.ofString "law") = some (.ref 1041)) (hk : ∀ h, kept h) (hfr : frees rw1 = true) (hwi : rw1.claim.within = []) :
    rw1.claim.CallFrom (callStub (Str.ofString "law")) w free gens kept s := by
  obtain ⟨hsame, hu, ha, hap, hm⟩ := frees_parts hfr
  refine from_at (c := rw1.claim) hz hgens fun args hpre hlay ord hord => ?_
  obtain ⟨⟨vs, s₁⟩, hlaid⟩ := Option.isSome_iff_exists.mp (layAllW_isSome (R := rw1.records) (cl := classAt s.heap) (P := w.params) (ord := ord) (fun c hc => (nomatch hc)) args rw1.args s (pre_splitW hpre).1)
  have keeps := layAllW_keeps _ _ _ hlaid
  have rest := layAllW_rest _ _ _ hlaid
  obtain ⟨as, hrd, hin, hold⟩ := reads_layAllW hord _ _ _ hlaid hlay s₁.heap (fun _ _ e => e)
  have L : Laid rw1.records w s s₁ args vs as := ⟨⟨ord, hord, hlaid⟩, hrd, hin, hold, keeps, rest.1.trans hgens, rest.2.2.1⟩
  have hi := ident_freeW hu ha hap
  refine ⟨vs, s₁, hlaid, ?_⟩
  have walk := law_walk tab F T X sz L hpre hlay
  have hN : s₁.heap.Ns mainGlobals (s.heap.nsMap mainGlobals) := (Heap.Ns.of_isNs hg).keeps keeps
  have get := wpAny_nsGet (M := model Challenge.pw_pq1416_01 w) (A := callerA) (E := fun _ _ => False) (name := Str.ofString "law") (Q := fun x s' => x = some (.ref 1041) ∧ s' = s₁) hN ⟨hl, rfl⟩
  show wp (model Challenge.pw_pq1416_01 w) ΓC (nsGet mainNs (Str.ofString "law") >>= _) _ _ default s₁
  rw [Sem.wp_bind']
  refine Sem.wp_mono _ _ _ (fun x p s' q => ?_) (fun _ _ _ q => q.elim) _ _ (get ΓC default caller_in)
  obtain ⟨rfl, rfl⟩ := q
  show wp (model Challenge.pw_pq1416_01 w) ΓC (PySem.call (.ref 1041) vs >>= _) _ _ p s'
  rw [Sem.wp_bind']
  refine Sem.wp_mono _ _ _ (fun v p s' g => ?_) (fun e p s' g => ?_) _ _ (walk p)
  · have z := g.laid (c := rw1.claim) hsame hwi hi L
    exact ⟨_, rfl, ⟨z.1, z.2.1, hk _⟩, z.2.2⟩
  · have z := g.laid (c := rw1.claim) hsame hwi hi L
    exact ⟨⟨z.1, z.2.1, hk _⟩, z.2.2⟩
theorem law_holds {C : Ce} {D : Cd} {cx : Nat → Nat → List Nat} {nx : Nat} (W : lw.wellSaid = true) (WR : lw.row.wellSaid = true) (hw : rw1.promised) (hb : pw.bare) (ho : opensWell pw = true) (hfr : frees rw1 = true)
    (K : Looks) (hF : TopFact) (tab : ∀ P, tabOk (kt0 P) = true) (F : Facts kt0 C D) (T : Tails kt0 C cx nx) : lw.Holds := by
  refine ⟨W, WR, hw, ⟨hb, ho, rfl⟩, hw.witness, fun w => ?_⟩
  have h := boot_open K.op (N := 600) rfl K.fence w
  rw [← table_eq_tree] at h
  obtain ⟨s₀, h1, e⟩ := Option.map_eq_some_iff.mp h
  obtain ⟨s, h4, h5⟩ := Option.bind_eq_some_iff.mp h1
  have A := AfterImport.of_importEnds h4
  refine ⟨⟨s, A⟩, fun s' hs' => ?_⟩
  obtain rfl : s' = s := AfterImport.unique hs' A
  have z : s₀.asleep := Shared.asleep_of_life (fence_lifeW h5) A.life
  obtain ⟨hp0, g0, d0, t0, os⟩ := s₀
  have e1 : hp0 = boot_heap w.params := congrArg (·.1) e
  have e2 : g0 = #[] := congrArg (·.2.1) e
  have e3 : d0 = boot_drawn := congrArg (·.2.2.1) e
  have e4 : t0 = boot_toks := congrArg (·.2.2.2) e
  subst e1 e2 e3 e4
  obtain ⟨s₁, ⟨X, sz, hos, kp⟩, hgens, life, run⟩ := through_wp z (top_left hF w os)
  obtain ⟨x1, x2, x3, x4⟩ := first_five X
  have c := K.chk w.params
  have c1 : (heapS w.params).accountedOkI [] = true := (List.cons.inj c).1
  have c := (List.cons.inj c).2
  have c2 : staticsOk [] (boot_heap w.params) (heapS w.params) = true := (List.cons.inj c).1
  have c := (List.cons.inj c).2
  have c3 : (heapS w.params).isNs mainGlobals = true := (List.cons.inj c).1
  have c := (List.cons.inj c).2
  have c4 : namesBound Challenge.pw_pq1416_01 (heapS w.params) = true := (List.cons.inj c).1
  have c := (List.cons.inj c).2
  have c5 : laidKept (boot_heap w.params) (heapS w.params) = true := (List.cons.inj c).1
  have c := (List.cons.inj c).2
  have c6 : (heapS w.params).isNs builtinsNs = true := (List.cons.inj c).1
  rw [← accounted_congr x2] at c1
  rw [← statics_congr x2] at c2
  rw [← isNs_congr x3] at c3
  rw [← bound_congr x3] at c4
  rw [← kept_congr x3] at c5
  rw [← isNs_congr x1] at c6
  have eb := (blt_congr x1).trans (K.blt w.params)
  have hl := (congrFun (nsMap_congr x3) _).trans (K.law w.params)
  have bm := K.bm w.params
  have b1 : (heapS w.params).nsMap mainGlobals "__builtins__" = some (.ref 4) := congrArg (·.1) bm
  have b2 : (ob4 w.params).cls = .type "module" := congrArg (·.2.1) bm
  have b3 : (ob4 w.params).dict = some builtinsNs := congrArg (·.2.2) bm
  rw [← nsMap_congr x3] at b1
  have imp : importedModules lw.row.toRowW.claim.prog.main.body = [] := K.imp
  have R : TopRan lw.row.toRowW.claim.prog w ⟨boot_heap w.params, #[], boot_drawn, boot_toks, os⟩ s₁ := by
    refine ⟨run, life, Shared.rest_eq hos, fun b o hb hn => kp b o ((heapT_same _ (fun q => hn (.inr (.inl q))) (fun q => hn (.inl q))).trans hb), ?_, ?_, Pin.keysAreStrs_of c3,
      fun x hx => (Pin.builtinOf_eq c6 x).trans (Heap.of_bltView c6 eb x hx), ⟨4, ob4 w.params, (Pin.globalOf_eq c3 _).trans b1, x4, b2, b3⟩, fun g hg => ?_, names_of_bound c4, laid_of_kept c5⟩
    · rw [imp]; exact Heap.accountedI_of_ok c1
    · rw [imp]; exact statics_of_ok c2
    · rw [hgens] at hg; simp at hg
  refine ⟨_, h5, rfl, s₁, R, fun n hn => ?_, fun x hx => (nomatch hx), fun x hx => (nomatch hx), ?_⟩
  · obtain rfl : n = Str.ofString "law" := List.mem_singleton.mp hn
    exact ⟨1041, ob1041 w.params, _, _, _, _, (Pin.globalOf_eq c3 _).trans hl, allIn_lookup X (K.lookup w.params), K.fn w.params, K.dfn, rfl, rfl, rfl, rfl, rfl, rfl, rfl, rfl, ⟨.inl ⟨K.dft, rfl⟩, [], K.kwd, .inl ⟨rfl, rfl⟩⟩⟩
  · exact law_from tab F T (Shared.asleep_of_life life z) hgens X sz c3 hl (fun h q => absurd (show (false : Bool) = true from q) (by decide)) hfr rfl
end Mine
end
section
open PySem PySem.W PySem.W.X PySem.Calls PyProof.Rows PySem.Spec
set_option maxRecDepth 100000
set_option Elab.async false
namespace Mine
theorem a1 : sreFenced pw.main = true := by kernel_rfl
theorem a2 : (moduleNames pw.main.body).isEmpty = true := by kernel_rfl
theorem a3 : namesResolve pw = true := by kernel_rfl
theorem a4 : pw.boundNames.all (fun n => !worldNames.contains n) = true := by kernel_rfl
theorem a5 : noRoadLSs { strict := !(importedModules pw.main.body).all cThrough.contains, foot := none, bare := (["vars", "dir", "locals"] : List Str).filter (readsOut pw pw.main.body) } pw.main.body = true := by kernel_rfl
theorem a6 : namesMeet pw pw.main.body (fun _ n => attrL n) = true := by kernel_rfl
end Mine
end
section
open PySem PySem.W PySem.W.X PySem.Calls PyProof.Rows PySem.Spec
set_option maxRecDepth 100000
set_option Elab.async false
namespace Mine
theorem b1 : lw.row.toRowW.solid = true := by kernel_rfl
theorem b2 : (lw.row.pre.litsOk && lw.row.post.litsOk) = true := by kernel_rfl
theorem b3 : (lw.row.prog.boundNames.contains lw.row.name && !startupNames.contains lw.row.name) = true := by kernel_rfl
theorem b4 : decide (lw.foot ≤ (behindTheImports lw.prog).length) = true := by kernel_rfl
theorem b5 : lw.footing.all footLine = true := by kernel_rfl
theorem b6 : noClassBlock lw.prog lw.footing = true := by kernel_rfl
theorem b7 : noRoadLSs { strict := true, foot := some lw.bound', writes := lw.writes, may := lw.may } lw.footing = true := by kernel_rfl
theorem b8 : defStands lw.about lw.above = true := by kernel_rfl
theorem b9 : lw.namesIt = true := by kernel_rfl
theorem b10 : (["type", "isinstance", "issubclass", "getattr", "hasattr"] : List Str).all (fun n => lw.about != [n]) = true := by kernel_rfl
theorem b11 : lw.bound'.all (fun n => !builtinNamed n || lw.about == [n] || !lw.reads n) = true := by kernel_rfl
theorem b12 : (lw.prog.main.body.flatMap importedNames).isEmpty = true := by kernel_rfl
theorem b13 : namesMeet lw.prog lw.footing (fun sc n => (!(["type", "isinstance", "issubclass", "getattr", "hasattr"] : List Str).contains n || sc.names.lookup n == some .globalImplicit) &&
    (lw.may != some n || sc.kind == .module || sc.names.lookup n == some .globalImplicit)) = true := by kernel_rfl
theorem b14 : (lw.own.contains lw.name && lw.own.eraseDups.length == lw.own.length && lw.own.all (fun n => !builtinNamed n)) = true := by kernel_rfl
theorem b15 : namesMeet lw.prog lw.above (fun _ n => !lw.own.contains n) = true := by kernel_rfl
theorem b16 : (namesMeet lw.prog lw.footing fun sc n => sc.kind == .module || sc.names.lookup n != some .globalExplicit) = true := by kernel_rfl
end Mine
end
section
open PySem PySem.W PySem.W.X PySem.Calls PyProof.Rows PySem.Spec
set_option maxRecDepth 100000
set_option Elab.async false
namespace Mine
theorem hw1 : rw1.promised := by w_witness2
theorem hb1 : pw.bare := ⟨rfl, rfl, rfl, rfl, rfl, by kernel_rfl⟩
theorem ho1 : opensWell pw = true := by kernel_rfl
theorem hf1 : frees rw1 = true := by kernel_rfl
theorem tab1 : ∀ P, tabOk (kt0 P) = true := by intro P; kernel_rfl
theorem lk : Looks := ⟨lk1, lk2, lk3, lk4, lk5, lk6, lk7, lk8, lk9, lk10, lk11, lk12⟩
end Mine
end
section
open PySem PySem.W PySem.W.X PySem.Calls PyProof.Rows PySem.Spec
set_option maxRecDepth 100000
set_option linter.unusedVariables false
namespace Mine
theorem f0 : ∀ s : S1, (stopL (q0 kt0 C0 s), (TE (q0 kt0 C0 s)).get 2) = (stopR (q0 kt0 C0 s) (callB "list.__getitem__" [.ref 1042, .ref ((U1 kt0 s).loc 2)]) 3, some (sliceAt (TE (q0 kt0 C0 s)) 2)) := by intro s; kernel_rfl
theorem h0 : ∀ s : S1, chLook (chE (q0 kt0 C0 s)) 1042 = none := by intro s; kernel_rfl
theorem g0 : ∀ (s : S1) (x : Obj), (((TE (q0 kt0 C0 s)).ins 3 x).get 3).isSome = true := by intro s x; kernel_rfl
theorem f1 : ∀ s : S1, (stopL (q1 kt0 C0 s), (TE (q1 kt0 C0 s)).get 3) = (stopR (q1 kt0 C0 s) (.call (.type "list") ⟨[.ref ((U1 kt0 s).loc 3)], []⟩) 4, some (lst s.ys)) := by intro s; kernel_rfl
theorem g1 : ∀ (s : S1) (x : Obj), (((TE (q1 kt0 C0 s)).ins 4 x).get 4).isSome = true := by intro s x; kernel_rfl
theorem f2 : ∀ s : S2, (stopL (q2 kt0 C0 s), (TE (q2 kt0 C0 s)).get 5) = (stopR (q2 kt0 C0 s) (callB "list.__getitem__" [.ref 1042, .ref ((U2 kt0 s).loc 5)]) 6, some (sliceAt (TE (q2 kt0 C0 s)) 5)) := by intro s; kernel_rfl
theorem h2 : ∀ s : S2, chLook (chE (q2 kt0 C0 s)) 1042 = none := by intro s; kernel_rfl
theorem g2 : ∀ (s : S2) (x : Obj), (((TE (q2 kt0 C0 s)).ins 6 x).get 6).isSome = true := by intro s x; kernel_rfl
theorem f3 : ∀ s : S2, (stopL (q3 kt0 C0 s), (TE (q3 kt0 C0 s)).get 6) = (stopR (q3 kt0 C0 s) (callB "sum" [.ref ((U2 kt0 s).loc 6)]) 7, some (lst s.ys)) := by intro s; kernel_rfl
theorem f4 : ∀ s : S3, ((obsQ (U3 kt0 s) Y1 31 (r4 kt0 C0 s)).1, stopL (q4 kt0 C0 s), (TE (q4 kt0 C0 s)).get 7, (TE (q4 kt0 C0 s)).get 4) =
    ((obsQ (U3 kt0 s) Y1 31 (r4 kt0 C0 s)).2, stopR (q4 kt0 C0 s) (codeOf (q4 kt0 C0 s)) 67, some (src (U3 kt0 s) 4 0 (1 + Int.fmod s.σ 9973) (seqTok (TE (q4 kt0 C0 s)) 7 1) (seqTok (TE (q4 kt0 C0 s)) 7 2)), some (lst s.ys s.e0)) := by intro s; kernel_rfl
theorem t4 : ∀ (s : S3) b n tn ta tb e r zs, lhsT (U3 kt0 s) (q4 kt0 C0 s) 67 2 D0.a4 D0.b4 D0.c4 D0.d4 b n tn ta tb e r zs = rhsT (U3 kt0 s) (q4 kt0 C0 s) 67 2 D0.a4 D0.b4 D0.c4 D0.d4 b n tn ta tb e r zs := by intros; kernel_rfl
theorem f5 : ∀ s : S4, stopL (q5 kt0 C0 s) = stopR (q5 kt0 C0 s) (callB "str.__getitem__" [.str ⟨#[97, 98]⟩ (codeTok0 (q5 kt0 C0 s)), .int (.ofNat s.k0.f) s.k0.tf]) 67 := by intro s; kernel_rfl
theorem f6 : ∀ s : S5, (stopL (q6 kt0 C0 s), (TE (q6 kt0 C0 s)).get 7, (TE (q6 kt0 C0 s)).get 4) =
    (stopR (q6 kt0 C0 s) (codeOf (q6 kt0 C0 s)) 67, some (src (U5 kt0 s) 4 (.ofNat s.k0.a) (.ofNat s.k0.b) s.k0.ta s.k0.tb), some (lst ⟨s.k0.zs⟩ s.k0.e)) := by intro s; kernel_rfl
theorem t6 : ∀ (s : S5) b n tn ta tb e r zs, lhsT (U5 kt0 s) (q6 kt0 C0 s) 67 2 D0.a6 D0.b6 D0.c6 D0.d6 b n tn ta tb e r zs = rhsT (U5 kt0 s) (q6 kt0 C0 s) 67 2 D0.a6 D0.b6 D0.c6 D0.d6 b n tn ta tb e r zs := by intros; kernel_rfl
theorem f7 : ∀ s : S6, stopL (q7 kt0 C0 s) = stopR (q7 kt0 C0 s) (callB "str.__getitem__" [.str ⟨#[97, 98]⟩ (codeTok0 (q7 kt0 C0 s)), .int (.ofNat s.k1.f) s.k1.tf]) 67 := by intro s; kernel_rfl
theorem f8 : ∀ s : S7, ((obsQ (U7 kt0 s) Y1 10 (r8 kt0 C0 s)).1, stopL (q8 kt0 C0 s), (TE (q8 kt0 C0 s)).get 7, (TE (q8 kt0 C0 s)).get 4) =
    ((obsQ (U7 kt0 s) Y1 10 (r8 kt0 C0 s)).2, stopR (q8 kt0 C0 s) (codeOf (q8 kt0 C0 s)) 91, some (src (U7 kt0 s) 4 (.ofNat s.k1.a) (.ofNat s.k1.b) s.k1.ta s.k1.tb), some (lst ⟨s.k1.zs⟩ s.k1.e)) := by intro s; kernel_rfl
theorem t8 : ∀ (s : S7) b n tn ta tb e r zs, lhsT (U7 kt0 s) (q8 kt0 C0 s) 91 11 D0.a8 D0.b8 D0.c8 D0.d8 b n tn ta tb e r zs = rhsT (U7 kt0 s) (q8 kt0 C0 s) 91 11 D0.a8 D0.b8 D0.c8 D0.d8 b n tn ta tb e r zs := by intros; kernel_rfl
theorem facts0 : Facts kt0 C0 D0 := ⟨f0, h0, g0, f1, g1, f2, h2, g2, f3, f4, t4, f5, f6, t6, f7, f8, t8⟩
end Mine
end
section
open PySem PySem.W PySem.W.X PySem.Calls PyProof.Rows PySem.Spec
set_option maxRecDepth 100000
set_option linter.unusedVariables false
namespace Mine
theorem tl0a : TailA kt0 C0 0 97 213 (cx 0 97) := by
  intro s tc N t k1 r1 k2
  kernel_rfl
theorem tl0b : TailA kt0 C0 0 98 213 (cx 0 98) := by
  intro s tc N t k1 r1 k2
  kernel_rfl
theorem tl1a : TailB kt0 C0 1 97 213 (cx 1 97) := by
  intro s tc N t k2
  kernel_rfl
theorem tl1b : TailB kt0 C0 1 98 213 (cx 1 98) := by
  intro s tc N t k2
  kernel_rfl
theorem tl2a : TailB kt0 C0 2 97 213 (cx 2 97) := by
  intro s tc N t k2
  kernel_rfl
theorem tl2b : TailB kt0 C0 2 98 213 (cx 2 98) := by
  intro s tc N t k2
  kernel_rfl
theorem tl3a : TailA kt0 C0 3 97 213 (cx 3 97) := by
  intro s tc N t k1 r1 k2
  kernel_rfl
theorem tl3b : TailA kt0 C0 3 98 213 (cx 3 98) := by
  intro s tc N t k1 r1 k2
  kernel_rfl
theorem tl4a : TailB kt0 C0 4 97 213 (cx 4 97) := by
  intro s tc N t k2
  kernel_rfl
theorem tl4b : TailB kt0 C0 4 98 213 (cx 4 98) := by
  intro s tc N t k2
  kernel_rfl
theorem tl5a : TailA kt0 C0 5 97 213 (cx 5 97) := by
  intro s tc N t k1 r1 k2
  kernel_rfl
theorem tl5b : TailA kt0 C0 5 98 213 (cx 5 98) := by
  intro s tc N t k1 r1 k2
  kernel_rfl
theorem tl6 : TailC kt0 C0 6 213 (cx 6 0) := by
  intro s k2
  kernel_rfl
theorem tl7 : TailC kt0 C0 7 213 (cx 7 0) := by
  intro s k2
  kernel_rfl
theorem tl8 : TailC kt0 C0 8 213 (cx 8 0) := by
  intro s k2
  kernel_rfl
theorem tl9 : TailC kt0 C0 9 213 (cx 9 0) := by
  intro s k2
  kernel_rfl
theorem tl10 : TailC kt0 C0 10 213 (cx 10 0) := by
  intro s k2
  kernel_rfl
end Mine
end
section
open PySem PySem.W PySem.W.X PySem.Calls PyProof.Rows PySem.Spec
set_option maxRecDepth 100000
set_option linter.unusedVariables false
namespace Mine
theorem top_fact : TopFact := by
  intro w h os
  kernel_rfl
end Mine
end
section
open PySem PySem.W PySem.W.X PySem.Calls PyProof.Rows PySem.Spec
set_option maxRecDepth 100000
namespace Mine
theorem tails0 : Tails kt0 C0 cx 213 := by
  refine ⟨?_, ?_, ?_⟩
  · intro w x hw hx
    simp only [List.mem_cons, List.not_mem_nil, or_false] at hw hx
    rcases hw with rfl | rfl | rfl <;> rcases hx with rfl | rfl
    · exact tl0a
    · exact tl0b
    · exact tl3a
    · exact tl3b
    · exact tl5a
    · exact tl5b
  · intro w x hw hx
    simp only [List.mem_cons, List.not_mem_nil, or_false] at hw hx
    rcases hw with rfl | rfl | rfl <;> rcases hx with rfl | rfl
    · exact tl1a
    · exact tl1b
    · exact tl2a
    · exact tl2b
    · exact tl4a
    · exact tl4b
  · intro w hw
    simp only [List.mem_cons, List.not_mem_nil, or_false] at hw
    rcases hw with rfl | rfl | rfl | rfl | rfl
    · exact tl6
    · exact tl7
    · exact tl8
    · exact tl9
    · exact tl10
theorem row1 : lw.row.wellSaid = true := row_said lw.row (looks_said pw a1 a2 a3 a4 a5 a6) rfl rfl rfl rfl rfl rfl rfl b1 b2 b3
theorem law1 : lw.wellSaid = true := law_said lw row1 b4 b5 b6 rfl rfl b7 b8 b9 b10 b11 rfl b12 b13 b14 b15 b16
/-- the claim -/
theorem whole : lw.Holds := law_holds law1 row1 hw1 hb1 ho1 hf1 lk top_fact tab1 facts0 tails0
end Mine
end
theorem PySem.Challenge.cw_pq1416_01_holds : PySem.Challenge.rw_pq1416_01.Holds := by
  exact Mine.whole
