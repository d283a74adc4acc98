import PyProof.Rows.All
import Wide.All
import OpenK.AllK
import Wide.FinOn
import PyProof.ExcBaseAll.Exception
import PySem.Challenge.RW_up0054_01
open PySem PySem.W PyProof.Rows PySem.Calls
set_option Elab.async false
set_option maxRecDepth 10000

namespace Mine

/-! The evaluator: abstract values, the words that are still to be read, and one step. -/
inductive AV where
  | none
  | bool (b : Bool)
  | int (i : Int)
  | num
  | sym (c : Int)
  | str (ss : List Str)
  | words
  | lst (i : Nat)
  | tup (xs : List AV)
  | any
  | src
  | inner
  deriving Inhabited

structure Wo where
  kind : Str
  texts : List Str
  deriving Inhabited

inductive TK where
  | tok (t : Wo)
  | hole (blk : Bool) (t : Wo)
  deriving Inhabited

structure WS where
  prev : Option Wo
  rest : List TK
  lvl : Nat
  mp : Nat
  mh : Nat
  deriving Inhabited

structure St where
  loc : List (Str × AV)
  lists : List (List AV)
  ws : WS
  deriving Inhabited

inductive Fl where
  | next
  | brk
  | ret (v : AV)

structure Cfg where
  /-- the most levels, the hole's aside -/
  top : Nat
  /-- the hole's own depth stands for itself; the most levels above it -/
  holeTop : Nat

def eqN : List Nat → List Nat → Bool
  | [], [] => true
  | a :: l, b :: r => match Nat.beq a b with
    | true => eqN l r
    | false => false
  | _, _ => false
def eqS (x y : Str) : Bool := eqN x.cps.toList y.cps.toList
def inS (x : Str) : List Str → Bool
  | [] => false
  | y :: r => match eqS x y with
    | true => true
    | false => inS x r
/-- every sign of the first is in the second: some true; none is: some false -/
def amid : List Str → List Str → Option Bool
  | [], _ => none
  | [x], l => some (inS x l)
  | x :: r, l => match inS x l, amid r l with
    | true, some true => some true
    | false, some false => some false
    | _, _ => none
def sameOne : List Str → List Str → Option Bool
  | xs, [y] => amid xs [y]
  | _, _ => none

def find {α : Type} (x : Str) : List (Str × α) → Option α
  | [] => none
  | p :: r => match eqS x p.1 with
    | true => some p.2
    | false => find x r
def put {α : Type} (x : Str) (v : α) : List (Str × α) → List (Str × α)
  | [] => [(x, v)]
  | p :: r => match eqS x p.1 with
    | true => (x, v) :: r
    | false => p :: put x v r

def tokAV (t : Wo) : AV := .tup [.str [t.kind], .str t.texts, .num, .none, .none]
def headTok : List TK → Option Wo
  | .tok t :: _ => some t
  | .hole _ t :: _ => some t
  | [] => none
/-- the word that stands ahead of the hole's end: no look behind a hole -/
def nthTok : List TK → Nat → Option Wo
  | l, 0 => headTok l
  | .tok _ :: l, n + 1 => nthTok l n
  | _, _ => none

def truth : AV → Option Bool
  | .none => some false
  | .bool b => some b
  | _ => none

def allStr : List AV → Option (List Str)
  | [] => some []
  | .str [x] :: r => match allStr r with
    | some l => some (x :: l)
    | none => none
  | _ :: _ => none

def intEq (a b : Int) : Bool := decide (a = b)
def intLt (a b : Int) : Bool := decide (a < b)

def cmpA (op : CmpOp) (a b : AV) : Option Bool :=
  match op with
  | .Eq => match a, b with
    | .str xs, .str ys => sameOne xs ys
    | .int i, .int j => some (intEq i j)
    | _, _ => none
  | .NotEq => match a, b with
    | .str xs, .str ys => match sameOne xs ys with
      | some c => some (!c)
      | none => none
    | .int i, .int j => some (!intEq i j)
    | _, _ => none
  | .Lt => match a, b with
    | .int i, .int j => some (intLt i j)
    | _, _ => none
  | .In => match a, b with
    | .str xs, .tup ys => match allStr ys with
      | some l => amid xs l
      | none => none
    | _, _ => none
  | .NotIn => match a, b with
    | .str xs, .tup ys => match allStr ys with
      | some l => match amid xs l with
        | some c => some (!c)
        | none => none
      | none => none
    | _, _ => none
  | .Is => match a, b with
    | .none, .none => some true
    | .tup _, .none => some false
    | .bool _, .none => some false
    | _, _ => none
  | .IsNot => match a, b with
    | .none, .none => some false
    | .tup _, .none => some true
    | .bool _, .none => some true
    | _, _ => none
  | _ => none

def mapO {α β : Type} (f : α → Option β) : List α → Option (List β)
  | [] => some []
  | x :: r => match f x, mapO f r with
    | some y, some l => some (y :: l)
    | _, _ => none
def litV (K : Frag) : Nat → Value → Option AV
  | 0, _ => none
  | _ + 1, .none => some .none
  | _ + 1, .bool b => some (.bool b)
  | _ + 1, .int i _ => some (.int i)
  | _ + 1, .str s _ => some (.str [s])
  | n + 1, .ref a => match K.lookup a with
    | some ⟨.type "tuple", none, .seq items _, sl⟩ => match sl.toList, mapO (litV K n) items.toList with
      | [], some l => some (.tup l)
      | _, _ => none
    | _ => none
  | _ + 1, _ => none

inductive Job where
  | e (x : Expr) (k : AV → St → Bool)
  | t (x : Expr) (k : Bool → St → Bool)
  | as (xs : List Expr) (k : List AV → St → Bool)
  | s (x : Stmt) (k : Fl → St → Bool)
  | ss (xs : List Stmt) (k : Fl → St → Bool)
  | wh (test : Expr) (body : List Stmt) (k : Fl → St → Bool)
  | fo (tgt : Expr) (body : List Stmt) (items : List AV) (k : Fl → St → Bool)
  | call (f : Addr) (vs : List AV) (k : AV → St → Bool)
end Mine

namespace Mine
/-- what stands still for a run of the evaluator -/
structure Cf where
  K : Frag
  /-- the class of the words -/
  C : Addr
  fExpr : Addr
  fBlock : Addr
  fTake : Addr
  top : Nat
  holeTop : Nat
  blk : Bool

structure Cx where
  scope : Scope
  cb : Nat

def isLocal (cx : Cx) (x : Str) : Bool := match find x cx.scope.names with
  | some .local => true
  | _ => false
def isGlobal (cx : Cx) (x : Str) : Bool := match find x cx.scope.names with
  | some .globalImplicit => true
  | _ => false

def isComp : Expr → Bool
  | .ListComp .. => true
  | .SetComp .. => true
  | .DictComp .. => true
  | _ => false
def isStar : Expr → Bool
  | .Starred .. => true
  | _ => false
def noStar : List Expr → Bool
  | [] => true
  | e :: r => match isStar e with
    | true => false
    | false => noStar r

def litD : Nat := 3
/-- a global name's value, where it is a plain one -/
def globA (cf : Cf) (x : Str) : Option AV := match nsIn cf.K mainGlobals x with
  | some (some v) => litV cf.K litD v
  | _ => none
def globRef (cf : Cf) (x : Str) : Option Addr := match nsIn cf.K mainGlobals x with
  | some (some (.ref a)) => some a
  | _ => none
def globNone (cf : Cf) (x : Str) : Bool := match nsIn cf.K mainGlobals x with
  | some none => true
  | _ => false

def dflts (K : Frag) (v : Value) : Option (List AV) := match v with
  | .none => some []
  | .ref a => match litV K litD (.ref a) with
    | some (.tup (x :: l)) => some (x :: l)
    | _ => none
  | _ => none
/-- the names bound at a call: one to four parameters, the last may stand by its default -/
def binds {α : Type} : List Str → List α → List α → Option (List (Str × α))
  | [a], [v], [] => some [(a, v)]
  | [a, b], [v, w], [] => some [(a, v), (b, w)]
  | [a, b], [v, w], [_] => some [(a, v), (b, w)]
  | [a, b], [v], [d] => some [(a, v), (b, d)]
  | [a, b, c], [v, w, x], [] => some [(a, v), (b, w), (c, x)]
  | [a, b, c, d], [v, w, x, y], [] => some [(a, v), (b, w), (c, x), (d, y)]
  | _, _, _ => none
def apart : List Str → Bool
  | [] => true
  | x :: r => match inS x r with
    | true => false
    | false => apart r
def allLocal (sc : Scope) : List Str → Bool
  | [] => true
  | x :: r => match find x sc.names with
    | some .local => allLocal sc r
    | _ => false
def noCell : List (Str × NameKind) → Bool
  | [] => true
  | (_, .cell) :: _ => false
  | _ :: r => noCell r
def isNil {α : Type} : List α → Bool
  | [] => true
  | _ => false
def isNo {α : Type} : Option α → Bool
  | none => true
  | _ => false
def plainParams (p : Arguments) : Bool := isNil p.posonlyargs && isNil p.kwonlyargs && isNo p.vararg && isNo p.kwarg
def isFunc : ScopeKind → Bool
  | .function => true
  | _ => false
def noneV : Value → Bool
  | .none => true
  | _ => false
/-- a plain def of the text -/
def fdOk (K : Frag) (fd : FuncData) : Bool :=
  Nat.beq fd.globals mainGlobals && Nat.beq fd.builtins builtinsNs && isNil fd.closure && plainParams fd.params && !fd.scope.isGenerator && !fd.scope.isCoroutine && isFunc fd.scope.kind &&
  noCell fd.scope.names && codeIn K fd.code fd.qualname && isNo (find (Str.ofString "__debug__") fd.scope.names)

def stillHole (cf : Cf) : List TK → Bool
  | .hole _ _ :: _ => true
  | _ => false
def followS : List Str := [Str.ofString ")", Str.ofString "]", Str.ofString "}", Str.ofString ",", Str.ofString ";", Str.ofString "=>"]
def followTok (t : Wo) : Bool := match eqS t.kind (Str.ofString "sign") with
  | true => match amid t.texts followS with
    | some true => true
    | _ => false
  | false => match eqS t.kind (Str.ofString "end") with
    | true => match amid t.texts [Str.ofString ""] with
      | some true => true
      | _ => false
    | false => false
def followed : List TK → Bool
  | .tok t :: _ => followTok t
  | _ => false

def looksA (rest : List TK) (x : Str) (n : Nat) : Option Bool := match nthTok rest n with
  | some t => match inS t.kind [Str.ofString "sign", Str.ofString "name"] with
    | true => sameOne t.texts [x]
    | false => some false
  | none => none
def took (ws : WS) : Option (Wo × WS) := match ws.rest with
  | .tok t :: r => match eqS t.kind (Str.ofString "end") with
    | true => none
    | false => some (t, { ws with prev := some t, rest := r })
  | _ => none
def maxN (a b : Nat) : Nat := match Nat.ble a b with
  | true => b
  | false => a
def kwds (cf : Cf) : Option (List Str) := match globA cf (Str.ofString "KEYWORDS") with
  | some (.tup l) => allStr l
  | _ => none

/-- a method of the words -/
def mPeek (vs : List AV) (st : St) (k : AV → St → Bool) : Bool := match vs with
  | [] => match nthTok st.ws.rest 0 with
    | some t => k (tokAV t) st
    | none => false
  | [.int (.negSucc 0)] => match st.ws.prev with
    | some t => k (tokAV t) st
    | none => false
  | _ => false
def mLooks (vs : List AV) (st : St) (k : AV → St → Bool) : Bool := match vs with
  | [.str [x]] => match looksA st.ws.rest x 0 with
    | some b => k (.bool b) st
    | none => false
  | [.str [x], .int (.ofNat n)] => match looksA st.ws.rest x n with
    | some b => k (.bool b) st
    | none => false
  | _ => false
def mTake (vs : List AV) (st : St) (k : AV → St → Bool) : Bool := match vs with
  | [] => match took st.ws with
    | some (t, ws) => k (tokAV t) ⟨st.loc, st.lists, ws⟩
    | none => false
  | _ => false
def mExpect (vs : List AV) (st : St) (k : AV → St → Bool) : Bool := match vs with
  | [.str [x]] => match looksA st.ws.rest x 0 with
    | some true => match took st.ws with
      | some (t, ws) => k (tokAV t) ⟨st.loc, st.lists, ws⟩
      | none => false
    | _ => false
  | _ => false
def mName (cf : Cf) (vs : List AV) (st : St) (k : AV → St → Bool) : Bool := match vs with
  | [] => match took st.ws, kwds cf with
    | some (t, ws), some kw => match eqS t.kind (Str.ofString "name"), amid t.texts kw with
      | true, some false => k (.tup [.str t.texts, .num]) ⟨st.loc, st.lists, ws⟩
      | _, _ => false
    | _, _ => false
  | _ => false
def mDeeper (cf : Cf) (vs : List AV) (st : St) (k : AV → St → Bool) : Bool := match vs with
  | [] => match Nat.ble (st.ws.lvl + 1) cf.top with
    | true => k .none ⟨st.loc, st.lists, ⟨st.ws.prev, st.ws.rest, st.ws.lvl + 1, maxN st.ws.mp (st.ws.lvl + 1), st.ws.mh⟩⟩
    | false => false
  | _ => false
def mShallower (vs : List AV) (st : St) (k : AV → St → Bool) : Bool := match vs with
  | [] => match st.ws.lvl with
    | 0 => false
    | l + 1 => k .none ⟨st.loc, st.lists, ⟨st.ws.prev, st.ws.rest, l, st.ws.mp, st.ws.mh⟩⟩
  | _ => false
inductive Me where
  | peek | looks | take | expect | name | deeper | shallower | other
def whichMe (m : Str) : Me := match eqS m (Str.ofString "looks") with
  | true => .looks
  | false => match eqS m (Str.ofString "peek") with
  | true => .peek
  | false => match eqS m (Str.ofString "take") with
  | true => .take
  | false => match eqS m (Str.ofString "expect") with
  | true => .expect
  | false => match eqS m (Str.ofString "name") with
  | true => .name
  | false => match eqS m (Str.ofString "deeper") with
  | true => .deeper
  | false => match eqS m (Str.ofString "shallower") with
  | true => .shallower
  | false => .other
def meth (cf : Cf) (m : Str) (vs : List AV) (st : St) (k : AV → St → Bool) : Bool := match whichMe m with
  | .looks => mLooks vs st k
  | .peek => mPeek vs st k
  | .take => mTake vs st k
  | .expect => mExpect vs st k
  | .name => mName cf vs st k
  | .deeper => mDeeper cf vs st k
  | .shallower => mShallower vs st k
  | .other => false

def setAt {α : Type} : List α → Nat → α → List α
  | [], _, _ => []
  | _ :: r, 0, v => v :: r
  | x :: r, n + 1, v => x :: setAt r n v
def nth {α : Type} : List α → Nat → Option α
  | [], _ => none
  | x :: _, 0 => some x
  | _ :: r, n + 1 => nth r n
def wt : List AV → Nat
  | [] => 0
  | .inner :: r => wt r + 1000
  | _ :: r => wt r + 1
def fits (xs : List AV) : Bool := Nat.ble (wt xs) 1000000
def plainItems : List AV → Bool
  | [] => true
  | .inner :: _ => false
  | _ :: r => plainItems r

def itemOf (st : St) (a i : AV) : Option AV := match a, i with
  | .tup xs, .int (.ofNat n) => match Nat.ble n 1000 with
    | true => nth xs n
    | false => none
  | .lst l, .int (.ofNat n) => match nth st.lists l with
    | some xs => match plainItems xs, Nat.ble n 1000 with
      | true, true => nth xs n
      | _, _ => none
    | none => none
  | _, _ => none

def tNames : List Expr → Option (List Str)
  | [] => some []
  | .Name x _ :: r => match tNames r with
    | some l => some (x :: l)
    | none => none
  | _ => none
def putAll {α : Type} : List Str → List α → List (Str × α) → Option (List (Str × α))
  | [], [], m => some m
  | x :: xs, v :: vs, m => putAll xs vs (put x v m)
  | _, _, _ => none
def swapFine : Expr → Bool
  | .Tuple vs _ _ => !(vs.all (constantsAlone 8)) || vs.all (foldedForSure 8)
  | _ => true

def retOf : Fl → AV
  | .ret v => v
  | _ => .none

def dictA (K : Frag) (d : Addr) (x : Str) : Option (Option AV) := match nsIn K d x with
  | some (some v) => match litV K litD v with
    | some a => some (some a)
    | none => none
  | some none => some none
  | none => none
def getInt (K : Frag) (d : Addr) (dv : Int) : List Str → Option Int
  | [] => none
  | [x] => match dictA K d x with
    | some (some (.int i)) => some i
    | some none => some dv
    | _ => none
  | x :: r => match dictA K d x, getInt K d dv r with
    | some (some (.int i)), some j => match intEq i j with
      | true => some j
      | false => none
    | some none, some j => match intEq dv j with
      | true => some j
      | false => none
    | _, _ => none

def addA : AV → AV → Option AV
  | .int i, .int j => some (.int (i + j))
  | .num, .int _ => some .num
  | .int _, .num => some .num
  | .num, .num => some .num
  | .sym c, .int j => some (.sym (c + j))
  | _, _ => none
def subA : AV → AV → Option AV
  | .int i, .int j => some (.int (i - j))
  | .num, .int _ => some .num
  | .sym c, .int j => some (.sym (c - j))
  | _, _ => none

/-- the first n items, none of them the inner words -/
def takeP : Nat → List AV → Option (List AV)
  | 0, _ => some []
  | _ + 1, [] => none
  | _ + 1, .inner :: _ => none
  | n + 1, x :: r => match takeP n r with
    | some l => some (x :: l)
    | none => none
/-- where an int stands in a list of texts -/
def indexA (j : Int) (at_ : Nat) : List AV → Option Nat
  | .int i :: r => match intEq i j with
    | true => some at_
    | false => indexA j (at_ + 1) r
  | .str _ :: r => indexA j (at_ + 1) r
  | _ => none
def allSI : List AV → Bool
  | [] => true
  | .int _ :: r => allSI r
  | .str _ :: r => allSI r
  | _ => false
/-- the items that a loop goes over -/
def isSetE : Expr → Bool
  | .Set .. => true
  | _ => false
def bindT (cx : Cx) (tgt : Expr) (v : AV) (m : List (Str × AV)) : Option (List (Str × AV)) := match tgt with
  | .Name x _ => match isLocal cx x with
    | true => some (put x v m)
    | false => none
  | .Tuple es _ _ => match tNames es, v with
    | some xs, .tup vs => match allLocal cx.scope xs, apart xs with
      | true, true => putAll xs vs m
      | _, _ => none
    | _, _ => none
  | _ => none

/-! one step; the recursion is handed in -/
abbrev IH := Job → Cx → St → Bool
abbrev KV := AV → St → Bool
abbrev KF := Fl → St → Bool
abbrev KB := Bool → St → Bool
def newL (st : St) (xs : List AV) (k : KV) : Bool := k (.lst st.lists.length) ⟨st.loc, st.lists ++ [xs], st.ws⟩
def eName (cf : Cf) (id : Str) (k : KV) (cx : Cx) (st : St) : Bool := match isLocal cx id with
  | true => match find id st.loc with
    | some v => k v st
    | none => false
  | false => match isGlobal cx id with
    | true => match globA cf id with
      | some v => k v st
      | none => false
    | false => false
def eConst (c : Const) (k : KV) (st : St) : Bool := match c with
  | .none => k .none st
  | .bool b => k (.bool b) st
  | .int i => k (.int i) st
  | .str s => k (.str [s]) st
  | _ => false
def kCmp (op : CmpOp) (k : KV) (a b : AV) (st : St) : Bool := match cmpA op a b with
  | some c => k (.bool c) st
  | none => false
def eCmp (ih : IH) (l : Expr) (ops : List CmpOp) (rs : List Expr) (k : KV) (cx : Cx) (st : St) : Bool := match ops, rs with
  | [op], [r] => match behindInMarks op r with
    | true => false
    | false => ih (.e l fun a st => ih (.e r fun b st => kCmp op k a b st) cx st) cx st
  | _, _ => false
def kBool (ih : IH) (op : BoolOp) (e : Expr) (k : KV) (cx : Cx) (v : AV) (st : St) : Bool := match truth v, op with
  | some true, .And => ih (.e e k) cx st
  | some false, .And => k v st
  | some false, .Or => ih (.e e k) cx st
  | some true, .Or => k v st
  | none, _ => false
def eBool (ih : IH) (op : BoolOp) (es : List Expr) (pos : Pos) (k : KV) (cx : Cx) (st : St) : Bool := match es with
  | [e] => ih (.e e k) cx st
  | e₁ :: e₂ :: rest => ih (.e e₁ fun v st => kBool ih op (.BoolOp op (e₂ :: rest) pos) k cx v st) cx st
  | [] => false
def kUn (op : UnaryOp) (k : KV) (v : AV) (st : St) : Bool := match op with
  | .Not => match truth v with
    | some c => k (.bool (!c)) st
    | none => false
  | .USub => match v with
    | .int i => k (.int (-i)) st
    | _ => false
  | _ => false
def eIf (ih : IH) (test b o : Expr) (k : KV) (cx : Cx) (st : St) : Bool := ih (.t test fun c st => match c with
  | true => ih (.e b k) cx st
  | false => ih (.e o k) cx st) cx st
def kTup (k : KV) (vs : List AV) (st : St) : Bool := match Nat.ble vs.length 1000 with
  | true => k (.tup vs) st
  | false => false
def eTup (ih : IH) (es : List Expr) (k : KV) (cx : Cx) (st : St) : Bool := match noStar es with
  | true => ih (.as es fun vs st => kTup k vs st) cx st
  | false => false
def kList (k : KV) (vs : List AV) (st : St) : Bool := match plainItems vs, Nat.ble vs.length 1000 with
  | true, true => newL st vs k
  | _, _ => false
def eList (ih : IH) (es : List Expr) (k : KV) (cx : Cx) (st : St) : Bool := match noStar es with
  | true => ih (.as es fun vs st => kList k vs st) cx st
  | false => false
def kTo (k : KV) (a b : AV) (st : St) : Bool := match a, b with
  | .lst l, .int (.ofNat n) => match nth st.lists l with
    | some xs => match takeP n xs, fits xs with
      | some ys, true => newL st ys k
      | _, _ => false
    | none => false
  | _, _ => false
def kFrom (k : KV) (a b : AV) (st : St) : Bool := match a, b with
  | .lst l, .int (.ofNat n) => match nth st.lists l with
    | some xs => match takeP n xs, fits xs with
      | some _, true => newL st (xs.drop n) k
      | _, _ => false
    | none => false
  | _, _ => false
def kItem (k : KV) (a b : AV) (st : St) : Bool := match itemOf st a b with
  | some c => k c st
  | none => false
inductive SK where
  | idx
  | strip (p : Pos) (a : Nat) (b c : Pos)
  | to (u : Expr) (p : Pos)
  | frm (u : Expr) (p : Pos)
  | bad
def sliceKind (i : Expr) : SK := match i with
  | .Slice lo up st p => match lo, up, st with
    | none, some (.UnaryOp .USub (.Constant (.int (.ofNat 1)) a b) c), none => .strip p a b c
    | none, some u, none => .to u p
    | some u, none, none => .frm u p
    | _, _, _ => .bad
  | _ => .idx
def isNameE : Expr → Bool
  | .Name _ _ => true
  | _ => false
def kStrip (k : KV) (a : AV) (st : St) : Bool := match a with
  | .str [x] => match eqS x (Str.ofString "+=") with
    | true => k .any st
    | false => false
  | _ => false
def eSub (ih : IH) (v i : Expr) (k : KV) (cx : Cx) (st : St) : Bool := match sliceKind i with
  | .strip _ _ _ _ => ih (.e v fun a st => kStrip k a st) cx st
  | .to u _ => match isNameE v with
    | true => ih (.e v fun a st => ih (.e u fun b st => kTo k a b st) cx st) cx st
    | false => false
  | .frm u _ => match isNameE v with
    | true => ih (.e v fun a st => ih (.e u fun b st => kFrom k a b st) cx st) cx st
    | false => false
  | .bad => false
  | .idx => ih (.e v fun a st => ih (.e i fun b st => kItem k a b st) cx st) cx st
def kAddL (k : KV) (i j : Nat) (st : St) : Bool := match nth st.lists i, nth st.lists j with
  | some xs, some ys => match fits xs, fits ys with
    | true, true => newL st (xs ++ ys) k
    | _, _ => false
  | _, _ => false
def kMulL (k : KV) (i n : Nat) (st : St) : Bool := match nth st.lists i with
  | some [x] => match plainItems [x], Nat.ble n 100 with
    | true, true => newL st (List.replicate n x) k
    | _, _ => false
  | _ => false
def kBin (op : Operator) (k : KV) (a b : AV) (st : St) : Bool := match op with
  | .Add => match a, b with
    | .lst i, .lst j => kAddL k i j st
    | a, b => match addA a b with
      | some c => k c st
      | none => false
  | .Sub => match subA a b with
    | some c => k c st
    | none => false
  | .Mult => match a, b with
    | .lst i, .int (.ofNat n) => kMulL k i n st
    | _, _ => false
  | _ => false
def kLen (k : KV) (vs : List AV) (st : St) : Bool := match vs with
  | [.lst i] => match nth st.lists i with
    | some xs => match plainItems xs, fits xs with
      | true, true => k (.int xs.length) st
      | _, _ => false
    | none => false
  | [.str [s]] => match Nat.ble s.length 1000 with
    | true => k (.int s.length) st
    | false => false
  | _ => false
def kTuple (k : KV) (vs : List AV) (st : St) : Bool := match vs with
  | [.lst i] => match nth st.lists i with
    | some xs => match plainItems xs, fits xs with
      | true, true => k (.tup xs) st
      | _, _ => false
    | none => false
  | _ => false
def eBuiltin (ih : IH) (id : Str) (as : List Expr) (k : KV) (cx : Cx) (st : St) : Bool := match eqS id (Str.ofString "len") with
  | true => ih (.as as fun vs st => kLen k vs st) cx st
  | false => match eqS id (Str.ofString "tuple") with
    | true => ih (.as as fun vs st => kTuple k vs st) cx st
    | false => false
def eCallN (cf : Cf) (ih : IH) (id : Str) (as : List Expr) (k : KV) (cx : Cx) (st : St) : Bool := match isGlobal cx id, noStar as, isNil as with
  | true, true, false => match globRef cf id with
    | some f => match keepIn cf.K (.ref f) with
      | true => ih (.as as fun vs st => ih (.call f vs k) cx st) cx st
      | false => false
    | none => match globNone cf id with
      | true => eBuiltin ih id as k cx st
      | false => false
  | _, _, _ => false
def kAppend (i : Nat) (k : KV) (vs : List AV) (st : St) : Bool := match vs with
  | [v] => match nth st.lists i, plainItems [v] with
    | some xs, true => match fits xs with
      | true => k .none ⟨st.loc, setAt st.lists i (xs ++ [v]), st.ws⟩
      | false => false
    | _, _ => false
  | _ => false
def kIndex (i : Nat) (k : KV) (vs : List AV) (st : St) : Bool := match vs with
  | [.int j] => match nth st.lists i with
    | some xs => match allSI xs, fits xs, indexA j 0 xs with
      | true, true, some n => k (.int n) st
      | _, _, _ => false
    | none => false
  | _ => false
def kGet (cf : Cf) (d : Addr) (k : KV) (vs : List AV) (st : St) : Bool := match vs with
  | [.str xs, .int dv] => match getInt cf.K d dv xs with
    | some j => k (.int j) st
    | none => false
  | _ => false
def eMeth (cf : Cf) (ih : IH) (id m : Str) (as : List Expr) (k : KV) (cx : Cx) (st : St) : Bool := match isLocal cx id with
  | true => match find id st.loc with
    | some .words => match whichMe m with
      | .other => false
      | _ => ih (.as as fun vs st => meth cf m vs st k) cx st
    | some (.lst i) => match eqS m (Str.ofString "append") with
      | true => match isNil as with
        | false => ih (.as as fun vs st => kAppend i k vs st) cx st
        | true => false
      | false => match eqS m (Str.ofString "index"), as with
        | true, [e] => ih (.e e fun v st => kIndex i k [v] st) cx st
        | _, _ => false
    | _ => false
  | false => match isGlobal cx id, eqS m (Str.ofString "get"), eqS id (Str.ofString "LEVELS"), globRef cf id, isNil as with
    | true, true, true, some d, false => ih (.as as fun vs st => kGet cf d k vs st) cx st
    | _, _, _, _, _ => false
def eCall (cf : Cf) (ih : IH) (f : Expr) (as : List Expr) (ks : List Keyword) (pos : Pos) (k : KV) (cx : Cx) (st : St) : Bool := match ks with
  | [] => match f with
    | .Name id _ => eCallN cf ih id as k cx st
    | .Attribute (.Name id _) m ap => match noStar as, Nat.ble as.length 20, Nat.beq ap.endLine pos.line with
      | true, true, true => eMeth cf ih id m as k cx st
      | _, _, _ => false
    | _ => false
  | _ :: _ => false
def stE (cf : Cf) (ih : IH) (x : Expr) (k : KV) (cx : Cx) (st : St) : Bool := match x with
  | .Name id _ => eName cf id k cx st
  | .Constant c _ _ => eConst c k st
  | .Compare l ops rs _ => eCmp ih l ops rs k cx st
  | .BoolOp op es pos => eBool ih op es pos k cx st
  | .UnaryOp op e _ => ih (.e e fun v st => kUn op k v st) cx st
  | .IfExp test b o _ => eIf ih test b o k cx st
  | .Tuple es _ _ => eTup ih es k cx st
  | .List es _ => eList ih es k cx st
  | .Subscript v i _ => eSub ih v i k cx st
  | .BinOp l op r _ => ih (.e l fun a st => ih (.e r fun b st => kBin op k a b st) cx st) cx st
  | .Call f as ks pos => eCall cf ih f as ks pos k cx st
  | _ => false
def kTruth (k : KB) (v : AV) (st : St) : Bool := match truth v with
  | some c => k c st
  | none => false
def tPlain (ih : IH) (x : Expr) (k : KB) (cx : Cx) (st : St) : Bool := ih (.e x fun v st => kTruth k v st) cx st
def tAnd (ih : IH) (es : List Expr) (pos : Pos) (k : KB) (cx : Cx) (st : St) : Bool := match es with
  | [] => k true st
  | e :: r => ih (.t e fun c st => match c with
    | true => ih (.t (.BoolOp .And r pos) k) cx st
    | false => k false st) cx st
def tOr (ih : IH) (es : List Expr) (pos : Pos) (k : KB) (cx : Cx) (st : St) : Bool := match es with
  | [] => k false st
  | e :: r => ih (.t e fun c st => match c with
    | true => k true st
    | false => ih (.t (.BoolOp .Or r pos) k) cx st) cx st
def kCmpT (op : CmpOp) (k : KB) (a b : AV) (st : St) : Bool := match cmpA op a b with
  | some c => k c st
  | none => false
def tCmp (ih : IH) (l : Expr) (ops : List CmpOp) (rs : List Expr) (k : KB) (cx : Cx) (st : St) : Bool := match ops, rs with
  | [op], [r] => match behindInMarks op r with
    | true => false
    | false => ih (.e l fun a st => ih (.e r fun b st => kCmpT op k a b st) cx st) cx st
  | _, _ => false
def tUn (ih : IH) (op : UnaryOp) (e : Expr) (k : KB) (cx : Cx) (st : St) : Bool := match op with
  | .Not => ih (.t e fun c st => k (!c) st) cx st
  | _ => false
def stT (ih : IH) (x : Expr) (k : KB) (cx : Cx) (st : St) : Bool := match x with
  | .UnaryOp op e _ => tUn ih op e k cx st
  | .BoolOp op es pos => match op with
    | .And => tAnd ih es pos k cx st
    | .Or => tOr ih es pos k cx st
  | .Compare l ops rs _ => tCmp ih l ops rs k cx st
  | .Name i p => tPlain ih (.Name i p) k cx st
  | .Constant c a p => tPlain ih (.Constant c a p) k cx st
  | .Call f as ks p => tPlain ih (.Call f as ks p) k cx st
  | _ => false
def stAs (ih : IH) (xs : List Expr) (k : List AV → St → Bool) (cx : Cx) (st : St) : Bool := match xs with
  | [] => k [] st
  | e :: r => ih (.e e fun v st => ih (.as r fun vs st => k (v :: vs) st) cx st) cx st
def sExpr (ih : IH) (e : Expr) (k : KF) (cx : Cx) (st : St) : Bool := match isComp e with
  | true => false
  | false => ih (.e e fun _ st => k .next st) cx st
def kUnpack (xs : List Str) (k : KF) (v : AV) (st : St) : Bool := match v with
  | .tup vs => match putAll xs vs st.loc with
    | some m => k .next ⟨m, st.lists, st.ws⟩
    | none => false
  | _ => false
def sAssign (ih : IH) (ts : List Expr) (e : Expr) (k : KF) (cx : Cx) (st : St) : Bool := match isComp e with
  | true => false
  | false => match ts with
    | [.Name x _] => match isLocal cx x with
      | true => ih (.e e fun v st => k .next ⟨put x v st.loc, st.lists, st.ws⟩) cx st
      | false => false
    | [.Tuple es _ _] => match tNames es with
      | some xs => match allLocal cx.scope xs, apart xs, swapFine e with
        | true, true, true => ih (.e e fun v st => kUnpack xs k v st) cx st
        | _, _, _ => false
      | none => false
    | _ => false
def sIf (ih : IH) (test : Expr) (b o : List Stmt) (k : KF) (cx : Cx) (st : St) : Bool := ih (.t test fun c st => match c with
  | true => ih (.ss b k) cx st
  | false => ih (.ss o k) cx st) cx st
def kFor (ih : IH) (tgt : Expr) (b : List Stmt) (k : KF) (cx : Cx) (v : AV) (st : St) : Bool := match v with
  | .tup xs => ih (.fo tgt b xs k) cx st
  | _ => false
def kForR (ih : IH) (tgt : Expr) (b : List Stmt) (k : KF) (cx : Cx) (v : AV) (st : St) : Bool := match v with
  | .lst l => match nth st.lists l with
    | some xs => match plainItems xs, fits xs with
      | true, true => ih (.fo tgt b xs.reverse k) cx st
      | _, _ => false
    | none => false
  | _ => false
def isRev (x : Expr) : Option Expr := match x with
  | .Subscript (.Name id p) (.Slice none none (some (.UnaryOp .USub (.Constant (.int (.ofNat 1)) _ _) _)) _) _ => some (.Name id p)
  | _ => none
def sFor (ih : IH) (tgt it : Expr) (b o : List Stmt) (k : KF) (cx : Cx) (st : St) : Bool := match o with
  | [] => match isRev it with
    | some e => ih (.e e fun v st => kForR ih tgt b k cx v st) cx st
    | none => match isSetE it with
      | true => false
      | false => ih (.e it fun v st => kFor ih tgt b k cx v st) cx st
  | _ :: _ => false
def stS (ih : IH) (x : Stmt) (k : KF) (cx : Cx) (st : St) : Bool := match x with
  | .Expr e _ => sExpr ih e k cx st
  | .Assign ts e _ => sAssign ih ts e k cx st
  | .Return v _ => match v with
    | none => k (.ret .none) st
    | some e => ih (.e e fun v st => k (.ret v) st) cx st
  | .If test b o _ => sIf ih test b o k cx st
  | .While test b o _ => match o with
    | [] => ih (.wh test b k) cx st
    | _ :: _ => false
  | .Break _ => k .brk st
  | .For tgt it b o _ => sFor ih tgt it b o k cx st
  | _ => false
def kSs (ih : IH) (r : List Stmt) (k : KF) (cx : Cx) (f : Fl) (st : St) : Bool := match f with
  | .next => ih (.ss r k) cx st
  | .brk => k .brk st
  | .ret v => k (.ret v) st
def stSs (ih : IH) (xs : List Stmt) (k : KF) (cx : Cx) (st : St) : Bool := match xs with
  | [] => k .next st
  | x :: r => ih (.s x fun f st => kSs ih r k cx f st) cx st
def kTurn (ih : IH) (again : Job) (k : KF) (cx : Cx) (f : Fl) (st : St) : Bool := match f with
  | .next => ih again cx st
  | .brk => k .next st
  | .ret v => k (.ret v) st
def stWh (ih : IH) (test : Expr) (b : List Stmt) (k : KF) (cx : Cx) (st : St) : Bool := ih (.t test fun c st => match c with
  | true => ih (.ss b fun f st => kTurn ih (.wh test b k) k cx f st) cx st
  | false => k .next st) cx st
def stFo (ih : IH) (tgt : Expr) (b : List Stmt) (items : List AV) (k : KF) (cx : Cx) (st : St) : Bool := match items with
  | [] => k .next st
  | v :: r => match bindT cx tgt v st.loc with
    | some m => ih (.ss b fun f st => kTurn ih (.fo tgt b r k) k cx f st) cx ⟨m, st.lists, st.ws⟩
    | none => false
def jump (cf : Cf) (r : List TK) (less : Nat) (st : St) (k : KV) : Bool :=
  match followed r, Nat.ble st.ws.lvl (cf.holeTop + less) with
  | true, true => k .any ⟨st.loc, st.lists, ⟨none, r, st.ws.lvl, st.ws.mp, maxN st.ws.mh (st.ws.lvl + 1 - less)⟩⟩
  | _, _ => false
/-- a call that leaps over the hole -/
def leaps (cf : Cf) (f : Addr) (vs : List AV) (st : St) : Option (List TK × Nat) := match st.ws.rest with
  | .hole blk _ :: r => match vs with
    | [.words] => match Nat.beq f cf.fExpr with
      | true => some (r, 0)
      | false => match Nat.beq f cf.fBlock, blk with
        | true, true => some (r, 1)
        | _, _ => none
    | [.words, .bool false] => match Nat.beq f cf.fExpr with
      | true => some (r, 0)
      | false => none
    | _ => none
  | _ => none
def draws (k : KV) (st : St) : Nat → Bool
  | 0 => true
  | n + 1 => match draws k st n with
    | true => k (.int n) st
    | false => false
def cDraw (vs : List AV) (k : KV) (st : St) : Bool := match vs with
  | [.src, .int (.ofNat n)] => match Nat.ble n 1000, Nat.ble 1 n with
    | true, true => draws k st n
    | _, _ => false
  | _ => false
def cBody (ih : IH) (m : List (Str × AV)) (body : List Stmt) (sc : Scope) (cb : Nat) (k : KV) (st : St) : Bool := match apart (m.map (·.1)), allLocal sc (m.map (·.1)) with
  | true, true => ih (.ss body fun fl st' => k (retOf fl) ⟨st.loc, st'.lists, st'.ws⟩) ⟨sc, cb⟩ ⟨m, st.lists, st.ws⟩
  | _, _ => false
def cFd (cf : Cf) (ih : IH) (fd : FuncData) (vs : List AV) (cb : Nat) (k : KV) (st : St) : Bool := match fdOk cf.K fd, fd.body, dflts cf.K fd.defaults with
  | true, .stmts body, some ds => match binds (fd.params.args.map (·.arg)) vs ds with
    | some m => cBody ih m body fd.scope cb k st
    | none => false
  | _, _, _ => false
def fnAt (K : Frag) (f : Addr) : Option FuncData := match K.lookup f with
  | some ⟨_, _, .func fd, _⟩ => some fd
  | _ => none
def cPlain (cf : Cf) (ih : IH) (f : Addr) (vs : List AV) (k : KV) (cx : Cx) (st : St) : Bool := match cx.cb, fnAt cf.K f with
  | cb + 1, some fd => cFd cf ih fd vs cb k st
  | _, _ => false
def stCall (cf : Cf) (ih : IH) (f : Addr) (vs : List AV) (k : KV) (cx : Cx) (st : St) : Bool := match leaps cf f vs st with
  | some (r, less) => jump cf r less st k
  | none => match Nat.beq f cf.fTake with
    | true => cDraw vs k st
    | false => cPlain cf ih f vs k cx st
def step (cf : Cf) (ih : IH) (j : Job) (cx : Cx) (st : St) : Bool := match j with
  | .e x k => stE cf ih x k cx st
  | .t x k => stT ih x k cx st
  | .as xs k => stAs ih xs k cx st
  | .s x k => stS ih x k cx st
  | .ss xs k => stSs ih xs k cx st
  | .wh test b k => stWh ih test b k cx st
  | .fo tgt b items k => stFo ih tgt b items k cx st
  | .call f vs k => stCall cf ih f vs k cx st

def run (cf : Cf) (n : Nat) : Job → Cx → St → Bool := Nat.rec (motive := fun _ => Job → Cx → St → Bool) (fun _ _ _ => false) (fun _ ih => step cf ih) n
theorem run_zero (cf : Cf) (j : Job) (cx : Cx) (st : St) : run cf 0 j cx st = false := rfl
theorem run_succ (cf : Cf) (n : Nat) : run cf (n + 1) = step cf (run cf n) := rfl
end Mine

namespace Mine

abbrev tupObj (vs : List Value) (n : Nat) : Obj := { cls := .type "tuple", dict := none, data := .seq vs.toArray n, slots := #[] }
abbrev listObj (vs : List Value) (n : Nat) : Obj := { cls := .type "list", dict := none, data := .seq vs.toArray n, slots := #[] }

/-- the object of the words: where it stands, what it holds -/
structure Wd where
  W : Addr
  D : Addr
  R : Addr
  C : Addr
  hr : Int
  ha : Int
  hd : Int
  kr : Tok
  ka : Tok
  kd : Tok
  n : Nat
  toks : List (Str × Str)
  tvs : List Addr

def Wd.ox (ω : Wd) : Obj := ⟨.ref ω.C, some ω.D, .plain, #[]⟩
def Wd.dict (ω : Wd) (i : Nat) (ti : Tok) (d : Nat) (td : Tok) : Obj :=
  dictOf [⟨ω.hr, .str (Str.ofString "rows") ω.kr, .ref ω.R⟩, ⟨ω.ha, .str (Str.ofString "at") ω.ka, .int i ti⟩, ⟨ω.hd, .str (Str.ofString "deep") ω.kd, .int d td⟩] ω.n

structure WordsAt (ω : Wd) (h : Heap) (i d : Nat) : Prop where
  inst : h.get? ω.W = some ω.ox
  dict : ∃ ti td, h.get? ω.D = some (ω.dict i ti d td)
  rows : ∃ n, h.get? ω.R = some (listObj (ω.tvs.map Value.ref) n)
  len : ω.tvs.length = ω.toks.length
  tok : ∀ (j : Nat) t a, ω.toks[j]? = some t → ω.tvs[j]? = some a → ∃ k1 k2 k3 n, h.get? a = some (tupObj [.str t.1 k1, .str t.2 k2, .int j k3, .none, .none] n)
  lt : i < ω.toks.length
  small : ω.toks.length ≤ 1000000 ∧ ∃ pre x, ω.toks = pre ++ [(Str.ofString "end", x)]

structure Rho where
  wd : Option Wd
  src : Option Addr
  inner : List (Str × Str)
  ivs : List Value
  d0 : Nat
  dsym : Int
  blk : Bool
  e : Nat
  sz : Nat
  s0 : Shared
  /-- the words behind all that is told -/
  tail : List (Str × Str)

inductive RepV (ρ : Rho) (ads : List Addr) (h : Heap) : Value → AV → Prop
  | none : RepV ρ ads h .none .none
  | bool (b : Bool) : RepV ρ ads h (.bool b) (.bool b)
  | int (i : Int) (t : Tok) : RepV ρ ads h (.int i t) (.int i)
  | num (i : Int) (t : Tok) : RepV ρ ads h (.int i t) .num
  | sym (c : Int) (t : Tok) : RepV ρ ads h (.int (ρ.dsym + c) t) (.sym c)
  | str {x : Str} {ss : List Str} (t : Tok) : x ∈ ss → RepV ρ ads h (.str x t) (.str ss)
  | words {ω : Wd} : ρ.wd = some ω → RepV ρ ads h (.ref ω.W) .words
  | lst {i : Nat} {a : Addr} : ads[i]? = some a → RepV ρ ads h (.ref a) (.lst i)
  | tup {t : Addr} {vs : List Value} {xs : List AV} {n : Nat} : h.get? t = some (tupObj vs n) → vs.length = xs.length →
      (∀ (i : Nat) v x, vs[i]? = some v → xs[i]? = some x → RepV ρ ads h v x) → RepV ρ ads h (.ref t) (.tup xs)
  | any (v : Value) : RepV ρ ads h v .any
  | src {a : Addr} : ρ.src = some a → RepV ρ ads h (.ref a) .src

/-- a list's items: the hole's words stand together -/
inductive Items (ρ : Rho) (ads : List Addr) (h : Heap) : List Value → List AV → Prop
  | nil : Items ρ ads h [] []
  | cons {v : Value} {x : AV} {vs : List Value} {xs : List AV} : RepV ρ ads h v x → Items ρ ads h vs xs → Items ρ ads h (v :: vs) (x :: xs)
  | inner {vs : List Value} {xs : List AV} : Items ρ ads h vs xs → Items ρ ads h (ρ.ivs ++ vs) (.inner :: xs)

def Later (ads : List Addr) (h : Heap) (ads' : List Addr) (h' : Heap) : Prop :=
  (∃ r, ads' = ads ++ r) ∧ ∀ t vs n, h.get? t = some (tupObj vs n) → h'.get? t = some (tupObj vs n)
theorem Later.refl (ads : List Addr) (h : Heap) : Later ads h ads h := ⟨⟨[], by simp⟩, fun _ _ _ e => e⟩
theorem Later.trans {a₁ a₂ a₃ : List Addr} {h₁ h₂ h₃ : Heap} (x : Later a₁ h₁ a₂ h₂) (y : Later a₂ h₂ a₃ h₃) : Later a₁ h₁ a₃ h₃ := by
  obtain ⟨⟨r, rfl⟩, k⟩ := x
  obtain ⟨⟨r', rfl⟩, k'⟩ := y
  exact ⟨⟨r ++ r', by simp⟩, fun t vs n e => k' t vs n (k t vs n e)⟩
theorem Later.ext {ads : List Addr} {h h' : Heap} (k : ∀ b o, h.get? b = some o → h'.get? b = some o) : Later ads h ads h' := ⟨⟨[], by simp⟩, fun t _ _ e => k t _ e⟩
/-- what is changed is no tuple -/
theorem Later.but {ads : List Addr} {h h' : Heap} {c : Addr} {o : Obj} (k : Heap.ExtBut c h h') (e : h.get? c = some o) (hc : o.cls ≠ .type "tuple") : Later ads h ads h' :=
  ⟨⟨[], by simp⟩, fun t vs n q => k t _ (by rintro rfl; rw [e] at q; cases q; exact hc rfl) q⟩

theorem nth_app {α : Type} {l r : List α} {i : Nat} {a : α} (h : l[i]? = some a) : (l ++ r)[i]? = some a := by
  obtain ⟨hl, he⟩ := List.getElem?_eq_some_iff.mp h
  rw [List.getElem?_append_left hl]; exact h
theorem RepV.mono {ρ : Rho} {ads ads' : List Addr} {h h' : Heap} (k : Later ads h ads' h') {v : Value} {x : AV} (r : RepV ρ ads h v x) : RepV ρ ads' h' v x := by
  induction r with
  | none => exact .none
  | bool b => exact .bool b
  | int i t => exact .int i t
  | num i t => exact .num i t
  | sym c t => exact .sym c t
  | str t m => exact .str t m
  | words e => exact .words e
  | lst e => obtain ⟨⟨r, rfl⟩, _⟩ := k; exact .lst (nth_app e)
  | tup e l _ ih => exact .tup (k.2 _ _ _ e) l ih
  | any v => exact .any v
  | src e => exact .src e
theorem Items.mono {ρ : Rho} {ads ads' : List Addr} {h h' : Heap} (k : Later ads h ads' h') {vs : List Value} {xs : List AV} (r : Items ρ ads h vs xs) : Items ρ ads' h' vs xs := by
  induction r with
  | nil => exact .nil
  | cons q _ ih => exact .cons (q.mono k) ih
  | inner _ ih => exact .inner ih

/-- the words that are still to be read -/
inductive Match (ρ : Rho) : List TK → List (Str × Str) → Prop
  | nil : Match ρ [] ρ.tail
  | tok {t : Wo} {r : List TK} {x : Str} {l : List (Str × Str)} : x ∈ t.texts → Match ρ r l → Match ρ (.tok t :: r) ((t.kind, x) :: l)
  | hole {t : Wo} {r : List TK} {x : Str} {l i : List (Str × Str)} : ρ.inner = (t.kind, x) :: i → x ∈ t.texts → Match ρ r l → Match ρ (.hole ρ.blk t :: r) (ρ.inner ++ l)

structure Frm where
  A₀ : Around
  base : Heap
  g : Heap
  outer : List Env
  L : Addr
  a : Addr
  name : Str
  scope : Scope
  cd : Value
abbrev Frm.env (fr : Frm) : Env := envOf fr.name fr.scope fr.L fr.a fr.cd
abbrev Frm.A (fr : Frm) : Around := fr.A₀.deeper fr.env

def muts (ρ : Rho) (ads : List Addr) : List Addr := (match ρ.wd with | some ω => [ω.D] | none => []) ++ (match ρ.src with | some a => [a] | none => []) ++ ads

def SrcAt (h : Heap) (S : Addr) : Prop := ∃ (i j : Int) (ti tj : Tok) (o : Obj) (n : Nat), h.get? S = some o ∧ o.cls = .type "list" ∧ o.data = .seq #[.int i ti, .int j tj] n ∧ 0 ≤ i ∧ 0 ≤ j ∧ j < 2147483647
def ListsAt (ρ : Rho) (ads : List Addr) (h : Heap) (ls : List (List AV)) : Prop :=
  ads.length = ls.length ∧ ∀ (i : Nat) a xs, ads[i]? = some a → ls[i]? = some xs → ∃ vs n, h.get? a = some (listObj vs n) ∧ Items ρ ads h vs xs

abbrev Kp := Addr → Obj → Prop
structure Core (ρ : Rho) (kp : Kp) (st : St) (s : Shared) (ads : List Addr) : Prop where
  lists : ListsAt ρ ads s.heap st.lists
  words : ∀ ω, ρ.wd = some ω → ∃ i, WordsAt ω s.heap i (ρ.d0 + st.ws.lvl) ∧ Match ρ st.ws.rest (ω.toks.drop i) ∧
    (∀ t, st.ws.prev = some t → ∃ x, 0 < i ∧ ω.toks[i - 1]? = some (t.kind, x) ∧ x ∈ t.texts) ∧ ω.R ∉ muts ρ ads
  src : ∀ S, ρ.src = some S → SrcAt s.heap S
  kept : ∀ b o, kp b o → s.heap.get? b = some o ∧ b ∉ muts ρ ads
  apart : (muts ρ ads).Nodup
  lv : ρ.d0 + st.ws.lvl ≤ 60 ∧ ρ.d0 + st.ws.mp ≤ 60 ∧ (st.ws.mh = 0 ∨ ρ.d0 + (st.ws.mh - 1) + ρ.e ≤ 60)
  out : s.gens = ρ.s0.gens ∧ s.drawn = ρ.s0.drawn ∧ s.os = ρ.s0.os
structure Sim (ρ : Rho) (fr : Frm) (kp : Kp) (st : St) (s : Shared) (ads : List Addr) : Prop extends Core ρ kp st s ads where
  loc : ∃ m, Fr fr.g fr.L s.heap m ∧ ∀ x v, find x st.loc = some v → ∃ u, m x = some u ∧ RepV ρ ads s.heap u v
  new : ∀ a ∈ muts ρ ads, fr.g.get? a = none ∧ a ≠ fr.L
  off : ∀ b o, kp b o → b ≠ fr.L

theorem muts_app (ρ : Rho) (ads r : List Addr) : muts ρ (ads ++ r) = muts ρ ads ++ r := by unfold muts; simp
theorem mem_wd {ρ : Rho} {ω : Wd} {ads : List Addr} (h : ρ.wd = some ω) : ω.D ∈ muts ρ ads := by unfold muts; rw [h]; simp
theorem mem_src {ρ : Rho} {S : Addr} {ads : List Addr} (h : ρ.src = some S) : S ∈ muts ρ ads := by unfold muts; rw [h]; simp
theorem mem_ads {ρ : Rho} {ads : List Addr} {i : Nat} {a : Addr} (h : ads[i]? = some a) : a ∈ muts ρ ads := by
  unfold muts; simp only [List.mem_append]; exact .inr (List.mem_of_getElem? h)

theorem frBut {g h h' : Heap} {L c : Addr} {m : Str → Option Value} (F : Fr g L h m) (k : Heap.ExtBut c h h') (hg : g.get? c = none) (hL : c ≠ L) : Fr g L h' m :=
  ⟨F.ns.extBut k (Ne.symm hL), fun b o e => k b o (by rintro rfl; rw [hg] at e; cases e) (F.keep b o e), F.above⟩
theorem frExt {g h h' : Heap} {L : Addr} {m : Str → Option Value} (F : Fr g L h m) (k : ∀ b o, h.get? b = some o → h'.get? b = some o) : Fr g L h' m := by
  obtain ⟨oL, a1, a2, hL, a3⟩ := F.ns
  exact ⟨⟨oL, a1, a2, k _ _ hL, a3⟩, fun b o e => k b o (F.keep b o e), F.above⟩

theorem WordsAt.but {ω : Wd} {h h' : Heap} {i d : Nat} {c : Addr} {o : Obj} (x : WordsAt ω h i d) (k : Heap.ExtBut c h h') (e : h.get? c = some o) (hD : ω.D ≠ c) (hR : ω.R ≠ c)
    (hW : ∀ C, o.cls ≠ .ref C) (hT : o.cls ≠ .type "tuple") : WordsAt ω h' i d := by
  have ne : ∀ b o', h.get? b = some o' → o'.cls ≠ o.cls → b ≠ c := by rintro b o' q hne rfl; rw [e] at q; cases q; exact hne rfl
  refine ⟨k _ _ (ne _ _ x.inst (hW _).symm) x.inst, ?_, ?_, x.len, ?_, x.lt, x.small⟩
  · obtain ⟨ti, td, q⟩ := x.dict; exact ⟨ti, td, k _ _ hD q⟩
  · obtain ⟨n, q⟩ := x.rows; exact ⟨n, k _ _ hR q⟩
  · intro j t a h1 h2
    obtain ⟨k1, k2, k3, n, q⟩ := x.tok j t a h1 h2
    exact ⟨k1, k2, k3, n, k _ _ (ne _ _ q hT.symm) q⟩
theorem WordsAt.ext {ω : Wd} {h h' : Heap} {i d : Nat} (x : WordsAt ω h i d) (k : ∀ b o, h.get? b = some o → h'.get? b = some o) : WordsAt ω h' i d := by
  refine ⟨k _ _ x.inst, ?_, ?_, x.len, ?_, x.lt, x.small⟩
  · obtain ⟨ti, td, q⟩ := x.dict; exact ⟨ti, td, k _ _ q⟩
  · obtain ⟨n, q⟩ := x.rows; exact ⟨n, k _ _ q⟩
  · intro j t a h1 h2
    obtain ⟨k1, k2, k3, n, q⟩ := x.tok j t a h1 h2
    exact ⟨k1, k2, k3, n, k _ _ q⟩
end Mine

namespace Mine

theorem eqN_iff : ∀ {a b : List Nat}, eqN a b = true ↔ a = b
  | [], [] => by simp [eqN]
  | [], _ :: _ => by simp [eqN]
  | _ :: _, [] => by simp [eqN]
  | x :: l, y :: r => by
    unfold eqN
    cases h : Nat.beq x y with
    | true =>
      have : x = y := Nat.eq_of_beq_eq_true h
      subst this
      simp only [List.cons.injEq, true_and]
      exact eqN_iff
    | false =>
      have : x ≠ y := by rintro rfl; rw [Nat.beq_refl] at h; cases h
      simp [this]
theorem eqS_iff {x y : Str} : eqS x y = true ↔ x = y := by
  unfold eqS
  rw [eqN_iff]
  constructor
  · intro h; cases x; cases y; simp only [Str.mk.injEq]; exact Array.toList_inj.mp h
  · rintro rfl; rfl
theorem eqS_false {x y : Str} : eqS x y = false ↔ x ≠ y := by
  rw [← Bool.not_eq_true, eqS_iff]
theorem eqS_eq (x y : Str) : eqS x y = (x == y) := by
  cases h : eqS x y with
  | true => rw [eqS_iff.mp h]; simp
  | false => have := eqS_false.mp h; simp [this]
theorem eqS_refl (x : Str) : eqS x x = true := eqS_iff.mpr rfl
theorem find_eq {α : Type} (x : Str) : ∀ l : List (Str × α), find x l = l.lookup x
  | [] => rfl
  | p :: r => by
    obtain ⟨y, v⟩ := p
    unfold find
    rw [List.lookup_cons, ← eqS_eq, find_eq x r]
    cases eqS x y <;> rfl
theorem find_put {α : Type} (x : Str) (v : α) (y : Str) : ∀ l : List (Str × α), find y (put x v l) = if y = x then some v else find y l
  | [] => by
    show (match eqS y x with | true => some v | false => none) = _
    cases h : eqS y x with
    | true => rw [if_pos (eqS_iff.mp h)]
    | false => rw [if_neg (eqS_false.mp h)]; rfl
  | p :: r => by
    obtain ⟨z, w⟩ := p
    unfold put
    cases h : eqS x z with
    | true =>
      obtain rfl := eqS_iff.mp h
      show (match eqS y x with | true => some v | false => find y r) = if y = x then some v else (match eqS y x with | true => some w | false => find y r)
      cases q : eqS y x with
      | true => rw [if_pos (eqS_iff.mp q)]
      | false => rw [if_neg (eqS_false.mp q)]
    | false =>
      show (match eqS y z with | true => some w | false => find y (put x v r)) = if y = x then some v else (match eqS y z with | true => some w | false => find y r)
      rw [find_put x v y r]
      cases q : eqS y z with
      | true =>
        have hyx : y ≠ x := by
          rintro rfl
          rw [q] at h
          cases h
        simp [hyx]
      | false => rfl
theorem inS_iff {x : Str} : ∀ {l : List Str}, inS x l = true ↔ x ∈ l
  | [] => by simp [inS]
  | y :: r => by
    unfold inS
    cases h : eqS x y with
    | true => simp [eqS_iff.mp h]
    | false => simp only [List.mem_cons, eqS_false.mp h, false_or]; exact inS_iff
theorem inS_false {x : Str} {l : List Str} : inS x l = false ↔ x ∉ l := by rw [← Bool.not_eq_true, inS_iff]
theorem amid_true {l : List Str} : ∀ {xs : List Str} {b : Bool}, amid xs l = some b → ∀ x ∈ xs, inS x l = b
  | [], _, h => by cases h
  | [x], b, h => by
    intro y hy
    simp only [List.mem_singleton] at hy
    subst hy
    simpa [amid] using h
  | x :: z :: r, b, h => by
    intro y hy
    simp only [amid] at h
    split at h
    · rename_i h1 h2
      cases h
      rcases List.mem_cons.mp hy with rfl | hy
      · exact h1
      · exact amid_true h2 y hy
    · rename_i h1 h2
      cases h
      rcases List.mem_cons.mp hy with rfl | hy
      · exact h1
      · exact amid_true h2 y hy
    · cases h
theorem sameOne_is {xs ys : List Str} {b : Bool} (h : sameOne xs ys = some b) : ∀ x ∈ xs, ∀ y ∈ ys, (x == y) = b := by
  unfold sameOne at h
  split at h
  · rename_i y
    intro x hx z hz
    simp only [List.mem_singleton] at hz
    subst hz
    have := amid_true h x hx
    cases b with
    | true => have := inS_iff.mp this; simp only [List.mem_singleton] at this; simp [this]
    | false => have := inS_false.mp this; simp only [List.mem_singleton] at this; simpa using this
  · cases h

section
variable {ρ : Rho} {fr : Frm} {kp : Kp} {st : St} {s : Shared} {ads : List Addr}
theorem ListsAt.mono {h h' : Heap} {ls : List (List AV)} (x : ListsAt ρ ads h ls) (k : Later ads h ads h') (l : ∀ a ∈ ads, ∀ o, h.get? a = some o → h'.get? a = some o) : ListsAt ρ ads h' ls :=
  ⟨x.1, fun i a xs h1 h2 => let ⟨vs, n, e, it⟩ := x.2 i a xs h1 h2; ⟨vs, n, l a (List.mem_of_getElem? h1) _ e, it.mono k⟩⟩
theorem SrcAt.mono {h h' : Heap} {S : Addr} (x : SrcAt h S) (k : ∀ o, h.get? S = some o → h'.get? S = some o) : SrcAt h' S :=
  let ⟨i, j, ti, tj, o, n, e, r⟩ := x; ⟨i, j, ti, tj, o, n, k _ e, r⟩

/-- nothing that stood is changed -/
theorem Core.ext (x : Core ρ kp st s ads) {h' : Heap} {tk : Nat} (k : ∀ b o, s.heap.get? b = some o → h'.get? b = some o) : Core ρ kp st { s with heap := h', toks := tk } ads := by
  refine ⟨x.lists.mono (Later.ext k) fun a _ o e => k a o e, fun ω e => ?_, fun S e => (x.src S e).mono fun o q => k _ _ q,
    fun b o hp => ⟨k _ _ (x.kept b o hp).1, (x.kept b o hp).2⟩, x.apart, x.lv, x.out⟩
  obtain ⟨i, W, r⟩ := x.words ω e
  exact ⟨i, W.ext k, r⟩
theorem Sim.ext (x : Sim ρ fr kp st s ads) {h' : Heap} {tk : Nat} (k : ∀ b o, s.heap.get? b = some o → h'.get? b = some o) : Sim ρ fr kp st { s with heap := h', toks := tk } ads := by
  obtain ⟨m, F, hm⟩ := x.loc
  exact ⟨x.toCore.ext k, ⟨m, frExt F k, fun y v e => let ⟨u, e', r⟩ := hm y v e; ⟨u, e', r.mono (Later.ext k)⟩⟩, x.new, x.off⟩
theorem Sim.toks (x : Sim ρ fr kp st s ads) (tk : Nat) : Sim ρ fr kp st { s with toks := tk } ads := Sim.ext (s := s) (h' := s.heap) (tk := tk) x fun _ _ e => e

theorem Sim.L_dict (x : Sim ρ fr kp st s ads) : ∃ o es ep, s.heap.get? fr.L = some o ∧ o.data = .dict es ep := by
  obtain ⟨m, F, _⟩ := x.loc
  obtain ⟨o, es, ep, h1, h2, _⟩ := F.ns
  exact ⟨o, es, ep, h1, h2⟩

/-- a name of the frame's own is stored -/
theorem Sim.store (x : Sim ρ fr kp st s ads) {y : Str} {u : Value} {v : AV} (r : RepV ρ ads s.heap u v) {m : Str → Option Value} (F : Fr fr.g fr.L s.heap m)
    (hm : ∀ x v, find x st.loc = some v → ∃ u, m x = some u ∧ RepV ρ ads s.heap u v) {h' : Heap} {tk : Nat} (hn : h'.Ns fr.L fun z => if z = y then some u else m z) (hs : Heap.SameBut fr.L s.heap h') :
    Sim ρ fr kp ⟨put y v st.loc, st.lists, st.ws⟩ { s with heap := h', toks := tk } ads ∧ Later ads s.heap ads h' := by
  obtain ⟨oL, es, ep, hL, hd⟩ := x.L_dict
  have ne : ∀ b o', s.heap.get? b = some o' → (∀ es ep, o'.data ≠ .dict es ep) → h'.get? b = some o' := fun b o' q hne =>
    (hs.2 b (by rintro rfl; rw [hL] at q; cases q; exact hne _ _ hd)).trans q
  have kt : Later ads s.heap ads h' := ⟨⟨[], by simp⟩, fun t vs n q => ne _ _ q (by intro _ _ z; cases z)⟩
  have off : ∀ b ∈ muts ρ ads, ∀ o, s.heap.get? b = some o → h'.get? b = some o := fun b hb o q => (hs.2 b (x.new b hb).2).trans q
  refine ⟨⟨⟨x.lists.mono kt fun a ha o q => off a ?_ o q, fun ω e => ?_, fun S e => (x.src S e).mono fun o q => off S (mem_src e) o q,
    fun b o hp => ⟨(hs.2 _ (x.off b o hp)).trans (x.kept b o hp).1, (x.kept b o hp).2⟩, x.apart, x.lv, x.out⟩, ⟨_, F.set hn hs, fun z w e => ?_⟩, x.new, x.off⟩, kt⟩
  · obtain ⟨i, hi⟩ := List.getElem?_of_mem ha; exact mem_ads hi
  · obtain ⟨i, W, M, p, nR⟩ := x.words ω e
    refine ⟨i, ⟨ne _ _ W.inst (by intro _ _ z; cases z), ?_, ?_, W.len, ?_, W.lt, W.small⟩, M, p, nR⟩
    · obtain ⟨ti, td, q⟩ := W.dict; exact ⟨ti, td, off _ (mem_wd e) _ q⟩
    · obtain ⟨n, q⟩ := W.rows; exact ⟨n, ne _ _ q (by intro _ _ z; cases z)⟩
    · intro j t a h1 h2
      obtain ⟨k1, k2, k3, n, q⟩ := W.tok j t a h1 h2
      exact ⟨k1, k2, k3, n, ne _ _ q (by intro _ _ z; cases z)⟩
  · rw [find_put] at e
    by_cases hz : z = y
    · rw [if_pos hz] at e; cases e; exact ⟨u, by simp [hz], r.mono kt⟩
    · rw [if_neg hz] at e
      obtain ⟨u', e', r'⟩ := hm z w e
      exact ⟨u', by simp [hz, e'], r'.mono kt⟩

/-- a new list -/
theorem Sim.newL (x : Sim ρ fr kp st s ads) {vs : List Value} {xs : List AV} (it : Items ρ ads s.heap vs xs) {h' : Heap} {tk n : Nat} {D : Addr} (k : ∀ b o, s.heap.get? b = some o → h'.get? b = some o)
    (hD : h'.get? D = some (listObj vs n)) (hf : s.heap.get? D = none) :
    Sim ρ fr kp ⟨st.loc, st.lists ++ [xs], st.ws⟩ { s with heap := h', toks := tk } (ads ++ [D]) ∧ Later ads s.heap (ads ++ [D]) h' ∧ RepV ρ (ads ++ [D]) h' (.ref D) (.lst st.lists.length) := by
  have kt : Later ads s.heap (ads ++ [D]) h' := ⟨⟨[D], rfl⟩, fun t vs n q => k _ _ q⟩
  have nD : D ∉ muts ρ ads := fun hm => by
    have : ∃ o, s.heap.get? D = some o := by
      unfold muts at hm
      simp only [List.mem_append] at hm
      rcases hm with (hm | hm) | hm
      · cases e : ρ.wd with
        | none => rw [e] at hm; simp at hm
        | some ω =>
          rw [e] at hm
          simp only [List.mem_singleton] at hm
          obtain ⟨i, W, _⟩ := x.words ω e
          obtain ⟨ti, td, q⟩ := W.dict
          exact ⟨_, hm ▸ q⟩
      · cases e : ρ.src with
        | none => rw [e] at hm; simp at hm
        | some S =>
          rw [e] at hm
          simp only [List.mem_singleton] at hm
          obtain ⟨i, j, ti, tj, oS, n, q, _⟩ := x.src S e
          exact ⟨_, hm ▸ q⟩
      · obtain ⟨i, hi⟩ := List.getElem?_of_mem hm
        have hl : i < st.lists.length := by rw [← x.lists.1]; exact (List.getElem?_eq_some_iff.mp hi).1
        obtain ⟨vs, n, q, _⟩ := x.lists.2 i D st.lists[i] hi (by simp [hl])
        exact ⟨_, q⟩
    obtain ⟨o, ho⟩ := this
    rw [hf] at ho; cases ho
  obtain ⟨m, F, hm⟩ := x.loc
  refine ⟨⟨⟨⟨by simp [x.lists.1], fun i a ys h1 h2 => ?_⟩, fun ω e => ?_, fun S e => (x.src S e).mono fun o q => k _ _ q, fun b o hp => ⟨k _ _ (x.kept b o hp).1, ?_⟩, ?_, x.lv, x.out⟩,
    ⟨m, frExt F k, fun y v e => let ⟨u, e', r⟩ := hm y v e; ⟨u, e', r.mono kt⟩⟩, fun a ha => ?_, x.off⟩, kt, .lst (by rw [← x.lists.1]; simp)⟩
  · by_cases hi : i < ads.length
    · rw [List.getElem?_append_left hi] at h1
      rw [List.getElem?_append_left (x.lists.1 ▸ hi)] at h2
      obtain ⟨vs', n', q, r⟩ := x.lists.2 i a ys h1 h2
      exact ⟨vs', n', k _ _ q, r.mono kt⟩
    · have hi' : i = ads.length := by
        have := (List.getElem?_eq_some_iff.mp h1).1
        simp at this; omega
      subst hi'
      rw [List.getElem?_append_right (Nat.le_refl _)] at h1
      rw [x.lists.1, List.getElem?_append_right (Nat.le_refl _)] at h2
      simp at h1 h2
      subst h1; subst h2
      exact ⟨vs, n, hD, it.mono kt⟩
  · obtain ⟨i, W, M, p, nR⟩ := x.words ω e
    refine ⟨i, W.ext k, M, p, ?_⟩
    rw [muts_app]
    simp only [List.mem_append, List.mem_singleton, not_or]
    refine ⟨nR, ?_⟩
    rintro rfl
    obtain ⟨n', q⟩ := W.rows
    rw [hf] at q; cases q
  · rw [muts_app]
    simp only [List.mem_append, List.mem_singleton, not_or]
    refine ⟨(x.kept b o hp).2, ?_⟩
    rintro rfl
    have := (x.kept b o hp).1
    rw [hf] at this; cases this
  · rw [muts_app]
    refine List.nodup_append.mpr ⟨x.apart, by simp, ?_⟩
    intro a ha b hb
    simp only [List.mem_singleton] at hb
    subst hb
    rintro rfl
    exact nD ha
  · rw [muts_app] at ha
    simp only [List.mem_append, List.mem_singleton] at ha
    rcases ha with ha | rfl
    · exact x.new a ha
    · refine ⟨?_, ?_⟩
      · cases q : fr.g.get? a with
        | none => rfl
        | some o => have := F.keep a o q; rw [hf] at this; cases this
      · rintro rfl
        obtain ⟨o, es, ep, hL, _⟩ := x.L_dict
        rw [hf] at hL; cases hL
end
end Mine

namespace Mine

structure Gl where
  prog : Program
  w : World
  p : Program
  loose : List Str
  mg : Str → Option Value
  mb : Str → Option Value
  cf : Cf
  ρ : Rho
  /-- the class of what is raised -/
  GF : Addr

structure FrmOk (G : Gl) (fr : Frm) (cx : Cx) : Prop where
  scope : fr.scope = cx.scope
  below : Below fr.A₀ fr.base fr.outer fr.g
  X : G.cf.K.In fr.g
  T : TopRead G.p G.loose G.mg G.mb fr.g
  kind : fr.scope.kind = .function
  hh : fr.A₀.handled = none
  dbg : find (Str.ofString "__debug__") cx.scope.names = none
  room : fr.A₀.depth + cx.cb + G.ρ.sz + 20 ≤ recursionLimit
  units : fr.A₀.units + 10 * (cx.cb + G.ρ.sz + 20) ≤ cLine
  ivs : G.ρ.ivs.length ≤ 1000

def Over (G : Gl) : Prop := 60 < G.ρ.d0 + G.cf.top ∨ 60 < G.ρ.d0 + G.cf.holeTop + G.ρ.e
def OutAs (s0 s : Shared) : Prop := s.gens = s0.gens ∧ s.drawn = s0.drawn ∧ s.os = s0.os
/-- an exception of the class flies here -/
def Flies (G : Gl) (fr : Frm) (x : Value) (s : Shared) : Prop :=
  ∃ e a0, x = .ref e ∧ (Heap.FlyingW fr.base (fr.env :: fr.outer) e (.ref G.GF) a0 s.heap ∨ Heap.HeldW fr.base (fr.env :: fr.outer) e (.ref G.GF) a0 fr.L s.heap) ∧ fr.g.UpToSlots s.heap ∧ OutAs G.ρ.s0 s
def Exc (G : Gl) (fr : Frm) (x : Value) (s : Shared) : Prop := Over G ∧ Flies G fr x s

section
variable (ρ : Rho) (fr : Frm) (kp : Kp) (s : Shared) (ads : List Addr)
def Post (k : AV → St → Bool) (v : Value) (s' : Shared) : Prop := ∃ x st ads', RepV ρ ads' s'.heap v x ∧ Sim ρ fr kp st s' ads' ∧ Later ads s.heap ads' s'.heap ∧ k x st = true
def PostB (k : Bool → St → Bool) (c : Bool) (s' : Shared) : Prop := ∃ st ads', Sim ρ fr kp st s' ads' ∧ Later ads s.heap ads' s'.heap ∧ k c st = true
inductive RepVs (ads : List Addr) (h : Heap) : List Value → List AV → Prop
  | nil : RepVs ads h [] []
  | cons {v : Value} {x : AV} {vs : List Value} {xs : List AV} : RepV ρ ads h v x → RepVs ads h vs xs → RepVs ads h (v :: vs) (x :: xs)
def PostL (k : List AV → St → Bool) (vs : List Value) (s' : Shared) : Prop := ∃ xs st ads', RepVs ρ ads' s'.heap vs xs ∧ Sim ρ fr kp st s' ads' ∧ Later ads s.heap ads' s'.heap ∧ k xs st = true
inductive RepF (ads : List Addr) (h : Heap) : Flow → Fl → Prop
  | next : RepF ads h .next .next
  | brk : RepF ads h .brk .brk
  | ret {v : Value} {x : AV} : RepV ρ ads h v x → RepF ads h (.ret v) (.ret x)
def PostF (k : Fl → St → Bool) (f : Flow) (s' : Shared) : Prop := ∃ x st ads', RepF ρ ads' s'.heap f x ∧ Sim ρ fr kp st s' ads' ∧ Later ads s.heap ads' s'.heap ∧ k x st = true
end
theorem RepVs.mono {ρ : Rho} {ads ads' : List Addr} {h h' : Heap} (k : Later ads h ads' h') {vs : List Value} {xs : List AV} (r : RepVs ρ ads h vs xs) : RepVs ρ ads' h' vs xs := by
  induction r with
  | nil => exact .nil
  | cons q _ ih => exact .cons (q.mono k) ih
theorem RepVs.items {ρ : Rho} {ads : List Addr} {h : Heap} {vs : List Value} {xs : List AV} (r : RepVs ρ ads h vs xs) : Items ρ ads h vs xs := by
  induction r with
  | nil => exact .nil
  | cons q _ ih => exact .cons q ih
theorem RepVs.length {ρ : Rho} {ads : List Addr} {h : Heap} {vs : List Value} {xs : List AV} (r : RepVs ρ ads h vs xs) : vs.length = xs.length := by
  induction r with
  | nil => rfl
  | cons q _ ih => simp [ih]
theorem RepVs.at {ρ : Rho} {ads : List Addr} {h : Heap} {vs : List Value} {xs : List AV} (r : RepVs ρ ads h vs xs) : ∀ (i : Nat) v x, vs[i]? = some v → xs[i]? = some x → RepV ρ ads h v x := by
  induction r with
  | nil => intro i v x h1; simp at h1
  | cons q _ ih =>
    intro i v x h1 h2
    cases i with
    | zero => simp at h1 h2; subst h1; subst h2; exact q
    | succ i => exact ih i v x (by simpa using h1) (by simpa using h2)
theorem RepVs.of_at {ρ : Rho} {ads : List Addr} {h : Heap} : ∀ {vs : List Value} {xs : List AV}, vs.length = xs.length → (∀ (i : Nat) v x, vs[i]? = some v → xs[i]? = some x → RepV ρ ads h v x) → RepVs ρ ads h vs xs
  | [], [], _, _ => .nil
  | [], _ :: _, e, _ => by simp at e
  | _ :: _, [], e, _ => by simp at e
  | v :: vs, x :: xs, e, k => .cons (k 0 v x rfl rfl) (RepVs.of_at (by simpa using e) fun i v x h1 h2 => k (i + 1) v x (by simpa using h1) (by simpa using h2))
theorem Items.plain {ρ : Rho} {ads : List Addr} {h : Heap} {vs : List Value} {xs : List AV} (r : Items ρ ads h vs xs) (e : plainItems xs = true) : RepVs ρ ads h vs xs := by
  induction r with
  | nil => exact .nil
  | cons q _ ih =>
    rename_i v x vs xs _
    have : plainItems xs = true := by cases x <;> first | exact e | cases q
    exact .cons q (ih this)
  | inner _ ih => cases e

theorem Post.later {ρ : Rho} {fr : Frm} {kp : Kp} {s s₁ : Shared} {ads ads₁ : List Addr} {k : AV → St → Bool} {v : Value} {s' : Shared} (l : Later ads s.heap ads₁ s₁.heap) (x : Post ρ fr kp s₁ ads₁ k v s') : Post ρ fr kp s ads k v s' :=
  let ⟨y, st, ads', a, b, c, d⟩ := x; ⟨y, st, ads', a, b, l.trans c, d⟩
theorem PostB.later {ρ : Rho} {fr : Frm} {kp : Kp} {s s₁ : Shared} {ads ads₁ : List Addr} {k : Bool → St → Bool} {v : Bool} {s' : Shared} (l : Later ads s.heap ads₁ s₁.heap) (x : PostB ρ fr kp s₁ ads₁ k v s') : PostB ρ fr kp s ads k v s' :=
  let ⟨st, ads', b, c, d⟩ := x; ⟨st, ads', b, l.trans c, d⟩
theorem PostL.later {ρ : Rho} {fr : Frm} {kp : Kp} {s s₁ : Shared} {ads ads₁ : List Addr} {k : List AV → St → Bool} {v : List Value} {s' : Shared} (l : Later ads s.heap ads₁ s₁.heap) (x : PostL ρ fr kp s₁ ads₁ k v s') : PostL ρ fr kp s ads k v s' :=
  let ⟨y, st, ads', a, b, c, d⟩ := x; ⟨y, st, ads', a, b, l.trans c, d⟩
theorem PostF.later {ρ : Rho} {fr : Frm} {kp : Kp} {s s₁ : Shared} {ads ads₁ : List Addr} {k : Fl → St → Bool} {v : Flow} {s' : Shared} (l : Later ads s.heap ads₁ s₁.heap) (x : PostF ρ fr kp s₁ ads₁ k v s') : PostF ρ fr kp s ads k v s' :=
  let ⟨y, st, ads', a, b, c, d⟩ := x; ⟨y, st, ads', a, b, l.trans c, d⟩
/-- an end: nothing but counters has changed -/
theorem Post.here {ρ : Rho} {fr : Frm} {kp : Kp} {st : St} {s : Shared} {ads : List Addr} {k : AV → St → Bool} {v : Value} {x : AV} (S : Sim ρ fr kp st s ads) (r : RepV ρ ads s.heap v x) (e : k x st = true) (tk : Nat) :
    Post ρ fr kp s ads k v { s with toks := tk } := ⟨x, st, ads, r, S.toks tk, Later.refl _ _, e⟩
theorem Post.now {ρ : Rho} {fr : Frm} {kp : Kp} {st : St} {s : Shared} {ads : List Addr} {k : AV → St → Bool} {v : Value} {x : AV} (S : Sim ρ fr kp st s ads) (r : RepV ρ ads s.heap v x) (e : k x st = true) :
    Post ρ fr kp s ads k v s := ⟨x, st, ads, r, S, Later.refl _ _, e⟩

/-- what is laid back of a call: all that stood and may not be changed stands -/
def AllBut (ρ : Rho) (s : Shared) (ads : List Addr) : Kp := fun b o => s.heap.get? b = some o ∧ b ∉ muts ρ ads
def PostC (ρ : Rho) (loc : List (Str × AV)) (s : Shared) (ads : List Addr) (k : AV → St → Bool) (v : Value) (s' : Shared) : Prop :=
  ∃ x st ads', RepV ρ ads' s'.heap v x ∧ Core ρ (AllBut ρ s ads) st s' ads' ∧ Later ads s.heap ads' s'.heap ∧ st.loc = loc ∧ k x st = true

/-- the run is sound up to n -/
structure Snd (G : Gl) (n : Nat) : Prop where
  e : ∀ {fr kp cx st s ads x k}, run G.cf n (.e x k) cx st = true → FrmOk G fr cx → Sim G.ρ fr kp st s ads →
    wpAny (model G.prog G.w) fr.A (eval x fr.env) (Post G.ρ fr kp s ads k) (Exc G fr) s
  t : ∀ {fr kp cx st s ads x k}, run G.cf n (.t x k) cx st = true → FrmOk G fr cx → Sim G.ρ fr kp st s ads →
    wpAny (model G.prog G.w) fr.A (isTrue x fr.env (eval x fr.env)) (PostB G.ρ fr kp s ads k) (Exc G fr) s
  as : ∀ {fr kp cx st s ads xs k} {pos : Pos}, run G.cf n (.as xs k) cx st = true → noStar xs = true → FrmOk G fr cx → Sim G.ρ fr kp st s ads →
    wpAny (model G.prog G.w) fr.A (spliced (backTo pos (starEach xs fr.env))) (PostL G.ρ fr kp s ads k) (Exc G fr) s
  s : ∀ {fr kp cx st s ads x k}, run G.cf n (.s x k) cx st = true → FrmOk G fr cx → Sim G.ρ fr kp st s ads →
    wpAny (model G.prog G.w) fr.A (exec x fr.env) (PostF G.ρ fr kp s ads k) (Exc G fr) s
  ss : ∀ {fr kp cx st s ads xs k}, run G.cf n (.ss xs k) cx st = true → FrmOk G fr cx → Sim G.ρ fr kp st s ads →
    wpAny (model G.prog G.w) fr.A (execs xs fr.env) (PostF G.ρ fr kp s ads k) (Exc G fr) s
  call : ∀ {fr cx st s ads f vs xs k} {m : Str → Option Value}, run G.cf n (.call f xs k) cx st = true → FrmOk G fr cx → Fr fr.g fr.L s.heap m → (∀ a ∈ muts G.ρ ads, fr.g.get? a = none ∧ a ≠ fr.L) →
    Core G.ρ (AllBut G.ρ s ads) st s ads → RepVs G.ρ ads s.heap vs xs →
    wpAny (model G.prog G.w) fr.A (call (.ref f) vs) (PostC G.ρ st.loc s ads k) (Exc G fr) s

section
variable {G : Gl} {fr : Frm} {kp : Kp} {cx : Cx} {st : St} {s : Shared} {ads : List Addr}
theorem FrmOk.kindOf (O : FrmOk G fr cx) (x : Str) : fr.env.kindOf x = find x cx.scope.names := by
  show fr.scope.names.lookup x = _
  rw [find_eq, O.scope]
theorem local_kind (O : FrmOk G fr cx) {x : Str} (h : isLocal cx x = true) : fr.env.kindOf x = some .local := by
  rw [O.kindOf]; unfold isLocal at h; split at h <;> first | assumption | cases h
theorem global_kind (O : FrmOk G fr cx) {x : Str} (h : isGlobal cx x = true) : fr.env.kindOf x = some .globalImplicit := by
  rw [O.kindOf]; unfold isGlobal at h; split at h <;> first | assumption | cases h
theorem not_debug (O : FrmOk G fr cx) {x : Str} {k : NameKind} (h : fr.env.kindOf x = some k) : (x == ("__debug__" : Str)) = false := by
  rw [← eqS_eq, eqS_false]
  rintro rfl
  rw [O.kindOf, O.dbg] at h; cases h

theorem mapO_at {α β : Type} {f : α → Option β} : ∀ {l : List α} {r : List β}, mapO f l = some r → l.length = r.length ∧ ∀ (i : Nat) a b, l[i]? = some a → r[i]? = some b → f a = some b
  | [], r, h => by cases h; exact ⟨rfl, fun i a b h => by simp at h⟩
  | x :: l, r, h => by
    simp only [mapO] at h
    split at h
    · rename_i y r' h1 h2
      cases h
      obtain ⟨e, k⟩ := mapO_at h2
      refine ⟨by simp [e], fun i a b h3 h4 => ?_⟩
      cases i with
      | zero => simp at h3 h4; subst h3; subst h4; exact h1
      | succ i => exact k i a b (by simpa using h3) (by simpa using h4)
    · cases h
theorem litV_rep {K : Frag} {ρ : Rho} {ads : List Addr} {h : Heap} (X : K.In h) : ∀ (n : Nat) {v : Value} {x : AV}, litV K n v = some x → RepV ρ ads h v x := by
  intro n
  induction n with
  | zero => intro v x e; cases v <;> cases e
  | succ n ih =>
    intro v x e
    cases v with
    | none => cases e; exact .none
    | bool b => cases e; exact .bool b
    | int i t => cases e; exact .int i t
    | str y t => cases e; exact .str t (by simp)
    | ref a =>
      simp only [litV] at e
      split at e
      · rename_i items ep sl ho
        split at e
        · rename_i l hs hl
          cases e
          have hm := X _ _ ho
          have hsl : sl = #[] := Array.toList_inj.mp (by simpa using hs)
          subst hsl
          obtain ⟨hlen, hat⟩ := mapO_at hl
          refine RepV.tup (vs := items.toList) (n := ep) (by simpa using hm) hlen fun i v x h1 h2 => ih (hat i v x h1 h2)
        · cases e
      · cases e
    | _ => cases e

theorem globA_rep (O : FrmOk G fr cx) (S : Sim G.ρ fr kp st s ads) {id : Str} {x : AV} (h : globA G.cf id = some x) : ∃ v, nsIn G.cf.K mainGlobals id = some (some v) ∧ RepV G.ρ ads s.heap v x := by
  unfold globA at h
  split at h
  · rename_i v hv
    obtain ⟨m, F, _⟩ := S.loc
    exact ⟨v, hv, litV_rep (O.X.keeps F.keep) _ h⟩
  · cases h

theorem e_name (O : FrmOk G fr cx) (S : Sim G.ρ fr kp st s ads) {id : Str} {pos : Pos} {k : KV} (h : eName G.cf id k cx st = true) :
    wpAny (model G.prog G.w) fr.A (eval (.Name id pos) fr.env) (Post G.ρ fr kp s ads k) (Exc G fr) s := by
  unfold eName at h
  obtain ⟨m, F, hm⟩ := S.loc
  split at h
  · rename_i hl
    split at h
    · rename_i v hv
      obtain ⟨u, hu, r⟩ := hm _ _ hv
      exact ld F hu (Post.now S r h) O.kind (local_kind O hl) (not_debug O (local_kind O hl))
    · cases h
  · split at h
    · rename_i hg
      split at h
      · rename_i v hv
        obtain ⟨u, hu, r⟩ := globA_rep O S hv
        exact name_K F O.X O.T hu (Post.now S r h) O.kind (global_kind O hg) (not_debug O (global_kind O hg))
      · cases h
    · cases h

theorem e_const (S : Sim G.ρ fr kp st s ads) {c : Const} {a : Nat} {pos : Pos} {k : KV} (h : eConst c k st = true) :
    wpAny (model G.prog G.w) fr.A (eval (.Constant c a pos) fr.env) (Post G.ρ fr kp s ads k) (Exc G fr) s := by
  unfold eConst at h
  split at h
  · exact Constant_none (Post.now S .none h)
  · exact Constant_bool (Post.now S (.bool _) h)
  · exact wpAny_Constant_int (Post.here S (.int _ _) h _)
  · exact wpAny_Constant_str (Post.here S (.str _ (by simp)) h _)
  · cases h

theorem allStr_of : ∀ {xs : List AV} {l : List Str}, allStr xs = some l → xs = l.map fun x => .str [x]
  | [], l, h => by cases h; rfl
  | x :: r, l, h => by
    cases x with
    | str ss =>
      cases ss with
      | nil => cases h
      | cons y t =>
        cases t with
        | cons _ _ => cases h
        | nil =>
          simp only [allStr] at h
          split at h
          · rename_i l' hl; cases h; rw [allStr_of hl]; rfl
          · cases h
    | _ => cases h
theorem rep_strs {ρ : Rho} {ads : List Addr} {h : Heap} {vs : List Value} {l : List Str} (e : vs.length = (l.map fun x => AV.str [x]).length)
    (k : ∀ (i : Nat) v x, vs[i]? = some v → (l.map fun x => AV.str [x])[i]? = some x → RepV ρ ads h v x) : ∀ (i : Nat) v, vs[i]? = some v → ∃ x t, l[i]? = some x ∧ v = .str x t := by
  intro i v hv
  have hi : i < l.length := by
    have := (List.getElem?_eq_some_iff.mp hv).1
    simpa [e] using this
  have := k i v (.str [l[i]]) hv (by simp [hi])
  generalize hx : AV.str [l[i]] = x at this
  cases this with
  | str t hm => cases hx; simp at hm; exact ⟨l[i], t, by simp [hi], by rw [hm]⟩
  | _ => cases hx

end
end Mine

namespace Mine
section
variable {G : Gl} {fr : Frm} {kp : Kp} {cx : Cx} {st : St} {s : Shared} {ads : List Addr}

theorem any_str {x : Str} {vs : List Value} {l : List Str} (hl : vs.length = l.length) (k : ∀ (i : Nat) v, vs[i]? = some v → ∃ x t, l[i]? = some x ∧ v = .str x t) :
    vs.toArray.any (isStrOf x) = inS x l := by
  have : ∀ (vs : List Value) (l : List Str), vs.length = l.length → (∀ (i : Nat) v, vs[i]? = some v → ∃ x t, l[i]? = some x ∧ v = .str x t) → vs.any (isStrOf x) = inS x l := by
    intro vs
    induction vs with
    | nil => intro l h _; cases l with
      | nil => rfl
      | cons _ _ => simp at h
    | cons v vs ih =>
      intro l h k
      cases l with
      | nil => simp at h
      | cons y l =>
        obtain ⟨z, u, h1, h2⟩ := k 0 v rfl
        simp at h1
        subst h1; subst h2
        have := ih l (by simpa using h) fun i v hv => by
          obtain ⟨z, u, h1, h2⟩ := k (i + 1) v (by simpa using hv)
          exact ⟨z, u, by simpa using h1, h2⟩
        rw [List.any_cons, this]
        show (y == x || inS x l) = (match eqS x y with | true => true | false => inS x l)
        rw [eqS_eq]
        by_cases h : x = y
        · subst h; simp
        · have h' : (x == y) = false := by simpa using h
          have h'' : (y == x) = false := by simpa using Ne.symm h
          rw [h', h'']; rfl
  rw [← this vs l hl k]
  simp

theorem cmp_rule {A : Around} {E : Value → Shared → Prop} {op : CmpOp} {u v : Value} {a b : AV} {c : Bool} (ra : RepV G.ρ ads s.heap u a) (rb : RepV G.ρ ads s.heap v b) (h : cmpA op a b = some c) :
    wpAny (model G.prog G.w) A (compareOp op u v) (fun y s' => y = .bool c ∧ s' = s) E s := by
  have tup : ∀ {xs : List Str} {ys : List AV} {l : List Str}, a = .str xs → b = .tup ys → allStr ys = some l → ∃ x t T vs n, u = .str x t ∧ x ∈ xs ∧ v = .ref T ∧ s.heap.get? T = some (tupObj vs n) ∧ (vs.length = l.length) ∧ (∀ (i : Nat) v, vs[i]? = some v → ∃ x t, l[i]? = some x ∧ v = .str x t) := by
    rintro xs ys l rfl rfl hl
    cases ra with
    | str t hx =>
      rename_i x
      cases rb with
      | tup hT hlen hat =>
        rename_i T vs n
        have := allStr_of hl
        subst this
        exact ⟨x, t, T, vs, n, rfl, hx, rfl, hT, by simpa using hlen, rep_strs hlen hat⟩
  unfold cmpA at h
  split at h
  · split at h
    · cases ra with
      | str t hx => cases rb with
        | str t' hy => exact eq_str ⟨by rw [sameOne_is h _ hx _ hy], rfl⟩
    · cases ra with
      | int i t => cases rb with
        | int j t' => cases h; exact PyProof.Rows.eq_int ⟨by unfold intEq; rfl, rfl⟩
    · cases h
  · split at h
    · split at h
      · rename_i c' hc
        cases h
        cases ra with
        | str t hx => cases rb with
          | str t' hy => exact ne_str ⟨by rw [← sameOne_is hc _ hx _ hy]; rfl, rfl⟩
      · cases h
    · cases ra with
      | int i t => cases rb with
        | int j t' => cases h; exact PyProof.Rows.ne_int ⟨by unfold intEq; rfl, rfl⟩
    · cases h
  · split at h
    · cases ra with
      | int i t => cases rb with
        | int j t' => cases h; exact PyProof.Rows.lt_int ⟨by unfold intLt; rfl, rfl⟩
    · cases h
  · split at h
    · split at h
      · rename_i xs ys l hl
        obtain ⟨x, t, T, vs, n, rfl, hx, rfl, hT, hlen, hk⟩ := tup rfl rfl hl
        refine SeqRoads2.in_tuple (isStrOf x) (fun y hy => ?_) hT ⟨?_, rfl⟩
        · obtain ⟨i, hi⟩ := List.getElem?_of_mem (by simpa using hy : y ∈ vs)
          obtain ⟨z, u, _, rfl⟩ := hk i y hi
          exact PyProof.Rows.eqGives_str z x u t
        · rw [any_str hlen hk, amid_true h x hx]
      · cases h
    · cases h
  · split at h
    · split at h
      · rename_i xs ys l hl
        split at h
        · rename_i c' hc
          cases h
          obtain ⟨x, t, T, vs, n, rfl, hx, rfl, hT, hlen, hk⟩ := tup rfl rfl hl
          refine SeqRoads2.notIn_tuple (isStrOf x) (fun y hy => ?_) hT ⟨?_, rfl⟩
          · obtain ⟨i, hi⟩ := List.getElem?_of_mem (by simpa using hy : y ∈ vs)
            obtain ⟨z, u, _, rfl⟩ := hk i y hi
            exact PyProof.Rows.eqGives_str z x u t
          · rw [any_str hlen hk, amid_true hc x hx]
        · cases h
      · cases h
    · cases h
  · split at h
    · cases ra; cases rb; cases h; exact is_none_gen ⟨rfl, rfl⟩
    · cases ra; cases rb; cases h; exact is_none_gen ⟨rfl, rfl⟩
    · cases ra; cases rb; cases h; exact is_none_gen ⟨rfl, rfl⟩
    · cases h
  · split at h
    · cases ra; cases rb; cases h; exact isnot_none_gen ⟨rfl, rfl⟩
    · cases ra; cases rb; cases h; exact isnot_none_gen ⟨rfl, rfl⟩
    · cases ra; cases rb; cases h; exact isnot_none_gen ⟨rfl, rfl⟩
    · cases h
  · cases h

theorem truth_rule {A : Around} {E : Value → Shared → Prop} {v : Value} {x : AV} {c : Bool} (r : RepV G.ρ ads s.heap v x) (h : truth x = some c) :
    wpAny (model G.prog G.w) A (truthy v) (fun y s' => y = c ∧ ∃ tk, s' = { s with toks := tk }) E s := by
  unfold truth at h
  split at h
  · cases r; cases h; exact PyProof.Rows.truthy_none ⟨rfl, s.toks, rfl⟩
  · cases r; cases h; exact wpAny_truthy_bool ⟨rfl, s.toks, rfl⟩
  · cases h
end
end Mine

namespace Mine
section
variable {G : Gl} {fr : Frm} {kp : Kp} {cx : Cx} {st : St} {s : Shared} {ads : List Addr} {n : Nat}

theorem e_cmp (H : Snd G n) (O : FrmOk G fr cx) (S : Sim G.ρ fr kp st s ads) {l : Expr} {ops : List CmpOp} {rs : List Expr} {pos : Pos} {k : KV} (h : eCmp (run G.cf n) l ops rs k cx st = true) :
    wpAny (model G.prog G.w) fr.A (eval (.Compare l ops rs pos) fr.env) (Post G.ρ fr kp s ads k) (Exc G fr) s := by
  unfold eCmp at h
  split at h
  · split at h
    · cases h
    · rename_i hm
      refine wpAny_Compare1 (wpAny_mono (H.e h O S) (fun a s₁ h₁ => ?_) fun _ _ e => e) hm
      obtain ⟨xa, st₁, ads₁, ra, S₁, l₁, h₁⟩ := h₁
      refine wpAny_mono (H.e h₁ O S₁) (fun b s₂ h₂ => ?_) fun _ _ e => e
      obtain ⟨xb, st₂, ads₂, rb, S₂, l₂, h₂⟩ := h₂
      dsimp only at h₂
      unfold kCmp at h₂
      split at h₂
      · rename_i c hc
        refine wpAny_mono (cmp_rule (ra.mono l₂) rb hc) (fun y s' e => ?_) fun _ _ e => e
        obtain ⟨rfl, rfl⟩ := e
        exact (Post.now S₂ (.bool c) h₂).later (l₁.trans l₂)
      · cases h₂
  · cases h

theorem e_bool (H : Snd G n) (O : FrmOk G fr cx) (S : Sim G.ρ fr kp st s ads) {op : BoolOp} {es : List Expr} {pos : Pos} {k : KV} (h : eBool (run G.cf n) op es pos k cx st = true) :
    wpAny (model G.prog G.w) fr.A (eval (.BoolOp op es pos) fr.env) (Post G.ρ fr kp s ads k) (Exc G fr) s := by
  unfold eBool at h
  split at h
  · exact BoolOp_one (H.e h O S)
  · cases op with
    | And =>
      refine BoolOp_and (wpAny_mono (H.e h O S) (fun v s₁ h₁ => ?_) fun _ _ e => e)
      obtain ⟨x, st₁, ads₁, r, S₁, l₁, h₁⟩ := h₁
      dsimp only at h₁
      unfold kBool at h₁
      cases ht : truth x with
      | none => rw [ht] at h₁; cases h₁
      | some c =>
        rw [ht] at h₁
        refine wpAny_mono (truth_rule r ht) (fun y s' e => ?_) fun _ _ e => e
        obtain ⟨rfl, tk, rfl⟩ := e
        cases y with
        | true => exact wpAny_mono (H.e h₁ O (S₁.toks tk)) (fun _ _ p => p.later l₁) fun _ _ e => e
        | false => exact (Post.here S₁ r h₁ tk).later l₁
    | Or =>
      refine BoolOp_or (wpAny_mono (H.e h O S) (fun v s₁ h₁ => ?_) fun _ _ e => e)
      obtain ⟨x, st₁, ads₁, r, S₁, l₁, h₁⟩ := h₁
      dsimp only at h₁
      unfold kBool at h₁
      cases ht : truth x with
      | none => rw [ht] at h₁; cases h₁
      | some c =>
        rw [ht] at h₁
        refine wpAny_mono (truth_rule r ht) (fun y s' e => ?_) fun _ _ e => e
        obtain ⟨rfl, tk, rfl⟩ := e
        cases y with
        | true => exact (Post.here S₁ r h₁ tk).later l₁
        | false => exact wpAny_mono (H.e h₁ O (S₁.toks tk)) (fun _ _ p => p.later l₁) fun _ _ e => e
  · cases h

theorem e_un (H : Snd G n) (O : FrmOk G fr cx) (S : Sim G.ρ fr kp st s ads) {op : UnaryOp} {e : Expr} {pos : Pos} {k : KV} (h : run G.cf n (.e e fun v st => kUn op k v st) cx st = true) :
    wpAny (model G.prog G.w) fr.A (eval (.UnaryOp op e pos) fr.env) (Post G.ρ fr kp s ads k) (Exc G fr) s := by
  refine UnaryOp_ (wpAny_mono (H.e h O S) (fun v s₁ h₁ => ?_) fun _ _ e => e)
  obtain ⟨x, st₁, ads₁, r, S₁, l₁, h₁⟩ := h₁
  dsimp only at h₁
  unfold kUn at h₁
  split at h₁
  · split at h₁
    · rename_i c hc
      refine not_of (wpAny_mono (truth_rule r hc) (fun y s' e => ?_) fun _ _ e => e)
      obtain ⟨rfl, tk, rfl⟩ := e
      exact (Post.here S₁ (.bool _) h₁ tk).later l₁
    · cases h₁
  · split at h₁
    · cases r with
      | int i t => exact PyProof.Rows.neg_int ((Post.here S₁ (.int _ _) h₁ _).later l₁)
    · cases h₁
  · cases h₁

theorem e_if (H : Snd G n) (O : FrmOk G fr cx) (S : Sim G.ρ fr kp st s ads) {t b o : Expr} {pos : Pos} {k : KV} (h : eIf (run G.cf n) t b o k cx st = true) :
    wpAny (model G.prog G.w) fr.A (eval (.IfExp t b o pos) fr.env) (Post G.ρ fr kp s ads k) (Exc G fr) s := by
  unfold eIf at h
  refine IfExp_ (wpAny_mono (H.t h O S) (fun c s₁ h₁ => ?_) fun _ _ e => e)
  obtain ⟨st₁, ads₁, S₁, l₁, h₁⟩ := h₁
  cases c with
  | true => exact wpAny_mono (H.e h₁ O S₁) (fun _ _ p => p.later l₁) fun _ _ e => e
  | false => exact wpAny_mono (H.e h₁ O S₁) (fun _ _ p => p.later l₁) fun _ _ e => e

theorem size_ok {vs : List Value} {k : Nat} (h : vs.length = k) (hb : Nat.ble k 1000 = true) : vs.length ≤ sizeLine := by
  have := Nat.le_of_ble_eq_true hb
  rw [sizeLine_eq]; omega

theorem e_tup (H : Snd G n) (O : FrmOk G fr cx) (S : Sim G.ρ fr kp st s ads) {es : List Expr} {a : Nat} {pos : Pos} {k : KV} (h : eTup (run G.cf n) es k cx st = true) :
    wpAny (model G.prog G.w) fr.A (eval (.Tuple es a pos) fr.env) (Post G.ρ fr kp s ads k) (Exc G fr) s := by
  unfold eTup at h
  split at h
  · rename_i hs
    refine Tuple_ (wpAny_mono (H.as h hs O S) (fun vs s₁ h₁ => ?_) fun _ _ e => e)
    obtain ⟨xs, st₁, ads₁, r, S₁, l₁, h₁⟩ := h₁
    dsimp only at h₁
    unfold kTup at h₁
    split at h₁
    · rename_i hb
      have hk : ∀ b o, s₁.heap.get? b = some o → (s₁.heap.push (tupObj vs 0)).get? b = some o := fun b o e => Heap.get?_push_of_some _ e
      refine wpAny_newObj_type (T := "tuple") (data := .seq vs.toArray) (dict := none) ?_ (by show vs.toArray.size ≤ sizeLine; rw [List.size_toArray]; exact size_ok r.length hb)
      exact ⟨.tup xs, st₁, ads₁, .tup (n := 0) (Heap.get?_push_size _ rfl) r.length fun i v x h1 h2 => (r.at i v x h1 h2).mono (Later.ext hk), S₁.ext (tk := s₁.toks) hk, l₁.trans (Later.ext hk), h₁⟩
    · cases h₁
  · cases h

theorem e_list (H : Snd G n) (O : FrmOk G fr cx) (S : Sim G.ρ fr kp st s ads) {es : List Expr} {pos : Pos} {k : KV} (h : eList (run G.cf n) es k cx st = true) :
    wpAny (model G.prog G.w) fr.A (eval (.List es pos) fr.env) (Post G.ρ fr kp s ads k) (Exc G fr) s := by
  unfold eList at h
  split at h
  · rename_i hs
    refine List_ (wpAny_mono (H.as h hs O S) (fun vs s₁ h₁ => ?_) fun _ _ e => e)
    obtain ⟨xs, st₁, ads₁, r, S₁, l₁, h₁⟩ := h₁
    dsimp only at h₁
    unfold kList at h₁
    split at h₁
    · rename_i _ hb
      have hk : ∀ b o, s₁.heap.get? b = some o → (s₁.heap.push (listObj vs 0)).get? b = some o := fun b o e => Heap.get?_push_of_some _ e
      refine wpAny_newObj_type (T := "list") (data := .seq vs.toArray) (dict := none) ?_ (by show vs.toArray.size ≤ sizeLine; rw [List.size_toArray]; exact size_ok r.length hb)
      obtain ⟨S₂, l₂, r₂⟩ := S₁.newL (tk := s₁.toks) r.items hk (Heap.get?_push_size s₁.heap rfl) (Heap.get?_none_of_le (Nat.le_refl _))
      exact ⟨_, _, _, r₂, S₂, l₁.trans l₂, h₁⟩
    · cases h₁
  · cases h

theorem as_rule (H : Snd G n) (O : FrmOk G fr cx) (S : Sim G.ρ fr kp st s ads) {xs : List Expr} {pos : Pos} {k : List AV → St → Bool} (h : stAs (run G.cf n) xs k cx st = true) (hs : noStar xs = true) :
    wpAny (model G.prog G.w) fr.A (spliced (backTo pos (starEach xs fr.env))) (PostL G.ρ fr kp s ads k) (Exc G fr) s := by
  unfold stAs at h
  cases xs with
  | nil => exact args_nil ⟨[], st, ads, .nil, S, Later.refl _ _, h⟩
  | cons e r =>
    have hs' : isStar e = false ∧ noStar r = true := by
      unfold noStar at hs
      split at hs
      · cases hs
      · rename_i q; exact ⟨q, hs⟩
    refine args_cons (wpAny_mono (H.e h O S) (fun v s₁ h₁ => ?_) fun _ _ e => e) (by cases e <;> first | rfl | cases hs'.1)
    obtain ⟨x, st₁, ads₁, ra, S₁, l₁, h₁⟩ := h₁
    refine wpAny_mono (H.as h₁ hs'.2 O S₁) (fun vs s₂ h₂ => ?_) fun _ _ e => e
    obtain ⟨ys, st₂, ads₂, rs, S₂, l₂, h₂⟩ := h₂
    exact ⟨x :: ys, st₂, ads₂, .cons (ra.mono l₂) rs, S₂, l₁.trans l₂, h₂⟩
end
end Mine

namespace Mine
section
variable {G : Gl} {fr : Frm} {kp : Kp} {cx : Cx} {st : St} {s : Shared} {ads : List Addr} {n : Nat}

theorem t_plain (H : Snd G n) (O : FrmOk G fr cx) (S : Sim G.ρ fr kp st s ads) {x : Expr} {k : KB} (h : tPlain (run G.cf n) x k cx st = true)
    (he : isTrue x fr.env (eval x fr.env) = (do let v ← eval x fr.env; standAt x.pos; holding [v] (truthy v))) :
    wpAny (model G.prog G.w) fr.A (isTrue x fr.env (eval x fr.env)) (PostB G.ρ fr kp s ads k) (Exc G fr) s := by
  unfold tPlain at h
  refine isTrue_plain (wpAny_mono (H.e h O S) (fun v s₁ h₁ => ?_) fun _ _ e => e) he
  obtain ⟨y, st₁, ads₁, r, S₁, l₁, h₁⟩ := h₁
  dsimp only at h₁
  unfold kTruth at h₁
  split at h₁
  · rename_i c hc
    refine wpAny_mono (truth_rule r hc) (fun y s' e => ?_) fun _ _ e => e
    obtain ⟨rfl, tk, rfl⟩ := e
    exact ⟨st₁, ads₁, S₁.toks tk, l₁, h₁⟩
  · cases h₁

theorem t_rule (H : Snd G n) (O : FrmOk G fr cx) (S : Sim G.ρ fr kp st s ads) {x : Expr} {k : KB} (h : stT (run G.cf n) x k cx st = true) :
    wpAny (model G.prog G.w) fr.A (isTrue x fr.env (eval x fr.env)) (PostB G.ρ fr kp s ads k) (Exc G fr) s := by
  cases x with
  | UnaryOp op e pos =>
    change tUn (run G.cf n) op e k cx st = true at h
    unfold tUn at h
    split at h
    · refine isTrue_not (wpAny_mono (H.t h O S) (fun c s₁ h₁ => ?_) fun _ _ e => e)
      exact h₁
    · cases h
  | BoolOp op es pos =>
    cases op with
    | And =>
      change tAnd (run G.cf n) es pos k cx st = true at h
      unfold tAnd at h
      split at h
      · exact isTrue_and_nil ⟨st, ads, S, Later.refl _ _, h⟩
      · refine isTrue_and (wpAny_mono (H.t h O S) (fun c s₁ h₁ => ?_) fun _ _ e => e)
        obtain ⟨st₁, ads₁, S₁, l₁, h₁⟩ := h₁
        cases c with
        | true => exact wpAny_mono (H.t h₁ O S₁) (fun _ _ p => p.later l₁) fun _ _ e => e
        | false => exact ⟨st₁, ads₁, S₁, l₁, h₁⟩
    | Or =>
      change tOr (run G.cf n) es pos k cx st = true at h
      unfold tOr at h
      split at h
      · exact isTrue_or_nil ⟨st, ads, S, Later.refl _ _, h⟩
      · refine isTrue_or (wpAny_mono (H.t h O S) (fun c s₁ h₁ => ?_) fun _ _ e => e)
        obtain ⟨st₁, ads₁, S₁, l₁, h₁⟩ := h₁
        cases c with
        | true => exact ⟨st₁, ads₁, S₁, l₁, h₁⟩
        | false => exact wpAny_mono (H.t h₁ O S₁) (fun _ _ p => p.later l₁) fun _ _ e => e
  | Compare l ops rs pos =>
    change tCmp (run G.cf n) l ops rs k cx st = true at h
    unfold tCmp at h
    split at h
    · split at h
      · cases h
      · rename_i hm
        refine wpAny_isTrue_Compare1 (wpAny_mono (H.e h O S) (fun a s₁ h₁ => ?_) fun _ _ e => e) hm
        obtain ⟨xa, st₁, ads₁, ra, S₁, l₁, h₁⟩ := h₁
        refine wpAny_mono (H.e h₁ O S₁) (fun b s₂ h₂ => ?_) fun _ _ e => e
        obtain ⟨xb, st₂, ads₂, rb, S₂, l₂, h₂⟩ := h₂
        dsimp only at h₂
        unfold kCmpT at h₂
        split at h₂
        · rename_i c hc
          refine wpAny_mono (cmp_rule (ra.mono l₂) rb hc) (fun y s' e => ?_) fun _ _ e => e
          obtain ⟨rfl, rfl⟩ := e
          exact wpAny_truthy_bool ⟨st₂, ads₂, S₂, l₁.trans l₂, h₂⟩
        · cases h₂
    · cases h
  | Name i p => exact t_plain H O S h rfl
  | Constant c a p => exact t_plain H O S h rfl
  | Call f as ks p => exact t_plain H O S h rfl
  | _ => cases h

theorem no_swap {v : Expr} {t : Option Expr} {l : Nat} {env : Env} (h : isComp v = false) : swapsWith v t l env = pure false := by
  cases v <;> first | rfl | cases h
theorem no_inter (O : FrmOk G fr cx) : interactive fr.env = false := by
  unfold interactive
  show (fr.scope.kind == .module && _) = false
  rw [O.kind]; rfl
theorem store_rule (O : FrmOk G fr cx) (S : Sim G.ρ fr kp st s ads) {y : Str} {u : Value} {v : AV} (r : RepV G.ρ ads s.heap u v) (hl : isLocal cx y = true) {E : Value → Shared → Prop} :
    wpAny (model G.prog G.w) fr.A (storeName fr.env y u) (fun _ s' => Sim G.ρ fr kp ⟨put y v st.loc, st.lists, st.ws⟩ s' ads ∧ Later ads s.heap ads s'.heap) E s := by
  obtain ⟨m, F, hm⟩ := S.loc
  exact wpAny_storeName_local (local_kind O hl) F.ns (fun h' hn hs => S.store r F hm hn hs) (by show (fr.scope.kind == .class || (fr.scope.kind == .module && _)) = false; rw [O.kind]; rfl)

theorem s_expr (H : Snd G n) (O : FrmOk G fr cx) (S : Sim G.ρ fr kp st s ads) {e : Expr} {pos : Pos} {k : KF} (h : sExpr (run G.cf n) e k cx st = true) :
    wpAny (model G.prog G.w) fr.A (exec (.Expr e pos) fr.env) (PostF G.ρ fr kp s ads k) (Exc G fr) s := by
  unfold sExpr at h
  split at h
  · cases h
  · rename_i hc
    refine wpAny_Expr_any (wpAny_mono (H.e h O S) (fun v s₁ h₁ => ?_) fun _ _ e => e) (no_inter O) (no_swap hc)
    obtain ⟨x, st₁, ads₁, r, S₁, l₁, h₁⟩ := h₁
    exact ⟨.next, st₁, ads₁, .next, S₁, l₁, h₁⟩

theorem s_name (H : Snd G n) (O : FrmOk G fr cx) (S : Sim G.ρ fr kp st s ads) {x : Str} {p pos : Pos} {e : Expr} {k : KF} (hc : isComp e = false) (hl : isLocal cx x = true)
    (h : run G.cf n (.e e fun v st => k .next ⟨put x v st.loc, st.lists, st.ws⟩) cx st = true) :
    wpAny (model G.prog G.w) fr.A (exec (.Assign [.Name x p] e pos) fr.env) (PostF G.ρ fr kp s ads k) (Exc G fr) s := by
  refine wpAny_Assign_Name (wpAny_mono (H.e h O S) (fun v s₁ h₁ => ?_) fun _ _ e => e) (no_swap hc)
  obtain ⟨y, st₁, ads₁, r, S₁, l₁, h₁⟩ := h₁
  refine wpAny_mono (store_rule O S₁ r hl) (fun _ s' e => ?_) fun _ _ e => e
  exact ⟨.next, _, ads₁, .next, e.1, l₁.trans e.2, h₁⟩

theorem s_ret (H : Snd G n) (O : FrmOk G fr cx) (S : Sim G.ρ fr kp st s ads) {v : Option Expr} {pos : Pos} {k : KF}
    (h : (match v with | none => k (.ret .none) st | some e => run G.cf n (.e e fun v st => k (.ret v) st) cx st) = true) :
    wpAny (model G.prog G.w) fr.A (exec (.Return v pos) fr.env) (PostF G.ρ fr kp s ads k) (Exc G fr) s := by
  cases v with
  | none => exact wpAny_Return_none ⟨.ret .none, st, ads, .ret .none, S, Later.refl _ _, h⟩
  | some e =>
    refine wpAny_Return_some (wpAny_mono (H.e h O S) (fun v s₁ h₁ => ?_) fun _ _ e => e)
    obtain ⟨y, st₁, ads₁, r, S₁, l₁, h₁⟩ := h₁
    exact ⟨.ret y, st₁, ads₁, .ret r, S₁, l₁, h₁⟩

theorem s_if (H : Snd G n) (O : FrmOk G fr cx) (S : Sim G.ρ fr kp st s ads) {t : Expr} {b o : List Stmt} {pos : Pos} {k : KF} (h : sIf (run G.cf n) t b o k cx st = true) :
    wpAny (model G.prog G.w) fr.A (exec (.If t b o pos) fr.env) (PostF G.ρ fr kp s ads k) (Exc G fr) s := by
  unfold sIf at h
  refine wpAny_If (wpAny_mono (H.t h O S) (fun c s₁ h₁ => ?_) fun _ _ e => e)
  obtain ⟨st₁, ads₁, S₁, l₁, h₁⟩ := h₁
  cases c with
  | true => exact wpAny_mono (H.ss h₁ O S₁) (fun _ _ p => p.later l₁) fun _ _ e => e
  | false => exact wpAny_mono (H.ss h₁ O S₁) (fun _ _ p => p.later l₁) fun _ _ e => e

theorem ss_rule (H : Snd G n) (O : FrmOk G fr cx) (S : Sim G.ρ fr kp st s ads) {xs : List Stmt} {k : KF} (h : stSs (run G.cf n) xs k cx st = true) :
    wpAny (model G.prog G.w) fr.A (execs xs fr.env) (PostF G.ρ fr kp s ads k) (Exc G fr) s := by
  unfold stSs at h
  split at h
  · exact wpAny_execs_nil ⟨.next, st, ads, .next, S, Later.refl _ _, h⟩
  · refine wpAny_execs_cons (wpAny_mono (H.s h O S) (fun f s₁ h₁ => ?_) fun _ _ e => e)
    obtain ⟨x, st₁, ads₁, r, S₁, l₁, h₁⟩ := h₁
    dsimp only at h₁
    unfold kSs at h₁
    cases r with
    | next => exact wpAny_mono (H.ss h₁ O S₁) (fun _ _ p => p.later l₁) fun _ _ e => e
    | brk => exact ⟨.brk, st₁, ads₁, .brk, S₁, l₁, h₁⟩
    | ret r => exact ⟨.ret _, st₁, ads₁, .ret r, S₁, l₁, h₁⟩
end
end Mine

namespace Mine
section
variable {G : Gl} {fr : Frm} {kp : Kp} {cx : Cx} {st : St} {s : Shared} {ads : List Addr} {n : Nat}

theorem nth_eq {α : Type} : ∀ (l : List α) (n : Nat), nth l n = l[n]?
  | [], _ => by simp [nth]
  | _ :: _, 0 => rfl
  | _ :: r, n + 1 => by simp only [nth, List.getElem?_cons_succ]; exact nth_eq r n
theorem seqIndex_nat {n len : Nat} (h : n < len) : seqIndex? (n : Int) len = some n := by
  unfold seqIndex?
  first
  | (simp [h]; done)
  | (split <;> simp_all <;> omega)

/-- a list of the table -/
theorem list_at (S : Sim G.ρ fr kp st s ads) {i : Nat} {a : Addr} {xs : List AV} (ha : ads[i]? = some a) (h : nth st.lists i = some xs) :
    ∃ vs ep, s.heap.get? a = some (listObj vs ep) ∧ Items G.ρ ads s.heap vs xs := by
  rw [nth_eq] at h
  exact S.lists.2 i a xs ha h

theorem e_idx (H : Snd G n) (O : FrmOk G fr cx) (S : Sim G.ρ fr kp st s ads) {v i : Expr} {pos : Pos} {k : KV} (hi : sliceKind i = .idx)
    (h : run G.cf n (.e v fun a st => run G.cf n (.e i fun b st => kItem k a b st) cx st) cx st = true) :
    wpAny (model G.prog G.w) fr.A (eval (.Subscript v i pos) fr.env) (Post G.ρ fr kp s ads k) (Exc G fr) s := by
  have hs : ∀ o u, subscripted i false o u = operate [o, u] (getItem o u) := by
    intro o u
    cases i <;> first | rfl | (exfalso; simp only [sliceKind] at hi; split at hi <;> cases hi)
  refine Subscript_ (wpAny_mono (H.e h O S) (fun a s₁ h₁ => ?_) fun _ _ e => e)
  obtain ⟨xa, st₁, ads₁, ra, S₁, l₁, h₁⟩ := h₁
  refine wpAny_mono (H.e h₁ O S₁) (fun b s₂ h₂ => ?_) fun _ _ e => e
  obtain ⟨xb, st₂, ads₂, rb, S₂, l₂, h₂⟩ := h₂
  dsimp only at h₂
  unfold kItem at h₂
  split at h₂
  · rename_i c hc
    have ra' := ra.mono l₂
    unfold itemOf at hc
    split at hc
    · rename_i xs j
      split at hc
      · rename_i hb
        have hb := Nat.le_of_ble_eq_true hb
        cases rb with
        | int _ t =>
          cases ra' with
          | tup hT hlen hat =>
            rename_i T vs ep
            rw [nth_eq] at hc
            have hj := (List.getElem?_eq_some_iff.mp hc).1
            have hj' : j < vs.length := by omega
            exact item_tupleT (l := vs) (k := (j : Int)) (x := vs[j]) ⟨_, hT, rfl, ep, rfl⟩ (by omega) (by omega) (seqIndex_nat hj') (by simp [hj']) ((Post.now S₂ (hat j _ _ (by simp [hj']) hc) h₂).later (l₁.trans l₂)) (hs _ _)
      · cases hc
    · rename_i l j
      split at hc
      · rename_i xs hxs
        split at hc
        · rename_i hp hb
          have hb := Nat.le_of_ble_eq_true hb
          cases rb with
          | int _ t =>
            cases ra' with
            | lst ha =>
              rename_i a
              obtain ⟨vs, ep, hl, it⟩ := list_at S₂ ha hxs
              have r := it.plain hp
              rw [nth_eq] at hc
              have hj := (List.getElem?_eq_some_iff.mp hc).1
              have hj' : j < vs.length := by rw [r.length]; exact hj
              have hil : s₂.heap.IsList a vs.toArray := ⟨_, hl, rfl, ep, rfl⟩
              exact tail_any hil.typeIs PySem.slot_list_getitem.lookup (wpAny_getItem_list (k := (j : Int)) (x := vs[j]) hil (by omega) (by omega) (by simp [hj']) ((Post.now S₂ (r.at j _ _ (by simp [hj']) hc) h₂).later (l₁.trans l₂))) (hs _ _)
        · cases hc
      · cases hc
    · cases hc
  · cases h₂
end
end Mine

namespace Mine
section
variable {G : Gl} {fr : Frm} {kp : Kp} {cx : Cx} {st : St} {s : Shared} {ads : List Addr} {n : Nat}

theorem strip_made (t u : PySem.Tok) : sliceMade (Str.ofString "+=") t none (some (-1, u)) none = .str (Str.ofString "+") := by
  have h1 : slicePicked (Str.ofString "+=") none (some (-1, u)) none = [0] := by
    unfold slicePicked
    kernel_rfl
  unfold sliceMade
  rw [h1]
  rfl

theorem kind_strip {i : Expr} {p : Pos} {a : Nat} {b c : Pos} (h : sliceKind i = .strip p a b c) : i = .Slice none (some (.UnaryOp .USub (.Constant (.int 1) a b) c)) none p := by
  unfold sliceKind at h
  split at h
  · split at h <;> cases h
    rfl
  · cases h
theorem kind_to {i u : Expr} {p : Pos} (h : sliceKind i = .to u p) : i = .Slice none (some u) none p := by
  unfold sliceKind at h
  split at h
  · split at h <;> cases h
    rfl
  · cases h
theorem kind_frm {i u : Expr} {p : Pos} (h : sliceKind i = .frm u p) : i = .Slice (some u) none none p := by
  unfold sliceKind at h
  split at h
  · split at h <;> cases h
    rfl
  · cases h

theorem e_strip (H : Snd G n) (O : FrmOk G fr cx) (S : Sim G.ρ fr kp st s ads) {v i : Expr} {pos p : Pos} {a : Nat} {b c : Pos} {k : KV} (hi : sliceKind i = .strip p a b c)
    (h : run G.cf n (.e v fun a st => kStrip k a st) cx st = true) :
    wpAny (model G.prog G.w) fr.A (eval (.Subscript v i pos) fr.env) (Post G.ρ fr kp s ads k) (Exc G fr) s := by
  obtain rfl := kind_strip hi
  refine Subscript_ (wpAny_mono (H.e h O S) (fun o s₁ h₁ => ?_) fun _ _ e => e)
  obtain ⟨x, st₁, ads₁, r, S₁, l₁, h₁⟩ := h₁
  dsimp only at h₁
  unfold kStrip at h₁
  split at h₁
  · split at h₁
    · rename_i y hy
      obtain rfl := eqS_iff.mp hy
      cases r with
      | str t hx =>
        simp only [List.mem_singleton] at hx
        subst hx
        refine wpAny_Slice ?_
        rw [evalPart_none, evalPart_some]
        refine wpAny_pure ?_
        refine UnaryOp_ (wpAny_Constant_int (PyProof.Rows.neg_int ?_))
        refine wpAny_pure ?_
        refine tail_any (ops := [.ref s₁.heap.objs.size, .str (Str.ofString "+=") t]) (typeIs_str _ _ t) F.slot_str_getitem.lookup (wpAny_getItem_str_slice (l := none) (u := some (-1, s₁.toks + 1)) (st := none) ⟨_, Heap.get?_push_size _ rfl, rfl, rfl⟩ rfl ?_) rfl
        rw [strip_made]
        have hk : ∀ (o : Obj) b o', s₁.heap.get? b = some o' → (s₁.heap.push o).get? b = some o' := fun o b o' e => Heap.get?_push_of_some _ e
        exact ⟨by decide +kernel, ⟨.any, st₁, ads₁, .any _, S₁.ext (hk _), l₁.trans (Later.ext (hk _)), h₁⟩⟩
    · cases h₁
  · cases h₁
end
end Mine

namespace Mine
section
variable {G : Gl} {fr : Frm} {kp : Kp} {cx : Cx} {st : St} {s : Shared} {ads : List Addr} {n : Nat}

theorem Items.len {ρ : Rho} {ads : List Addr} {h : Heap} {vs : List Value} {xs : List AV} (r : Items ρ ads h vs xs) (hi : ρ.ivs.length ≤ 1000) : vs.length ≤ wt xs := by
  induction r with
  | nil => exact Nat.le_refl _
  | cons q _ ih =>
    rename_i v x vs xs _
    cases x <;> first | (cases q; done) | (simp only [wt, List.length_cons]; omega)
  | inner _ ih => simp only [wt, List.length_append]; omega
theorem fits_size {ρ : Rho} {ads : List Addr} {h : Heap} {vs : List Value} {xs : List AV} (r : Items ρ ads h vs xs) (hi : ρ.ivs.length ≤ 1000) (hf : fits xs = true) : vs.length ≤ 1000000 :=
  Nat.le_trans (r.len hi) (Nat.le_of_ble_eq_true hf)
theorem line_of {k : Nat} (h : k ≤ 1000000) : k ≤ sizeLine := by rw [sizeLine_eq]; omega

theorem takeP_items {ρ : Rho} {ads : List Addr} {h : Heap} : ∀ {n : Nat} {vs : List Value} {xs ys : List AV}, Items ρ ads h vs xs → takeP n xs = some ys →
    n ≤ vs.length ∧ Items ρ ads h (vs.take n) ys ∧ Items ρ ads h (vs.drop n) (xs.drop n)
  | 0, vs, xs, ys, r, e => by
    simp only [takeP] at e
    cases e
    exact ⟨Nat.zero_le _, by simpa using Items.nil, by simpa using r⟩
  | n + 1, vs, xs, ys, r, e => by
    cases r with
    | nil => simp only [takeP] at e; cases e
    | cons q r =>
      rename_i v x vs xs
      have e' : (match takeP n xs with | some l => some (x :: l) | none => none) = some ys := by
        cases x <;> first | exact e | (cases q; done)
      split at e'
      · rename_i l hl
        cases e'
        obtain ⟨h1, h2, h3⟩ := takeP_items r hl
        exact ⟨by simp; omega, by simpa using Items.cons q h2, by simpa using h3⟩
      · cases e'
    | inner r => simp only [takeP] at e; cases e

theorem e_part (H : Snd G n) (O : FrmOk G fr cx) (S : Sim G.ρ fr kp st s ads) {v i : Expr} {pos : Pos} {k : KV} (h : eSub (run G.cf n) v i k cx st = true) :
    wpAny (model G.prog G.w) fr.A (eval (.Subscript v i pos) fr.env) (Post G.ρ fr kp s ads k) (Exc G fr) s := by
  unfold eSub at h
  split at h
  · rename_i hk; exact e_strip H O S hk h
  · rename_i u p hk
    obtain rfl := kind_to hk
    split at h
    · rename_i hn
      have ht : ∀ o r, letTemporaryGo v o r = pure () := by cases v <;> first | (intro _ _; rfl) | cases hn
      refine wpAny_Subscript_list_slice (wpAny_mono (H.e h O S) (fun o s₁ h₁ => ?_) fun _ _ e => e) ht
      obtain ⟨xa, st₁, ads₁, ra, S₁, l₁, h₁⟩ := h₁
      rw [evalPart_none, evalPart_some]
      refine wpAny_pure (wpAny_mono (H.e h₁ O S₁) (fun b s₂ h₂ => ?_) fun _ _ e => e)
      obtain ⟨xb, st₂, ads₂, rb, S₂, l₂, h₂⟩ := h₂
      dsimp only at h₂
      unfold kTo at h₂
      split at h₂
      · rename_i l m
        split at h₂
        · rename_i xs hxs
          split at h₂
          · rename_i ys hy hf
            cases rb with
            | int _ t =>
              cases ra.mono l₂ with
              | lst ha =>
                rename_i a
                obtain ⟨vs, ep, hl, it⟩ := list_at S₂ ha hxs
                obtain ⟨hle, it₁, _⟩ := takeP_items it hy
                refine ⟨a, vs.toArray, none, some (m : Int), rfl, ⟨_, hl, rfl, ep, rfl⟩, by rw [List.size_toArray]; exact line_of (fits_size it O.ivs hf), .none, .int _ _, ?_⟩
                rw [slicePick_upto _ _ (by simpa using hle)]
                have hk : ∀ (o : Obj) b o', s₂.heap.get? b = some o' → (s₂.heap.push o).get? b = some o' := fun o b o' e => Heap.get?_push_of_some _ e
                have hk2 : ∀ (o o₂ : Obj) b o', s₂.heap.get? b = some o' → ((s₂.heap.push o).push o₂).get? b = some o' := fun o o₂ b o' e => Heap.get?_push_of_some _ (hk o b o' e)
                obtain ⟨S₃, l₃, r₃⟩ := S₂.newL (tk := s₂.toks) (n := 0) (vs := vs.take m) (D := s₂.heap.objs.size + 1) it₁ (hk2 { cls := .type "slice", data := .fields #[.none, .int m t, .none] } { cls := .type "list", data := .seq (vs.take m).toArray })
                  (by have := Heap.get?_push_size (s₂.heap.push { cls := .type "slice", data := .fields #[.none, .int m t, .none] }) (o := { cls := .type "list", data := .seq (vs.take m).toArray }) rfl; rw [Heap.size_push] at this; exact this)
                  (Heap.get?_none_of_le (by omega))
                exact ⟨_, _, _, r₃, S₃, (l₁.trans l₂).trans l₃, h₂⟩
          · cases h₂
        · cases h₂
      · cases h₂
    · cases h
  · rename_i u p hk
    obtain rfl := kind_frm hk
    split at h
    · rename_i hn
      have ht : ∀ o r, letTemporaryGo v o r = pure () := by cases v <;> first | (intro _ _; rfl) | cases hn
      refine wpAny_Subscript_list_slice (wpAny_mono (H.e h O S) (fun o s₁ h₁ => ?_) fun _ _ e => e) ht
      obtain ⟨xa, st₁, ads₁, ra, S₁, l₁, h₁⟩ := h₁
      rw [evalPart_none, evalPart_some]
      refine wpAny_mono (H.e h₁ O S₁) (fun b s₂ h₂ => wpAny_pure ?_) fun _ _ e => e
      obtain ⟨xb, st₂, ads₂, rb, S₂, l₂, h₂⟩ := h₂
      dsimp only at h₂
      unfold kFrom at h₂
      split at h₂
      · rename_i l m
        split at h₂
        · rename_i xs hxs
          split at h₂
          · rename_i ys hy hf
            cases rb with
            | int _ t =>
              cases ra.mono l₂ with
              | lst ha =>
                rename_i a
                obtain ⟨vs, ep, hl, it⟩ := list_at S₂ ha hxs
                obtain ⟨hle, _, it₁⟩ := takeP_items it hy
                refine ⟨a, vs.toArray, some (m : Int), none, rfl, ⟨_, hl, rfl, ep, rfl⟩, by rw [List.size_toArray]; exact line_of (fits_size it O.ivs hf), .int _ _, .none, ?_⟩
                rw [slicePick_from _ _ (by simpa using hle)]
                have hk : ∀ (o : Obj) b o', s₂.heap.get? b = some o' → (s₂.heap.push o).get? b = some o' := fun o b o' e => Heap.get?_push_of_some _ e
                have hk2 : ∀ (o o₂ : Obj) b o', s₂.heap.get? b = some o' → ((s₂.heap.push o).push o₂).get? b = some o' := fun o o₂ b o' e => Heap.get?_push_of_some _ (hk o b o' e)
                obtain ⟨S₃, l₃, r₃⟩ := S₂.newL (tk := s₂.toks) (n := 0) (vs := vs.drop m) (D := s₂.heap.objs.size + 1) it₁ (hk2 { cls := .type "slice", data := .fields #[.int m t, .none, .none] } { cls := .type "list", data := .seq (vs.drop m).toArray })
                  (by have := Heap.get?_push_size (s₂.heap.push { cls := .type "slice", data := .fields #[.int m t, .none, .none] }) (o := { cls := .type "list", data := .seq (vs.drop m).toArray }) rfl; rw [Heap.size_push] at this; exact this)
                  (Heap.get?_none_of_le (by omega))
                exact ⟨_, _, _, r₃, S₃, (l₁.trans l₂).trans l₃, h₂⟩
          · cases h₂
        · cases h₂
      · cases h₂
    · cases h
  · cases h
  · rename_i hk; exact e_idx H O S hk h
end
end Mine

namespace Mine
section
variable {G : Gl} {fr : Frm} {kp : Kp} {cx : Cx} {st : St} {s : Shared} {ads : List Addr} {n : Nat}

theorem Items.app {ρ : Rho} {ads : List Addr} {h : Heap} {vs us : List Value} {xs ys : List AV} (r : Items ρ ads h vs xs) (q : Items ρ ads h us ys) : Items ρ ads h (vs ++ us) (xs ++ ys) := by
  induction r with
  | nil => exact q
  | cons p _ ih => exact .cons p ih
  | inner _ ih => rw [List.append_assoc]; exact .inner ih
theorem Items.rep {ρ : Rho} {ads : List Addr} {h : Heap} {v : Value} {x : AV} (r : RepV ρ ads h v x) : ∀ n : Nat, Items ρ ads h (List.replicate n v) (List.replicate n x)
  | 0 => .nil
  | n + 1 => .cons r (Items.rep r n)

theorem push_list (S : Sim G.ρ fr kp st s ads) {vs : List Value} {xs : List AV} (it : Items G.ρ ads s.heap vs xs) {k : KV} (h : newL st xs k = true) (tk : Nat) :
    Post G.ρ fr kp s ads k (.ref s.heap.objs.size) { s with heap := s.heap.push { cls := .type "list", data := .seq vs.toArray }, toks := tk } := by
  have hk : ∀ b o, s.heap.get? b = some o → (s.heap.push (listObj vs 0)).get? b = some o := fun b o e => Heap.get?_push_of_some _ e
  obtain ⟨S₂, l₂, r₂⟩ := S.newL (tk := tk) it hk (Heap.get?_push_size s.heap rfl) (Heap.get?_none_of_le (Nat.le_refl _))
  exact ⟨_, _, _, r₂, S₂, l₂, h⟩

theorem fold_rep (v : Value) : ∀ n : Nat, List.foldl (fun x1 x2 => x1 ++ x2) #[] (List.replicate n #[v]) = (List.replicate n v).toArray := by
  have h : ∀ (n : Nat) (a : Array Value), List.foldl (fun x1 x2 => x1 ++ x2) a (List.replicate n #[v]) = a ++ (List.replicate n v).toArray := by
    intro n
    induction n with
    | zero => intro a; simp
    | succ n ih =>
      intro a
      rw [List.replicate_succ, List.foldl_cons, ih, List.replicate_succ]
      apply Array.toList_inj.mp
      simp
  intro n
  rw [h]
  simp

theorem mul_raw {prog : Program} {w : World} {A : Around} {E : Value → Shared → Prop} {s : Shared} {l : Addr} {items : Array Value} {k : Nat} {x : Int} {u : PySem.Tok} {Q : Value → Shared → Prop}
    (hl : s.heap.get? l = some { cls := .type "list", dict := none, data := .seq items k, slots := #[] })
    (hlo : -(2 ^ 63 : Int) ≤ x) (hhi : x < 2 ^ 63) (hsz : items.size * x.toNat ≤ 2 ^ 24)
    (h : Q (.ref s.heap.objs.size) { s with heap := s.heap.push { cls := .type "list", data := .seq (List.foldl (fun x1 x2 => x1 ++ x2) #[] (List.replicate (if items.isEmpty = true then 0 else x.toNat) items)) } }) :
    wpAny (model prog w) A (binaryOp .Mult (.ref l) (.int x u)) Q E s :=
  wpAny_binaryOp_repeat_ref (T := "list") (U := "int") (by decide) ⟨_, hl, rfl⟩ (fun s' => typeIs_int s' x u) noFill_list_mul F.fills_int_mul F.slot_int_rmul repeat_list F.slot_int_index.lookup
    (call_meets F.slot_int_rmul (typeIs_int s x u) F.entry_int_rmul (F.args_int_rmul_2 _ _) (int___rmul___int_list x u l items k)
      ⟨hl, rfl, ⟨_, hl, rfl⟩, call_meets F.slot_list_mul ⟨_, hl, rfl⟩ F.entry_list_mul (F.args_list_mul_2 _ _)
        (AutoListH.list___mul___list_int_3 l items k x u (by simp [Builtin.List.listFitsIndex]; omega) (by omega) (by simp [Builtin.List.listTooLong, sizeLine]; omega))
        ⟨hl, h⟩⟩)

theorem e_bin (H : Snd G n) (O : FrmOk G fr cx) (S : Sim G.ρ fr kp st s ads) {l r : Expr} {op : Operator} {pos : Pos} {k : KV}
    (h : run G.cf n (.e l fun a st => run G.cf n (.e r fun b st => kBin op k a b st) cx st) cx st = true) :
    wpAny (model G.prog G.w) fr.A (eval (.BinOp l op r pos) fr.env) (Post G.ρ fr kp s ads k) (Exc G fr) s := by
  refine wpAny_BinOp (wpAny_mono (H.e h O S) (fun a s₁ h₁ => ?_) fun _ _ e => e)
  obtain ⟨xa, st₁, ads₁, ra, S₁, l₁, h₁⟩ := h₁
  refine wpAny_mono (H.e h₁ O S₁) (fun b s₂ h₂ => ?_) fun _ _ e => e
  obtain ⟨xb, st₂, ads₂, rb, S₂, l₂, h₂⟩ := h₂
  replace ra := ra.mono l₂
  have lt := l₁.trans l₂
  dsimp only at h₂
  unfold kBin at h₂
  split at h₂
  · split at h₂
    · rename_i i j
      unfold kAddL at h₂
      split at h₂
      · rename_i xs ys hx hy
        split at h₂
        · rename_i f1 f2
          cases ra with
          | lst ha =>
            cases rb with
            | lst hb =>
              obtain ⟨vs, e1, hl, it⟩ := list_at S₂ ha hx
              obtain ⟨us, e2, hr, it'⟩ := list_at S₂ hb hy
              have s1 := fits_size it O.ivs f1
              have s2 := fits_size it' O.ivs f2
              refine P.add_list (items := vs.toArray) (items2 := us.toArray) hl hr ?_ (by rw [List.size_toArray, List.size_toArray, sizeLine_eq]; omega)
              rw [List.append_toArray]
              exact (push_list S₂ (it.app it') h₂ _).later lt
        · cases h₂
      · cases h₂
    · split at h₂
      · rename_i c hc
        unfold addA at hc
        split at hc
        · cases hc; cases ra; cases rb; exact PyProof.Rows.add_int ((Post.here S₂ (.int _ _) h₂ _).later lt)
        · cases hc; cases ra; cases rb; exact PyProof.Rows.add_int ((Post.here S₂ (.num _ _) h₂ _).later lt)
        · cases hc; cases ra; cases rb; exact PyProof.Rows.add_int ((Post.here S₂ (.num _ _) h₂ _).later lt)
        · cases hc; cases ra; cases rb; exact PyProof.Rows.add_int ((Post.here S₂ (.num _ _) h₂ _).later lt)
        · cases hc
          cases ra; cases rb
          refine PyProof.Rows.add_int ?_
          rw [Int.add_assoc]
          exact (Post.here S₂ (.sym _ _) h₂ _).later lt
        · cases hc
      · cases h₂
  · split at h₂
    · rename_i c hc
      unfold subA at hc
      split at hc
      · cases hc; cases ra; cases rb; exact PyProof.Rows.sub_int ((Post.here S₂ (.int _ _) h₂ _).later lt)
      · cases hc; cases ra; cases rb; exact PyProof.Rows.sub_int ((Post.here S₂ (.num _ _) h₂ _).later lt)
      · cases hc
        cases ra; cases rb
        refine PyProof.Rows.sub_int ?_
        rw [Int.add_sub_assoc]
        exact (Post.here S₂ (.sym _ _) h₂ _).later lt
      · cases hc
    · cases h₂
  · split at h₂
    · rename_i i m
      unfold kMulL at h₂
      split at h₂
      · rename_i x hx
        split at h₂
        · rename_i hp hb
          have hb := Nat.le_of_ble_eq_true hb
          cases ra with
          | lst ha =>
            cases rb with
            | int _ u =>
              obtain ⟨vs, ep, hl, it⟩ := list_at S₂ ha hx
              have r := it.plain hp
              cases r with
              | cons rv rn =>
                cases rn
                rename_i v
                refine mul_raw hl (x := (m : Int)) (by omega) (by omega) (by simp; omega) ?_
                have e : (if (#[v] : Array Value).isEmpty = true then 0 else (m : Int).toNat) = m := by simp
                show Post G.ρ fr kp s ads k _ _
                rw [e, fold_rep]
                exact (push_list S₂ (Items.rep rv m) h₂ _).later lt
        · cases h₂
      · cases h₂
    · cases h₂
  · cases h₂
end
end Mine

namespace Mine

structure MethHyp (G : Gl) : Prop where
  ga : ∀ ω, G.ρ.wd = some ω → findIn G.cf.K (.ref ω.C) "__getattribute__" = some (some (.builtin "object.__getattribute__")) ∧ findIn G.cf.K (.ref ω.C) "__getattr__" = some none
  fn : ∀ ω m, G.ρ.wd = some ω → whichMe m ≠ .other → ∃ f, findIn G.cf.K (.ref ω.C) m = some (some (.ref f)) ∧ typeIn G.cf.K (.ref f) = some (.type "function") ∧ keepIn G.cf.K (.ref f) = true ∧
    (∀ (i : Nat) ti (d : Nat) td, shadowIn (some (ω.dict i ti d td)) m = some false) ∧
    ∀ {fr cx st s ads vs xs k} {mm : Str → Option Value}, meth G.cf m xs st k = true → FrmOk G fr cx → Fr fr.g fr.L s.heap mm → (∀ a ∈ muts G.ρ ads, fr.g.get? a = none ∧ a ≠ fr.L) →
      Core G.ρ (AllBut G.ρ s ads) st s ads → RepVs G.ρ ads s.heap vs xs →
      wpAny (model G.prog G.w) fr.A (call (.ref f) (.ref ω.W :: vs)) (PostC G.ρ st.loc s ads k) (Exc G fr) s
  lev : ∀ d, globRef G.cf (Str.ofString "LEVELS") = some d → ∃ es n, G.cf.K.lookup d = some ⟨.type "dict", none, .dict es n, #[]⟩ ∧ KeysLit G.w.params es.toList ∧ (d == sysModules) = false

section
variable {G : Gl} {fr : Frm} {kp : Kp} {cx : Cx} {st : St} {s : Shared} {ads : List Addr} {n : Nat}

theorem Core.all {ρ : Rho} (x : Core ρ kp st s ads) : Core ρ (AllBut ρ s ads) st s ads := ⟨x.lists, x.words, x.src, fun _ _ e => e, x.apart, x.lv, x.out⟩

theorem PostC.back {ρ : Rho} {k : KV} {v : Value} {s' : Shared} (S : Sim ρ fr kp st s ads) (x : PostC ρ st.loc s ads k v s') : Post ρ fr kp s ads k v s' := by
  obtain ⟨y, st', ads', r, C, l, hloc, hk⟩ := x
  obtain ⟨⟨rr, rfl⟩, lt⟩ := id l
  obtain ⟨m, F, hm⟩ := S.loc
  obtain ⟨oL, es, ep, hL, hd⟩ := S.L_dict
  have nL : fr.L ∉ muts ρ ads := fun q => (S.new _ q).2 rfl
  have kL := C.kept fr.L oL ⟨hL, nL⟩
  refine ⟨y, st', _, r, ⟨⟨C.lists, C.words, C.src, fun b o hb => C.kept b o (S.kept b o hb), C.apart, C.lv, C.out⟩, ⟨m, ⟨?_, fun b o e => ?_, F.above⟩, fun z w e => ?_⟩, fun a ha => ?_, S.off⟩, l, hk⟩
  · obtain ⟨o, es', ep', h1, h2⟩ := F.ns
    rw [hL] at h1
    cases h1
    exact ⟨oL, es', ep', kL.1, h2⟩
  · exact (C.kept b o ⟨F.keep b o e, fun q => by rw [(S.new b q).1] at e; cases e⟩).1
  · rw [hloc] at e
    obtain ⟨u, e', r'⟩ := hm z w e
    exact ⟨u, e', r'.mono l⟩
  · rw [muts_app] at ha
    rcases List.mem_append.mp ha with ha | ha
    · exact S.new a ha
    · have hn : s.heap.get? a = none := by
        cases q : s.heap.get? a with
        | none => rfl
        | some o =>
          exfalso
          by_cases hm : a ∈ muts ρ ads
          · have := C.apart
            rw [muts_app] at this
            exact (List.nodup_append.mp this).2.2 a hm a ha rfl
          · have := (C.kept a o ⟨q, hm⟩).2
            rw [muts_app] at this
            exact this (List.mem_append.mpr (.inr ha))
      refine ⟨?_, ?_⟩
      · cases q : fr.g.get? a with
        | none => rfl
        | some o => have := F.keep a o q; rw [hn] at this; cases this
      · rintro rfl
        rw [hn] at hL; cases hL

theorem plain_args : ∀ {es : List Expr} {pos : Pos} {env : Env}, noStar es = true → (backTo pos (starEach es env)).any (·.1) = false
  | [], _, _, _ => rfl
  | e :: r, pos, env, h => by
    have hs : isStar e = false ∧ noStar r = true := by
      unfold noStar at h
      split at h
      · cases h
      · rename_i q; exact ⟨q, h⟩
    have he : starEach (e :: r) env = (false, eval e env) :: starEach r env := by cases e <;> first | rfl | cases hs.1
    rw [he]
    show (false || (backTo pos (starEach r env)).any (·.1)) = false
    rw [plain_args hs.2]; rfl
theorem star_cons {e : Expr} {r : List Expr} {env : Env} (h : noStar (e :: r) = true) : starEach (e :: r) env = (false, eval e env) :: starEach r env ∧ noStar r = true := by
  have hs : isStar e = false ∧ noStar r = true := by
    unfold noStar at h
    split at h
    · cases h
    · rename_i q; exact ⟨q, h⟩
  exact ⟨by (cases e <;> first | rfl | (cases hs.1)), hs.2⟩

theorem e_builtin (H : Snd G n) (O : FrmOk G fr cx) (S : Sim G.ρ fr kp st s ads) {id : Str} {p pos : Pos} {as : List Expr} {k : KV} (hg : isGlobal cx id = true) (hs : noStar as = true) (hn : isNil as = false)
    (hno : globNone G.cf id = true) (h : eBuiltin (run G.cf n) id as k cx st = true) :
    wpAny (model G.prog G.w) fr.A (eval (.Call (.Name id p) as [] pos) fr.env) (Post G.ρ fr kp s ads k) (Exc G fr) s := by
  have hnone : nsIn G.cf.K mainGlobals id = some none := by
    unfold globNone at hno
    split at hno <;> first | assumption | cases hno
  obtain ⟨m, F, _⟩ := S.loc
  cases as with
  | nil => cases hn
  | cons e r =>
    obtain ⟨he, hr⟩ := star_cons (env := fr.env) hs
    unfold eBuiltin at h
    split at h
    · rename_i hid
      obtain rfl := eqS_iff.mp hid
      refine Call_ (name_B F O.X O.T hnone PyProof.Rows.Boot.«len» (by decide +kernel) ?_ O.kind (global_kind O hg) (not_debug O (global_kind O hg)))
      refine PyProof.Rows.callWith_builtin1 (wpAny_mono (H.as h hs O S) (fun vs s₁ h₁ => ?_) fun _ _ e => e) he (plain_args hr)
      obtain ⟨xs, st₁, ads₁, rs, S₁, l₁, h₁⟩ := h₁
      dsimp only at h₁
      unfold kLen at h₁
      split at h₁
      · split at h₁
        · rename_i xs hxs
          split at h₁
          · rename_i hp hf
            cases rs with
            | cons r0 rn =>
              cases rn
              cases r0 with
              | lst ha =>
                obtain ⟨us, ep, hl, it⟩ := list_at S₁ ha hxs
                have hz := fits_size it O.ivs hf
                have hlen := (it.plain hp).length
                refine PyProof.Rows.len_list (items := us.toArray) ⟨_, hl, rfl, ep, rfl⟩ (by rw [List.size_toArray]; omega) ?_
                rw [List.size_toArray, hlen]
                exact (Post.here S₁ (.int _ _) h₁ _).later l₁
          · cases h₁
        · cases h₁
      · split at h₁
        · rename_i hb
          have hb := Nat.le_of_ble_eq_true hb
          cases rs with
          | cons r0 rn =>
            cases rn
            cases r0 with
            | str t hx =>
              simp only [List.mem_singleton] at hx
              subst hx
              exact PyProof.Rows.len_str (by omega) ((Post.here S₁ (.int _ _) h₁ _).later l₁)
        · cases h₁
      · cases h₁
    · split at h
      · rename_i hid
        obtain rfl := eqS_iff.mp hid
        refine Call_ (name_B F O.X O.T hnone PyProof.Rows.Boot.«tuple» (by decide +kernel) ?_ O.kind (global_kind O hg) (not_debug O (global_kind O hg)))
        refine PyProof.Rows.callWith_type1 (wpAny_mono (H.as h hs O S) (fun vs s₁ h₁ => ?_) fun _ _ e => e) he (plain_args hr)
        obtain ⟨xs, st₁, ads₁, rs, S₁, l₁, h₁⟩ := h₁
        dsimp only at h₁
        unfold kTuple at h₁
        split at h₁
        · split at h₁
          · rename_i xs hxs
            split at h₁
            · rename_i hp hf
              cases rs with
              | cons r0 rn =>
                cases rn
                cases r0 with
                | lst ha =>
                  obtain ⟨us, ep, hl, it⟩ := list_at S₁ ha hxs
                  have hz := fits_size it O.ivs hf
                  have rp := it.plain hp
                  refine call_tuple_list (items := us.toArray) ⟨_, hl, rfl, ep, rfl⟩ (fun h' hk => ?_) (by rw [List.size_toArray]; exact line_of hz)
                  have hk2 : ∀ b o, s₁.heap.get? b = some o → (h'.push (tupObj us 0)).get? b = some o := fun b o e => Heap.get?_push_of_some _ (hk b o e)
                  exact ⟨.tup xs, st₁, ads₁, .tup (n := 0) (Heap.get?_push_size _ rfl) rp.length fun i v x h1 h2 => (rp.at i v x h1 h2).mono (Later.ext hk2), S₁.ext hk2, l₁.trans (Later.ext hk2), h₁⟩
            · cases h₁
          · cases h₁
        · cases h₁
      · cases h

theorem e_callN (H : Snd G n) (O : FrmOk G fr cx) (S : Sim G.ρ fr kp st s ads) {id : Str} {p pos : Pos} {as : List Expr} {k : KV} (h : eCallN G.cf (run G.cf n) id as k cx st = true) :
    wpAny (model G.prog G.w) fr.A (eval (.Call (.Name id p) as [] pos) fr.env) (Post G.ρ fr kp s ads k) (Exc G fr) s := by
  unfold eCallN at h
  split at h
  · rename_i hg hs hn
    split at h
    · rename_i f hf
      split at h
      · rename_i hkeep
        have hns : nsIn G.cf.K mainGlobals id = some (some (.ref f)) := by
          unfold globRef at hf
          split at hf
          · rename_i a ha; cases hf; exact ha
          · cases hf
        obtain ⟨m, F, _⟩ := S.loc
        cases as with
        | nil => cases hn
        | cons e r =>
          obtain ⟨he, hr⟩ := star_cons (env := fr.env) hs
          refine Call_ (name_K F O.X O.T hns ?_ O.kind (global_kind O hg) (not_debug O (global_kind O hg)))
          refine callWith_K O.X hkeep (wpAny_mono (H.as h hs O S) (fun vs s₁ h₁ => ?_) fun _ _ e => e) he (plain_args hr)
          obtain ⟨xs, st₁, ads₁, rs, S₁, l₁, h₁⟩ := h₁
          obtain ⟨m₁, F₁, _⟩ := S₁.loc
          refine ⟨O.X.keeps F₁.keep, ?_⟩
          exact wpAny_mono (H.call h₁ O F₁ S₁.new S₁.toCore.all rs) (fun v s' q => (PostC.back S₁ q).later l₁) fun _ _ e => e
      · cases h
    · split at h
      · rename_i hno; exact e_builtin H O S hg hs hn hno h
      · cases h
  · cases h
end
end Mine

namespace Mine
section
variable {G : Gl} {fr : Frm} {kp : Kp} {cx : Cx} {st : St} {s : Shared} {ads : List Addr} {n : Nat}

theorem setAt_at {α : Type} (v : α) : ∀ (l : List α) (i j : Nat), (setAt l i v)[j]? = if j = i then (if i < l.length then some v else none) else l[j]?
  | [], i, j => by by_cases h : j = i <;> simp [setAt, h]
  | x :: r, 0, j => by
    cases j with
    | zero => simp [setAt]
    | succ j => simp [setAt]
  | x :: r, i + 1, j => by
    cases j with
    | zero => simp [setAt]
    | succ j =>
      simp only [setAt, List.getElem?_cons_succ, setAt_at v r i j, List.length_cons]
      by_cases h : j = i <;> simp [h]
theorem setAt_len {α : Type} (v : α) : ∀ (l : List α) (i : Nat), (setAt l i v).length = l.length
  | [], _ => rfl
  | _ :: _, 0 => rfl
  | _ :: r, i + 1 => by simp [setAt, setAt_len v r i]

theorem nodup_inj {α : Type} {a : α} : ∀ {l : List α} {i j : Nat}, l.Nodup → l[i]? = some a → l[j]? = some a → i = j
  | [], i, j, _, h, _ => by simp at h
  | x :: r, i, j, nd, h1, h2 => by
    obtain ⟨n1, n2⟩ := List.nodup_cons.mp nd
    cases i with
    | zero =>
      cases j with
      | zero => rfl
      | succ j =>
        simp at h1 h2
        subst h1
        exact absurd (List.mem_of_getElem? h2) n1
    | succ i =>
      cases j with
      | zero =>
        simp at h1 h2
        subst h2
        exact absurd (List.mem_of_getElem? h1) n1
      | succ j =>
        simp only [List.getElem?_cons_succ] at h1 h2
        rw [nodup_inj n2 h1 h2]

/-- a list of the table is changed -/
theorem Sim.setL {ρ : Rho} (x : Sim ρ fr kp st s ads) {i : Nat} {a : Addr} {vs : List Value} {xs : List AV} {ep : Nat} (ha : ads[i]? = some a) (it : Items ρ ads s.heap vs xs) {h' : Heap} {tk : Nat}
    (hs : Heap.SameBut a s.heap h') (he : h'.get? a = some (listObj vs ep)) :
    Sim ρ fr kp ⟨st.loc, setAt st.lists i xs, st.ws⟩ { s with heap := h', toks := tk } ads ∧ Later ads s.heap ads h' := by
  have hi : i < st.lists.length := by rw [← x.lists.1]; exact (List.getElem?_eq_some_iff.mp ha).1
  obtain ⟨us, ep', hold, _⟩ := x.lists.2 i a st.lists[i] ha (by simp [hi])
  have kt : Later ads s.heap ads h' := Later.but hs.extBut hold (by simp)
  have hm := mem_ads (ρ := ρ) ha
  have nd := x.apart
  have dj : ∀ b ∈ muts ρ [], b ≠ a := fun b hb => by
    have e : muts ρ ads = muts ρ [] ++ ads := by rw [← muts_app]; simp
    rw [e] at nd
    exact (List.nodup_append.mp nd).2.2 b hb a (List.mem_of_getElem? ha)
  have inj : ∀ j b, ads[j]? = some b → j ≠ i → b ≠ a := fun j b hj hne hab => by
    subst hab
    have nd' : ads.Nodup := by
      have e : muts ρ ads = muts ρ [] ++ ads := by rw [← muts_app]; simp
      rw [e] at nd
      exact (List.nodup_append.mp nd).2.1
    exact hne (nodup_inj nd' hj ha)
  obtain ⟨m, F, hmm⟩ := x.loc
  refine ⟨⟨⟨⟨by rw [setAt_len]; exact x.lists.1, fun j b ys h1 h2 => ?_⟩, fun ω e => ?_, fun S e => (x.src S e).mono fun o q => (hs.2 S (dj S (mem_src e))).trans q,
    fun b o hb => ⟨(hs.2 b fun q => (x.kept b o hb).2 (q ▸ hm)).trans (x.kept b o hb).1, (x.kept b o hb).2⟩, x.apart, x.lv, x.out⟩,
    ⟨m, frBut F hs.extBut (x.new a hm).1 (x.new a hm).2, fun z w e => let ⟨u, e', r⟩ := hmm z w e; ⟨u, e', r.mono kt⟩⟩, x.new, x.off⟩, kt⟩
  · rw [setAt_at] at h2
    by_cases hj : j = i
    · subst hj
      rw [if_pos rfl, if_pos hi] at h2
      cases h2
      rw [ha] at h1
      cases h1
      exact ⟨vs, ep, he, it.mono kt⟩
    · rw [if_neg hj] at h2
      obtain ⟨ws, ep2, q, r⟩ := x.lists.2 j b ys h1 h2
      exact ⟨ws, ep2, (hs.2 b (inj j b h1 hj)).trans q, r.mono kt⟩
  · obtain ⟨j, W, M, p, nR⟩ := x.words ω e
    exact ⟨j, W.but hs.extBut hold (dj _ (mem_wd e)) (fun q => nR (q ▸ hm)) (by simp) (by simp), M, p, nR⟩

theorem index_find {ρ : Rho} {h : Heap} {j : Int} : ∀ {vs : List Value} {xs : List AV} {at_ n : Nat}, Items ρ ads h vs xs → indexA j at_ xs = some n →
    ∃ m, n = at_ + m ∧ m < vs.length ∧ (∃ t, vs[m]? = some (.int j t)) ∧ (∀ (l : Nat) v, vs[l]? = some v → l < m → ((∃ x t, v = .str x t) ∨ ∃ i t, i ≠ j ∧ v = .int i t))
  | vs, [], at_, n, r, e => by cases e
  | vs, x :: xs, at_, n, r, e => by
    cases r with
    | inner r => cases e
    | cons q r =>
      rename_i v vs
      cases q with
      | int i t =>
        simp only [indexA] at e
        split at e
        · rename_i hij
          have hij : i = j := by unfold intEq at hij; simpa using hij
          cases e
          subst hij
          exact ⟨0, rfl, by simp, ⟨t, rfl⟩, fun l v _ hl => absurd hl (Nat.not_lt_zero _)⟩
        · rename_i hij
          have hij : i ≠ j := by unfold intEq at hij; simpa using hij
          obtain ⟨m, e1, e2, ⟨t', e3⟩, e5⟩ := index_find r e
          refine ⟨m + 1, by omega, by simp; omega, ⟨t', by simpa using e3⟩, fun l v hv hl => ?_⟩
          cases l with
          | zero => simp at hv; subst hv; exact .inr ⟨i, t, hij, rfl⟩
          | succ l => exact e5 l v (by simpa using hv) (by omega)
      | str t hx =>
        rename_i x ss
        simp only [indexA] at e
        obtain ⟨m, e1, e2, ⟨t', e3⟩, e5⟩ := index_find r e
        refine ⟨m + 1, by omega, by simp; omega, ⟨t', by simpa using e3⟩, fun l v hv hl => ?_⟩
        cases l with
        | zero => simp at hv; subst hv; exact .inl ⟨x, t, rfl⟩
        | succ l => exact e5 l v (by simpa using hv) (by omega)
      | _ => cases e
theorem allSI_are {ρ : Rho} {h : Heap} : ∀ {vs : List Value} {xs : List AV}, Items ρ ads h vs xs → allSI xs = true → ∀ v ∈ vs, (∃ x t, v = .str x t) ∨ ∃ i t, v = .int i t
  | vs, [], r, _ => by cases r; intro v hv; cases hv
  | vs, x :: xs, r, e => by
    cases r with
    | inner r => cases e
    | cons q r =>
      rename_i v vs
      intro u hu
      cases q with
      | int i t =>
        rcases List.mem_cons.mp hu with rfl | hu
        · exact .inr ⟨i, t, rfl⟩
        · exact allSI_are r e u hu
      | str t hx =>
        rename_i x ss
        rcases List.mem_cons.mp hu with rfl | hu
        · exact .inl ⟨x, t, rfl⟩
        · exact allSI_are r e u hu
      | _ => cases e

def isIntOf (j : Int) : Value → Bool
  | .int i _ => i == j
  | _ => false
theorem eq_str_int (x : Str) (t : PySem.Tok) (j : Int) (u : PySem.Tok) : MeetsSeq.EqGives (.str x t) (.int j u) false :=
  fun prog w A E s Q h => SeqAt.EqAt.str_int (A := A) (s := s) x t j u prog w E Q h

theorem m_index (H : Snd G n) (O : FrmOk G fr cx) (S : Sim G.ρ fr kp st s ads) {i : Nat} {a : Addr} {pos : Pos} {e : Expr} {k : KV} (ha : ads[i]? = some a) (hs : noStar [e] = true)
    (h : run G.cf n (.e e fun v st => kIndex i k [v] st) cx st = true) :
    wpAny (model G.prog G.w) fr.A (callWith pos (.builtin "list.index") [.ref a] (backTo pos (starEach [e] fr.env)) []) (Post G.ρ fr kp s ads k) (Exc G fr) s := by
  rw [(star_cons (env := fr.env) hs).1]
  refine P.index_list (wpAny_mono (H.e h O S) (fun v s₁ h₁ => ?_) fun _ _ e => e)
  obtain ⟨x, st₁, ads₁, r, S₁, l₁, h₁⟩ := h₁
  obtain ⟨⟨rr, rfl⟩, _⟩ := id l₁
  dsimp only at h₁
  unfold kIndex at h₁
  split at h₁
  · rename_i j he
    split at h₁
    · rename_i xs hxs
      split at h₁
      · rename_i m hsi hf hm
        cases he
        cases r with
        | int _ u =>
          obtain ⟨vs, ep, hl, it⟩ := list_at S₁ (nth_app ha) hxs
          obtain ⟨m', e1, e2, ⟨t', e3⟩, e5⟩ := index_find it hm
          obtain rfl : m = m' := by omega
          have hz := fits_size it O.ivs hf
          have hg : vs[m] = .int j t' := by
            obtain ⟨_, q⟩ := List.getElem?_eq_some_iff.mp e3
            exact q
          refine ⟨vs.toArray, ep, isIntOf j, m, by simpa using e2, hl, fun y hy => ?_, by omega, ?_, fun l hl' hlm => ?_, ?_⟩
          · rcases allSI_are it hsi y (by simpa using hy) with ⟨x, t, rfl⟩ | ⟨i, t, rfl⟩
            · exact eq_str_int x t j u
            · exact MeetsSeq.EqGives.int i j t u
          · simp [hg, isIntOf]
          · have hl2 : l < vs.length := by simpa using hl'
            rcases e5 l vs[l] (by simp [hl2]) hlm with ⟨x, t, q⟩ | ⟨i, t, hne, q⟩
            · simp [q, isIntOf]
            · simp [q, isIntOf, hne]
          · exact (Post.here S₁ (.int _ _) h₁ _).later l₁
      · cases h₁
    · cases h₁
  · cases h₁
end
end Mine

namespace Mine
section
variable {G : Gl} {fr : Frm} {kp : Kp} {cx : Cx} {st : St} {s : Shared} {ads : List Addr} {n : Nat}

theorem getInt_rule {K : Frag} {d : Addr} {dv : Int} : ∀ {xs : List Str} {j : Int}, getInt K d dv xs = some j → ∀ x ∈ xs, (∃ v, nsIn K d x = some (some v) ∧ litV K litD v = some (.int j)) ∨ (nsIn K d x = some none ∧ j = dv) := by
  have one : ∀ {x : Str} {a : Option AV}, dictA K d x = some a → (∃ v b, a = some b ∧ nsIn K d x = some (some v) ∧ litV K litD v = some b) ∨ (a = none ∧ nsIn K d x = some none) := by
    intro x a h
    unfold dictA at h
    split at h
    · rename_i v hv
      split at h
      · rename_i b hb; cases h; exact .inl ⟨v, b, rfl, hv, hb⟩
      · cases h
    · rename_i hv; cases h; exact .inr ⟨rfl, hv⟩
    · cases h
  intro xs
  induction xs with
  | nil => intro j h; cases h
  | cons x r ih =>
    intro j h
    cases r with
    | nil =>
      simp only [getInt] at h
      intro y hy
      simp only [List.mem_singleton] at hy
      subst hy
      split at h
      · rename_i i hi
        cases h
        rcases one hi with ⟨v, b, e, h1, h2⟩ | ⟨e, _⟩
        · cases e; exact .inl ⟨v, h1, h2⟩
        · cases e
      · rename_i hi
        cases h
        rcases one hi with ⟨v, b, e, _⟩ | ⟨_, h1⟩
        · cases e
        · exact .inr ⟨h1, rfl⟩
      · cases h
    | cons z r =>
      simp only [getInt] at h
      split at h
      · rename_i i j' hi hj
        split at h
        · rename_i hij
          cases h
          have hij : i = j := by unfold intEq at hij; simpa using hij
          intro y hy
          rcases List.mem_cons.mp hy with rfl | hy
          · rcases one hi with ⟨v, b, e, h1, h2⟩ | ⟨e, _⟩
            · cases e; exact .inl ⟨v, h1, hij ▸ h2⟩
            · cases e
          · exact ih hj y hy
        · cases h
      · rename_i j' hi hj
        split at h
        · rename_i hij
          cases h
          have hij : dv = j := by unfold intEq at hij; simpa using hij
          intro y hy
          rcases List.mem_cons.mp hy with rfl | hy
          · rcases one hi with ⟨v, b, e, _⟩ | ⟨_, h1⟩
            · cases e
            · exact .inr ⟨h1, hij.symm⟩
          · exact ih hj y hy
        · cases h
      · cases h

theorem litV_int {K : Frag} {v : Value} {j : Int} (h : litV K litD v = some (.int j)) : ∃ t, v = .int j t := by
  unfold litD at h
  cases v with
  | int i t => cases h; exact ⟨t, rfl⟩
  | ref a =>
    simp only [litV] at h
    split at h
    · split at h <;> cases h
    · cases h
  | _ => cases h

theorem star_len : ∀ (as : List Expr) (env : Env), (starEach as env).length = as.length
  | [], _ => rfl
  | e :: r, env => by
    have : (starEach (e :: r) env).length = (starEach r env).length + 1 := by cases e <;> rfl
    rw [this, star_len r env]; rfl
theorem star_all : ∀ {as : List Expr} {env : Env}, noStar as = true → (starEach as env).all (fun x => !x.1) = true
  | [], _, _ => rfl
  | e :: r, env, h => by
    obtain ⟨he, hr⟩ := star_cons (env := env) h
    rw [he]
    show (!false && (starEach r env).all (fun x => !x.1)) = true
    rw [star_all hr]; rfl
theorem back_all {as : List Expr} {env : Env} {pos : Pos} (h : noStar as = true) : (backTo pos (starEach as env)).all (fun x => !x.1) = true := by
  have := star_all (env := env) h
  unfold backTo
  rw [List.all_map]
  exact this

theorem meth_rule {M : Model} {A : Around} {E : Value → Shared → Prop} {s : Shared} {env : Env} {id m : Str} {p ap pos : Pos} {as : List Expr} {Q : Value → Shared → Prop} (hs : noStar as = true) (hl : as.length ≤ 20) (hp : ap.endLine = pos.line)
    (h : wpAny M A (eval (.Name id p) env) (fun ov s₁ => wpAny M A (getMethod ov m (do return (← importBound (.Name id p) env).getD true)) (fun fx s₂ => wpAny M A (callWith pos fx.1 fx.2 (backTo pos (starEach as env)) []) Q E s₂) E s₁) E s) :
    wpAny M A (eval (.Call (.Attribute (.Name id p) m ap) as [] pos) env) Q E s := by
  show wpAny M A (do
    let ov ← eval (.Name id p) env
    standAt ap.atName
    methodCall (.Name id p) m ap pos env ov (as.length + 0) (backTo pos (starEach as env)) []) Q E s
  refine wpAny_bind (wpAny_mono h (fun ov s₁ h₁ => wpAny_bind (wpAny_standAt ?_)) fun _ _ e => e)
  have hf : methodCallForm (as.length + 0) (backTo pos (starEach as env)) [] = true := by
    unfold methodCallForm
    rw [back_all hs]
    have : as.length < 30 := by omega
    simp [this]
  unfold methodCall
  rw [hf]
  have hc : methodCallPos true (.Name id p) env ap pos = pure pos := by
    unfold methodCallPos
    simp [hp]
  rw [hc]
  refine wpAny_bind (wpAny_holding (wpAny_mono h₁ (fun fx s₂ h₂ => ?_) fun _ _ e => e))
  exact wpAny_bind (wpAny_pure h₂)

theorem e_meth (MH : MethHyp G) (H : Snd G n) (O : FrmOk G fr cx) (S : Sim G.ρ fr kp st s ads) {id m : Str} {p ap pos : Pos} {as : List Expr} {k : KV} (hs : noStar as = true) (hlen : as.length ≤ 20) (hp : ap.endLine = pos.line)
    (h : eMeth G.cf (run G.cf n) id m as k cx st = true) :
    wpAny (model G.prog G.w) fr.A (eval (.Call (.Attribute (.Name id p) m ap) as [] pos) fr.env) (Post G.ρ fr kp s ads k) (Exc G fr) s := by
  unfold eMeth at h
  obtain ⟨mm, F, hm⟩ := S.loc
  split at h
  · rename_i hl
    split at h
    · rename_i hv
      have hother : whichMe m ≠ .other ∧ run G.cf n (.as as fun vs st => meth G.cf m vs st k) cx st = true := by
        split at h
        · cases h
        · rename_i q; exact ⟨q, h⟩
      obtain ⟨hother, h⟩ := hother
      obtain ⟨u, hu, r⟩ := hm _ _ hv
      cases r with
      | words hω =>
        rename_i ω
        obtain ⟨f, hf, ht, hk, hsh, hc⟩ := MH.fn ω m hω hother
        obtain ⟨g1, g2⟩ := MH.ga ω hω
        obtain ⟨i, W, _⟩ := S.words ω hω
        obtain ⟨ti, td, hD⟩ := W.dict
        refine meth_rule hs hlen hp (ld F hu ?_ O.kind (local_kind O hl) (not_debug O (local_kind O hl)))
        refine method_fn (O.X.keeps F.keep) (x := ω.W) (ox := ω.ox) (C := ω.C) (od := some (ω.dict i ti (G.ρ.d0 + st.ws.lvl) td)) ⟨W.inst, rfl, rfl, hD⟩ g1 g2 hf ht (hsh _ _ _ _) ?_
        have args := H.as (pos := pos) h hs O S
        have go : ∀ {s₁ : Shared} {vs : List Value}, PostL G.ρ fr kp s ads (fun vs st => meth G.cf m vs st k) vs s₁ → G.cf.K.In s₁.heap ∧ wpAny (model G.prog G.w) fr.A (call (.ref f) ([.ref ω.W] ++ vs)) (Post G.ρ fr kp s ads k) (Exc G fr) s₁ := by
          intro s₁ vs h₁
          obtain ⟨xs, st₁, ads₁, rs, S₁, l₁, h₁⟩ := h₁
          obtain ⟨m₁, F₁, _⟩ := S₁.loc
          exact ⟨O.X.keeps F₁.keep, wpAny_mono (hc h₁ O F₁ S₁.new S₁.toCore.all rs) (fun v s' q => (PostC.back S₁ q).later l₁) fun _ _ e => e⟩
        cases as with
        | nil =>
          have hst : stAs (run G.cf (n - 1)) [] (fun vs st => meth G.cf m vs st k) cx st = true := by
            cases n with
            | zero => cases h
            | succ n => exact h
          exact callWith_K0 (O.X.keeps F.keep) hk (go ⟨[], st, ads, .nil, S, Later.refl _ _, hst⟩).2
        | cons e r =>
          obtain ⟨he, hr⟩ := star_cons (env := fr.env) hs
          exact callWith_K O.X hk (wpAny_mono args (fun vs s₁ h₁ => go h₁) fun _ _ e => e) he (plain_args hr)
    · rename_i i hv
      obtain ⟨u, hu, r⟩ := hm _ _ hv
      cases r with
      | lst ha =>
        rename_i a
        have hls : i < st.lists.length := by rw [← S.lists.1]; exact (List.getElem?_eq_some_iff.mp ha).1
        obtain ⟨us, ep0, hl0, _⟩ := S.lists.2 i a st.lists[i] ha (by simp [hls])
        split at h
        · rename_i hmn
          obtain rfl := eqS_iff.mp hmn
          cases as with
          | nil => cases h
          | cons e r =>
            obtain ⟨he, hr⟩ := star_cons (env := fr.env) hs
            refine meth_rule hs hlen hp (ld F hu ?_ O.kind (local_kind O hl) (not_debug O (local_kind O hl)))
            refine getMethod_list_append hl0 rfl rfl ?_
            refine callWith_method1 (wpAny_mono (H.as h hs O S) (fun vs s₁ h₁ => ?_) fun _ _ e => e) he (plain_args hr)
            obtain ⟨xs, st₁, ads₁, rs, S₁, l₁, h₁⟩ := h₁
            obtain ⟨⟨rr, rfl⟩, _⟩ := (fun x => x : _ → _) l₁
            dsimp only at h₁
            unfold kAppend at h₁
            split at h₁
            · split at h₁
              · rename_i v _ ys hys hpl
                split at h₁
                · rename_i hf
                  cases rs with
                  | @cons v0 x0 vs0 xs0 r0 rn =>
                    cases rn
                    obtain ⟨vs, ep, hl1, it⟩ := list_at S₁ (nth_app ha) hys
                    refine append_at (its := vs.toArray) (n := ep) hl1 (fun h' hsb he' => ?_) (by rw [List.size_toArray]; exact line_of (fits_size it O.ivs hf))
                    have he2 : h'.get? a = some (listObj (vs ++ [v0]) (ep + 1)) := by
                      rw [he']; simp
                    obtain ⟨S₂, l₂⟩ := S₁.setL (tk := s₁.toks) (nth_app ha) (it.app (.cons r0 .nil)) hsb he2
                    exact ⟨.none, _, _, .none, S₂, l₁.trans l₂, h₁⟩
                · cases h₁
              · cases h₁
            · cases h₁
        · split at h
          · rename_i e hmn
            obtain rfl := eqS_iff.mp hmn
            refine meth_rule hs hlen hp (ld F hu ?_ O.kind (local_kind O hl) (not_debug O (local_kind O hl)))
            refine getMethod_list_of (items := us.toArray) PySem.F.slot_list_index PySem.F.type_list_index ⟨_, hl0, rfl, ep0, rfl⟩ ⟨_, hl0, rfl⟩ ?_
            exact m_index H O S ha hs h
          · cases h
    · cases h
  · split at h
    · rename_i d hg hmn hid hd hnil
      obtain rfl := eqS_iff.mp hmn
      obtain rfl := eqS_iff.mp hid
      have hns : nsIn G.cf.K mainGlobals (Str.ofString "LEVELS") = some (some (.ref d)) := by
        unfold globRef at hd
        split at hd
        · rename_i a ha; cases hd; exact ha
        · cases hd
      obtain ⟨es, ep, hlk, hkeys, hsys⟩ := MH.lev d hd
      have hdo := (O.X.keeps F.keep) _ _ hlk
      cases as with
      | nil => cases hnil
      | cons e r =>
        obtain ⟨he, hr⟩ := star_cons (env := fr.env) hs
        refine meth_rule hs hlen hp (name_K F O.X O.T hns ?_ O.kind (global_kind O hg) (not_debug O (global_kind O hg)))
        refine getMethod_builtin (T := "dict") ⟨_, hdo, rfl⟩ PySem.F.plainAttrs_dict PySem.F.slot_dict_get PySem.F.type_dict_get (fun b e => by cases e; exact ⟨_, hdo, rfl⟩) ?_
        refine callWith_method1 (wpAny_mono (H.as h hs O S) (fun vs s₁ h₁ => ?_) fun _ _ e => e) he (plain_args hr)
        obtain ⟨xs, st₁, ads₁, rs, S₁, l₁, h₁⟩ := h₁
        obtain ⟨m₁, F₁, _⟩ := S₁.loc
        dsimp only at h₁
        unfold kGet at h₁
        split at h₁
        · split at h₁
          · rename_i ss dv _ j hj
            cases rs with
            | cons r0 rn =>
              cases rn with
              | cons r1 rn =>
                cases rn
                cases r0 with
                | str t hx =>
                  rename_i x
                  cases r1 with
                  | int _ u =>
                    have X₁ := O.X.keeps F₁.keep
                    have hdo₁ := X₁ _ _ hlk
                    refine call_meetsIn PySem.F.slot_dict_get ⟨_, hdo₁, rfl⟩ PySem.F.entry_dict_get (PySem.F.args_dict_get_3 _ _ _) (meets_dict_get_default (strKind G.prog G.w) (k := x) d (strKind_is G.prog G.w x t) hsys (.int dv u)) ⟨_, mapOf_K X₁ hlk hkeys, ?_⟩
                    rcases getInt_rule hj x hx with ⟨v, hv, hlit⟩ | ⟨hv, rfl⟩
                    · obtain ⟨tj, rfl⟩ := litV_int hlit
                      show Post G.ρ fr kp s ads k ((findBy Value.isStrOf es x).getD _) _
                      rw [find_K hlk hv]
                      exact (Post.here S₁ (.int _ _) h₁ _).later l₁
                    · show Post G.ρ fr kp s ads k ((findBy Value.isStrOf es x).getD _) _
                      rw [find_K hlk hv]
                      exact (Post.here S₁ (.int _ _) h₁ _).later l₁
          · cases h₁
        · cases h₁
    · cases h

theorem e_rule (MH : MethHyp G) (H : Snd G n) (O : FrmOk G fr cx) (S : Sim G.ρ fr kp st s ads) {x : Expr} {k : KV} (h : stE G.cf (run G.cf n) x k cx st = true) :
    wpAny (model G.prog G.w) fr.A (eval x fr.env) (Post G.ρ fr kp s ads k) (Exc G fr) s := by
  cases x with
  | Name id p => exact e_name O S h
  | Constant c a p => exact e_const S h
  | Compare l ops rs p => exact e_cmp H O S h
  | BoolOp op es p => exact e_bool H O S h
  | UnaryOp op e p => exact e_un H O S h
  | IfExp t b o p => exact e_if H O S h
  | Tuple es a p => exact e_tup H O S h
  | List es p => exact e_list H O S h
  | Subscript v i p => exact e_part H O S h
  | BinOp l op r p => exact e_bin H O S h
  | Call f as ks pos =>
    change eCall G.cf (run G.cf n) f as ks pos k cx st = true at h
    unfold eCall at h
    split at h
    · split at h
      · exact e_callN H O S h
      · split at h
        · rename_i hs hl hp
          exact e_meth MH H O S hs (Nat.le_of_ble_eq_true hl) (Nat.eq_of_beq_eq_true hp) h
        · cases h
      · cases h
    · cases h
  | _ => cases h
end
end Mine

namespace Mine
section
variable {G : Gl} {fr : Frm} {kp : Kp} {cx : Cx} {st : St} {s : Shared} {ads : List Addr} {n : Nat}

def ExcHeld (G : Gl) (fr : Frm) (x : Value) (s : Shared) : Prop :=
  Over G ∧ ∃ e a0, x = .ref e ∧ Heap.HeldW fr.base (fr.env :: fr.outer) e (.ref G.GF) a0 fr.L s.heap ∧ fr.g.UpToSlots s.heap ∧ OutAs G.ρ.s0 s
theorem ExcHeld.exc {x : Value} (h : ExcHeld G fr x s) : Exc G fr x s := let ⟨o, e, a0, a, b, c, d⟩ := h; ⟨o, e, a0, a, .inr b, c, d⟩

theorem fly_note (O : FrmOk G fr cx) {x : Value} {E : Value → Shared → Prop} (h : Exc G fr x s) : wpAny (model G.prog G.w) fr.A (noteFrame x fr.env) (fun _ s' => ExcHeld G fr x s') E s := by
  obtain ⟨o, e, a0, rfl, hf, hu, ho⟩ := h
  rcases hf with hf | hf
  · exact wpAny_looks_onW (Around.frames_deeper O.below.stack) rfl hf fun h' hh hs => ⟨o, e, a0, rfl, hh, hu.trans hs, ho⟩
  · exact wpAny_noteFrame_againW rfl hf.2.2.2 ⟨o, e, a0, rfl, hf, hu, ho⟩

theorem fly_back {x : Value} (h : ExcHeld G fr x s) : cameBackBy (model G.prog G.w) fr.A fr.env (Exc G fr) x s := by
  obtain ⟨o, e, a0, rfl, hh, hu, ho⟩ := h
  obtain ⟨f1, f2, f3, oe, vs, T, oT, ts, he, hcls, hd, h1, hnT, hTe, hT, hdT, h3⟩ := hh
  have hsz3 : 3 < ts.size := (Array.getElem?_eq_some_iff.mp h3).1
  have other : ∀ b, b ≠ T → (s.heap.update T (Obj.mapFields (·.setIfInBounds 3 (rawInt fr.L)))).get? b = s.heap.get? b := fun b hb => Heap.get?_update_other _ _ (Ne.symm hb)
  have noRecord : ∀ b o, s.heap.get? b = some o → (∀ vs, o.data ≠ .fields vs) → b ≠ T := fun b o hb hnf q => by
    rw [q, hT] at hb; injection hb with hb; subst hb; exact hnf ts hdT
  unfold cameBackBy
  refine wpAny_bind (wpAny_field he hd h1 ?_)
  rw [if_neg (show ¬ ((Value.ref T == Value.none) = true) from by simp)]
  unfold setFlight
  refine wpAny_bind (wpAny_field he hd h1 ?_)
  rw [if_pos (show (Value.ref T != Value.none) = true from by simp)]
  refine wpAny_setField hT hdT hsz3 ?_
  refine ⟨o, e, a0, rfl, .inr ⟨fun b o hbo => (other b fun q => by rw [q, hnT] at hbo; cases hbo).trans (f1 b o hbo), f2, f3.of_keeps fun b o hb hnf => ⟨o, (other b (noRecord b o hb hnf)).trans hb, rfl⟩, ?_⟩, ?_, ho⟩
  · exact ⟨oe, vs, T, _, _, (other e (Ne.symm hTe)).trans he, hcls, hd, h1, hnT, hTe, Heap.get?_update_self _ hT (Obj.isFreed_of_fields (Obj.data_mapFields hdT _)), Obj.data_mapFields hdT _, by simp [hsz3]; rfl⟩
  · exact hu.trans fun b o hb hnf => ⟨o.slots, (other b (noRecord b o hb hnf)).trans hb⟩

/-- an exception that leaves the frame -/
theorem fly_leave (O : FrmOk G fr cx) {x : Value} {Q : Unit → Shared → Prop} {E : Value → Shared → Prop} (h : Exc G fr x s)
    (k : ∀ e a0 h', x = .ref e → Heap.FlyingW fr.base fr.outer e (.ref G.GF) a0 h' → fr.g.UpToSlots h' → Q () { s with heap := h' }) :
    wpAny (model G.prog G.w) fr.A (leaving fr.env x) Q E s := by
  obtain ⟨o, e, a0, rfl, hf, hu, ho⟩ := h
  rcases hf with hf | hf
  · exact wpAny_leaves_onW (Around.frames_deeper O.below.stack) rfl hf fun h' hh hs => k e a0 h' rfl hh (hu.trans hs)
  · unfold leaving
    refine wpAny_bind (wpAny_noteFrame_againW rfl hf.2.2.2 ?_)
    refine wpAny_landsW hf fun h' hfl hs => k e a0 h' rfl ?_ (hu.trans hs)
    obtain ⟨k1, k2, ⟨_, _, k3⟩, k4⟩ := hfl
    exact ⟨k1, k2, k3, k4⟩

/-- what a loop's end says -/
def LoopR (G : Gl) (fr : Frm) (kp : Kp) (s : Shared) (ads : List Addr) (k : KF) : Result → Shared → Prop := fun r s' => match r with
  | .ok f => PostF G.ρ fr kp s ads k f s'
  | .error e => cameBackBy (model G.prog G.w) fr.A fr.env (Exc G fr) e s'
theorem noted (O : FrmOk G fr cx) {k : KF} {x : Value} {s' : Shared} (h : Exc G fr x s') : notedBy (model G.prog G.w) fr.A fr.env (fun e s' => LoopR G fr kp s ads k (.error e) s') x s' :=
  wpAny_mono (fly_note O (E := fun e s'' => LoopR G fr kp s ads k (.error e) s'') h) (fun _ _ q => fly_back q) fun _ _ e => e

theorem s_while (H : ∀ m, m ≤ n → Snd G m) (O : FrmOk G fr cx) (S : Sim G.ρ fr kp st s ads) {t : Expr} {b : List Stmt} {pos : Pos} {k : KF} (h : run G.cf n (.wh t b k) cx st = true) :
    wpAny (model G.prog G.w) fr.A (exec (.While t b [] pos) fr.env) (PostF G.ρ fr kp s ads k) (Exc G fr) s := by
  refine wpAny_While ?_
  show codeAny _ _ _ (LoopR G fr kp s ads k) s
  refine codeAny_whileLoop (fun m s' => m ≤ n ∧ ∃ st' ads', Sim G.ρ fr kp st' s' ads' ∧ Later ads s.heap ads' s'.heap ∧ run G.cf m (.wh t b k) cx st' = true) ?_ n ⟨Nat.le_refl _, st, ads, S, Later.refl _ _, h⟩
  rintro m s' ⟨hm, st', ads', S', l', h'⟩
  cases m with
  | zero => cases h'
  | succ m =>
    have hs := H m (by omega)
    replace h' : stWh (run G.cf m) t b k cx st' = true := h'
    unfold stWh at h'
    refine wpAny_mono (hs.t h' O S') (fun c s₁ h₁ => ?_) fun _ _ e => noted O e
    obtain ⟨st₁, ads₁, S₁, l₁, h₁⟩ := h₁
    have l₁ := l'.trans l₁
    cases c with
    | false =>
      simp only [Bool.false_eq_true, if_false]
      exact wpAny_execs_nil ⟨.next, st₁, ads₁, .next, S₁, l₁, h₁⟩
    | true =>
      simp only [if_true]
      refine wpAny_mono (hs.ss h₁ O S₁) (fun f s₂ h₂ => ?_) fun _ _ e => noted O e
      obtain ⟨x, st₂, ads₂, r, S₂, l₂, h₂⟩ := h₂
      have l₂ := l₁.trans l₂
      cases r with
      | next => exact ⟨m, by omega, by omega, st₂, ads₂, S₂, l₂, h₂⟩
      | brk => exact ⟨.next, st₂, ads₂, .next, S₂, l₂, h₂⟩
      | ret r => exact ⟨.ret _, st₂, ads₂, .ret r, S₂, l₂, h₂⟩
end
end Mine

namespace Mine
section
variable {G : Gl} {fr : Frm} {kp : Kp} {cx : Cx} {st : St} {s : Shared} {ads : List Addr} {n : Nat}

theorem tNames_are : ∀ {es : List Expr} {xs : List Str}, tNames es = some xs → es.length = xs.length ∧ ∀ (i : Nat) e x, es[i]? = some e → xs[i]? = some x → ∃ p, e = .Name x p
  | [], xs, h => by cases h; exact ⟨rfl, fun i e x h => by simp at h⟩
  | e :: r, xs, h => by
    cases e with
    | Name y p =>
      simp only [tNames] at h
      split at h
      · rename_i l hl
        cases h
        obtain ⟨e1, e2⟩ := tNames_are hl
        refine ⟨by simp [e1], fun i e x h1 h2 => ?_⟩
        cases i with
        | zero => simp at h1 h2; subst h1; subst h2; exact ⟨p, rfl⟩
        | succ i => exact e2 i e x (by simpa using h1) (by simpa using h2)
      · cases h
    | _ => cases h
theorem allLocal_at {cx : Cx} : ∀ {xs : List Str}, allLocal cx.scope xs = true → ∀ x ∈ xs, isLocal cx x = true
  | [], _, x, hx => by cases hx
  | y :: r, h, x, hx => by
    unfold allLocal at h
    split at h
    · rename_i hy
      rcases List.mem_cons.mp hx with rfl | hx
      · unfold isLocal; rw [hy]
      · exact allLocal_at h x hx
    · cases h

/-- names stored one behind the other -/
theorem store_all (O : FrmOk G fr cx) {E : Value → Shared → Prop} : ∀ {xs : List Str} {vs : List Value} {ys : List AV} {m : List (Str × AV)} {st : St} {s : Shared} (ps : List (Str × Pos)), ps.map (·.1) = xs → Sim G.ρ fr kp st s ads → RepVs G.ρ ads s.heap vs ys →
    allLocal cx.scope xs = true → putAll xs ys st.loc = some m →
    wpAny (model G.prog G.w) fr.A (assignInOrder (ps.map fun q => fun v => assign (.Name q.1 q.2) fr.env v) vs) (fun _ s' => Sim G.ρ fr kp ⟨m, st.lists, st.ws⟩ s' ads ∧ Later ads s.heap ads s'.heap) E s
  | [], vs, ys, m, st, s, ps, e, S, r, _, h => by
    cases ps with
    | cons _ _ => simp at e
    | nil =>
      cases r with
      | nil => simp only [putAll] at h; cases h; exact assignInOrder_nil ⟨S, Later.refl _ _⟩
      | cons _ _ => simp only [putAll] at h; cases h
  | x :: xs, vs, ys, m, st, s, ps, e, S, r, hl, h => by
    cases ps with
    | nil => simp at e
    | cons q ps =>
      simp only [List.map_cons, List.cons.injEq] at e
      obtain ⟨e1, e2⟩ := e
      subst e1
      cases r with
      | nil => simp only [putAll] at h; cases h
      | @cons v y vs ys rv rs =>
        simp only [putAll] at h
        have hl1 : isLocal cx q.1 = true := allLocal_at hl _ (.head _)
        have hl2 : allLocal cx.scope xs = true := by
          unfold allLocal at hl
          split at hl
          · exact hl
          · cases hl
        rw [List.map_cons]
        refine assignInOrder_cons (assign_Name (wpAny_mono (store_rule O S rv hl1) (fun _ s₁ q₁ => ?_) fun _ _ e => e))
        obtain ⟨S₁, l₁⟩ := q₁
        exact wpAny_mono (store_all O ps e2 S₁ (rs.mono l₁) hl2 h) (fun _ s₂ q₂ => ⟨q₂.1, l₁.trans q₂.2⟩) fun _ _ e => e
theorem find_putAll {α : Type} (z : Str) : ∀ {xs : List Str} {vs : List α} {m m' : List (Str × α)}, putAll xs vs m = some m' → apart xs = true → find z m' = if z ∈ xs then find z (xs.zip vs) else find z m
  | [], vs, m, m', h, _ => by
    cases vs with
    | nil => simp only [putAll] at h; cases h; simp
    | cons _ _ => simp only [putAll] at h; cases h
  | x :: xs, [], m, m', h, _ => by simp only [putAll] at h; cases h
  | x :: xs, v :: vs, m, m', h, ha => by
    simp only [putAll] at h
    have hx : x ∉ xs ∧ apart xs = true := by
      unfold apart at ha
      split at ha
      · cases ha
      · rename_i q; exact ⟨inS_false.mp q, ha⟩
    rw [find_putAll z h hx.2, find_put]
    show _ = if z ∈ x :: xs then (match eqS z x with | true => some v | false => find z (xs.zip vs)) else find z m
    by_cases hz : z = x
    · subst hz
      rw [if_neg hx.1, if_pos rfl, if_pos (List.mem_cons_self), eqS_refl]
    · rw [if_neg hz, eqS_false.mpr hz]
      by_cases hzx : z ∈ xs
      · rw [if_pos hzx, if_pos (List.mem_cons_of_mem _ hzx)]
      · rw [if_neg hzx, if_neg (by simp [hz, hzx])]
end
end Mine

namespace Mine

theorem filter_le (c : Str → Pos → Bool) : ∀ es : List Expr, (es.filterMap fun e => match e with | .Name id pos => if c id pos = true then some id else none | _ => none).length ≤ es.length
  | [] => Nat.le_refl _
  | e :: r => by
    have := filter_le c r
    rw [List.filterMap_cons]
    split
    · simp; omega
    · simp; omega
theorem filter_names (c : Str → Pos → Bool) : ∀ {es : List Expr} {xs : List Str}, tNames es = some xs →
    (es.filterMap fun e => match e with | .Name id pos => if c id pos = true then some id else none | _ => none).length = es.length →
    (es.filterMap fun e => match e with | .Name id pos => if c id pos = true then some id else none | _ => none) = xs
  | [], xs, h, _ => by cases h; rfl
  | e :: r, xs, h, hl => by
    cases e with
    | Name y p =>
      simp only [tNames] at h
      split at h
      · rename_i l hl'
        cases h
        rw [List.filterMap_cons] at hl ⊢
        dsimp only at hl ⊢
        by_cases hc : c y p = true
        · rw [if_pos hc] at hl ⊢
          dsimp only at hl ⊢
          rw [filter_names c hl' (by simpa using hl)]
        · rw [if_neg hc] at hl
          dsimp only at hl
          have := filter_le c r
          simp only [List.length_cons] at hl
          omega
      · cases h
    | _ => cases h

theorem swap_cases {es : List Expr} {xs : List Str} {e : Expr} {k : Nat} {tp : Pos} {env : Env} (hn : tNames es = some xs) (hf : swapFine e = true) :
    swappedStores [.Tuple es k tp] e env = pure none ∨ swappedStores [.Tuple es k tp] e env = pure (some xs) := by
  cases e with
  | Tuple vs a p =>
    unfold swappedStores
    dsimp only
    split
    · exact .inl rfl
    · split
      · exact .inl rfl
      · split
        · exact .inl rfl
        · rename_i h1 h2 h3
          split
          · exact .inl rfl
          · rename_i h4
            split
            · rename_i h5
              exfalso
              unfold swapFine at hf
              simp_all
            · right
              simp only [Bool.or_eq_true, not_or, bne_iff_ne, ne_eq, Decidable.not_not] at h3
              exact congrArg (fun l : List Str => (pure (some l) : Sem (Option (List Str)))) (filter_names (fun id pos => env.kindOf id == some NameKind.local && pos.line == (Option.map (fun x => (Expr.pos x).line) es.head?).getD 0) hn h3.1)
  | _ => exact .inl rfl

theorem zip_find {α : Type} (z : Str) : ∀ {xs : List Str} {vs : List α} {v : α}, apart xs = true → (z, v) ∈ xs.zip vs → find z (xs.zip vs) = some v
  | [], vs, v, _, h => by simp at h
  | x :: xs, [], v, _, h => by simp at h
  | x :: xs, u :: vs, v, ha, h => by
    have hx : x ∉ xs ∧ apart xs = true := by
      unfold apart at ha
      split at ha
      · cases ha
      · rename_i q; exact ⟨inS_false.mp q, ha⟩
    show (match eqS z x with | true => some u | false => find z (xs.zip vs)) = some v
    simp only [List.zip_cons_cons, List.mem_cons, Prod.mk.injEq] at h
    rcases h with ⟨rfl, rfl⟩ | h
    · rw [eqS_refl]
    · have : z ≠ x := by
        rintro rfl
        exact hx.1 (List.of_mem_zip h).1
      rw [eqS_false.mpr this]
      exact zip_find z hx.2 h
theorem apart_iff : ∀ {xs : List Str}, apart xs = true ↔ xs.Nodup
  | [] => by simp [apart]
  | x :: xs => by
    unfold apart
    cases h : inS x xs with
    | true => simp [inS_iff.mp h]
    | false => simp only [List.nodup_cons, inS_false.mp h, not_false_eq_true, true_and]; exact apart_iff
theorem putAll_some {α : Type} : ∀ {xs : List Str} {vs : List α} {m : List (Str × α)}, xs.length = vs.length → ∃ m', putAll xs vs m = some m'
  | [], [], m, _ => ⟨m, rfl⟩
  | [], _ :: _, _, h => by simp at h
  | _ :: _, [], _, h => by simp at h
  | x :: xs, v :: vs, m, h => putAll_some (m := put x v m) (by simpa using h)
theorem putAll_len {α : Type} : ∀ {xs : List Str} {vs : List α} {m m' : List (Str × α)}, putAll xs vs m = some m' → xs.length = vs.length
  | [], [], _, _, _ => rfl
  | [], _ :: _, _, _, h => by simp only [putAll] at h; cases h
  | _ :: _, [], _, _, h => by simp only [putAll] at h; cases h
  | x :: xs, v :: vs, m, m', h => by simp only [putAll] at h; simp [putAll_len h]
theorem zip_rev {α β : Type} : ∀ {xs : List α} {vs : List β}, xs.length = vs.length → xs.reverse.zip vs.reverse = (xs.zip vs).reverse
  | [], [], _ => rfl
  | [], _ :: _, h => by simp at h
  | _ :: _, [], h => by simp at h
  | x :: xs, v :: vs, h => by
    have h' : xs.length = vs.length := by simpa using h
    rw [List.reverse_cons, List.reverse_cons, List.zip_append (by simp [h']), zip_rev h']
    simp
/-- the order of the stores is no matter -/
theorem putAll_rev {α : Type} {xs : List Str} {vs : List α} {m m₁ m₂ : List (Str × α)} (ha : apart xs = true) (h₁ : putAll xs vs m = some m₁) (h₂ : putAll xs.reverse vs.reverse m = some m₂) (z : Str) : find z m₁ = find z m₂ := by
  have ha' : apart xs.reverse = true := apart_iff.mpr (List.pairwise_reverse.mpr ((apart_iff.mp ha).imp Ne.symm))
  rw [find_putAll z h₁ ha, find_putAll z h₂ ha']
  by_cases hz : z ∈ xs
  · rw [if_pos hz, if_pos (by simpa using hz)]
    have hl := putAll_len h₁
    obtain ⟨i, hi⟩ := List.getElem?_of_mem hz
    obtain ⟨h1, h2⟩ := List.getElem?_eq_some_iff.mp hi
    have hm : (z, vs[i]'(hl ▸ h1)) ∈ xs.zip vs := by
      refine List.mem_of_getElem? (i := i) ?_
      rw [List.getElem?_zip_eq_some]
      exact ⟨hi, by simp⟩
    rw [zip_find z ha hm]
    have hr : xs.reverse.zip vs.reverse = (xs.zip vs).reverse := zip_rev hl
    rw [zip_find z ha' (by rw [hr]; simpa using hm)]
  · rw [if_neg hz, if_neg (by simpa using hz)]

section
variable {G : Gl} {fr : Frm} {kp : Kp} {cx : Cx} {st : St} {s : Shared} {ads : List Addr} {n : Nat}
theorem Sim.locs {ρ : Rho} {m₁ m₂ : List (Str × AV)} {l : List (List AV)} {ws : WS} (S : Sim ρ fr kp ⟨m₁, l, ws⟩ s ads) (h : ∀ z, find z m₂ = find z m₁) : Sim ρ fr kp ⟨m₂, l, ws⟩ s ads := by
  obtain ⟨m, F, hm⟩ := S.loc
  exact ⟨⟨S.lists, S.words, S.src, S.kept, S.apart, S.lv, S.out⟩, ⟨m, F, fun x v e => hm x v (by rw [← h]; exact e)⟩, S.new, S.off⟩
theorem RepVs.rev {ρ : Rho} {h : Heap} {vs : List Value} {xs : List AV} (r : RepVs ρ ads h vs xs) : RepVs ρ ads h vs.reverse xs.reverse := by
  refine RepVs.of_at (by simp [r.length]) fun i v x h1 h2 => ?_
  have e := r.length
  have hi : i < vs.length := by have := (List.getElem?_eq_some_iff.mp h1).1; simpa using this
  rw [List.getElem?_reverse hi] at h1
  rw [List.getElem?_reverse (e ▸ hi)] at h2
  exact r.at _ v x h1 (by rw [← e] at h2; exact h2)
end
end Mine

namespace Mine
section
variable {G : Gl} {fr : Frm} {kp : Kp} {cx : Cx} {st : St} {s : Shared} {ads : List Addr} {n : Nat}

theorem each_names (env : Env) : ∀ {es : List Expr} {xs : List Str}, tNames es = some xs → ∃ ps : List (Str × Pos), ps.map (·.1) = xs ∧ es = ps.map (fun q => Expr.Name q.1 q.2)
  | [], xs, h => by cases h; exact ⟨[], rfl, rfl⟩
  | e :: r, xs, h => by
    cases e with
    | Name y p =>
      simp only [tNames] at h
      split at h
      · rename_i l hl
        cases h
        obtain ⟨ps, e1, e2⟩ := each_names env hl
        exact ⟨(y, p) :: ps, by simp [e1], by simp [e2]⟩
      · cases h
    | _ => cases h
theorem each_is (env : Env) : ∀ ps : List (Str × Pos), assignEach (ps.map fun q => Expr.Name q.1 q.2) env = ps.map fun q => (false, fun v => assign (.Name q.1 q.2) env v)
  | [] => rfl
  | q :: ps => by
    show (false, fun v => assign (.Name q.1 q.2) env v) :: assignEach (ps.map fun q => Expr.Name q.1 q.2) env = _
    rw [each_is env ps]; rfl
theorem handled_A (O : FrmOk G fr cx) : fr.A.handled = none := O.hh

theorem ext_of {h h' : Heap} (k : Heap.ExtBut h.objs.size h h') : ∀ b o, h.get? b = some o → h'.get? b = some o := fun b o e => k b o (Nat.ne_of_lt (Heap.lt_size e)) e

theorem bind_rule (O : FrmOk G fr cx) (S : Sim G.ρ fr kp st s ads) {tgt : Expr} {u : Value} {v : AV} {m : List (Str × AV)} (r : RepV G.ρ ads s.heap u v) (h : bindT cx tgt v st.loc = some m) {E : Value → Shared → Prop} :
    wpAny (model G.prog G.w) fr.A (assign tgt fr.env u) (fun _ s' => Sim G.ρ fr kp ⟨m, st.lists, st.ws⟩ s' ads ∧ Later ads s.heap ads s'.heap) E s := by
  unfold bindT at h
  split at h
  · split at h
    · rename_i hl; cases h; exact assign_Name (store_rule O S r hl)
    · cases h
  · split at h
    · rename_i xs vs hx
      split at h
      · rename_i hl ha
        cases r with
        | @tup t us _ ep hT hlen hat =>
          obtain ⟨ps, e1, rfl⟩ := each_names fr.env hx
          have hz : (ps.map fun q => Expr.Name q.1 q.2).length = us.length := by
            have := putAll_len h
            rw [hlen, ← this, ← e1]; simp
          refine assign_Tuple_tuple (items := us.toArray) (handled_A O) ⟨_, hT, rfl, ep, rfl⟩ (by rw [each_is]; simpa using hz) (by rw [each_is]; simp) fun h' hk => ?_
          have S' := S.ext (tk := s.toks) (ext_of hk)
          rw [each_is, List.map_map]
          refine wpAny_mono (store_all O ps e1 S' (RepVs.of_at hlen fun i v x h1 h2 => (hat i v x h1 h2).mono (Later.ext (ext_of hk))) hl h) (fun _ s₂ q => ⟨q.1, (Later.ext (ext_of hk)).trans q.2⟩) fun _ _ e => e
      · cases h
    · cases h
  · cases h

theorem bind_all (O : FrmOk G fr cx) {E : Value → Shared → Prop} : ∀ {xs : List Str} {vs : List Value} {ys : List AV} {m : List (Str × AV)} {st : St} {s : Shared}, Sim G.ρ fr kp st s ads → RepVs G.ρ ads s.heap vs ys →
    (∀ x ∈ xs, isLocal cx x = true) → putAll xs ys st.loc = some m →
    wpAny (model G.prog G.w) fr.A (assignInOrder (xs.map fun x => bindName fr.env x) vs) (fun _ s' => Sim G.ρ fr kp ⟨m, st.lists, st.ws⟩ s' ads ∧ Later ads s.heap ads s'.heap) E s
  | [], vs, ys, m, st, s, S, r, _, h => by
    cases r with
    | nil => simp only [putAll] at h; cases h; exact assignInOrder_nil ⟨S, Later.refl _ _⟩
    | cons _ _ => simp only [putAll] at h; cases h
  | x :: xs, vs, ys, m, st, s, S, r, hl, h => by
    cases r with
    | nil => simp only [putAll] at h; cases h
    | @cons v y vs ys rv rs =>
      simp only [putAll] at h
      rw [List.map_cons]
      refine assignInOrder_cons (bindName_ (wpAny_mono (store_rule O S rv (hl x (.head _))) (fun _ s₁ q₁ => ?_) fun _ _ e => e))
      obtain ⟨S₁, l₁⟩ := q₁
      exact wpAny_mono (bind_all O S₁ (rs.mono l₁) (fun y hy => hl y (.tail _ hy)) h) (fun _ s₂ q₂ => ⟨q₂.1, l₁.trans q₂.2⟩) fun _ _ e => e

theorem s_unpack (H : Snd G n) (O : FrmOk G fr cx) (S : Sim G.ρ fr kp st s ads) {es : List Expr} {xs : List Str} {a : Nat} {tp pos : Pos} {e : Expr} {k : KF} (hx : tNames es = some xs) (hc : isComp e = false)
    (hl : allLocal cx.scope xs = true) (ha : apart xs = true) (hf : swapFine e = true) (h : run G.cf n (.e e fun v st => kUnpack xs k v st) cx st = true) :
    wpAny (model G.prog G.w) fr.A (exec (.Assign [.Tuple es a tp] e pos) fr.env) (PostF G.ρ fr kp s ads k) (Exc G fr) s := by
  have fin : ∀ {s₁ : Shared} {v : Value}, Post G.ρ fr kp s ads (fun v st => kUnpack xs k v st) v s₁ → ∃ t us ep ys m st₁ ads₁, v = .ref t ∧ s₁.heap.get? t = some (tupObj us ep) ∧ RepVs G.ρ ads₁ s₁.heap us ys ∧ Sim G.ρ fr kp st₁ s₁ ads₁ ∧ Later ads s.heap ads₁ s₁.heap ∧
      putAll xs ys st₁.loc = some m ∧ k .next ⟨m, st₁.lists, st₁.ws⟩ = true := by
    rintro s₁ v ⟨x, st₁, ads₁, r, S₁, l₁, h₁⟩
    dsimp only at h₁
    unfold kUnpack at h₁
    split at h₁
    · split at h₁
      · rename_i m hm
        cases r with
        | @tup t us ys ep hT hlen hat => exact ⟨t, us, ep, _, m, st₁, ads₁, rfl, hT, RepVs.of_at hlen hat, S₁, l₁, hm, h₁⟩
      · cases h₁
    · cases h₁
  have hsw : swapsWithSole [.Tuple es a tp] e pos.line fr.env = pure false := by
    show swapsWith e (some (.Tuple es a tp)) pos.line fr.env = pure false
    exact no_swap hc
  rcases swap_cases (k := a) (tp := tp) (env := fr.env) hx hf with hw | hw
  · refine Assign_Tuple (wpAny_mono (H.e h O S) (fun v s₁ h₁ => ?_) fun _ _ e => e) hsw hw
    obtain ⟨t, us, ep, ys, m, st₁, ads₁, rfl, hT, r, S₁, l₁, hm, hk⟩ := fin h₁
    have hb : bindT cx (.Tuple es a tp) (.tup ys) st₁.loc = some m := by
      unfold bindT
      simp only [hx, hl, ha]
      exact hm
    exact wpAny_mono (bind_rule O S₁ (RepV.tup hT r.length r.at) hb) (fun _ s₂ q => ⟨.next, _, _, .next, q.1, l₁.trans q.2, hk⟩) fun _ _ e => e
  · refine Assign_Tuple_swapped (wpAny_mono (H.e h O S) (fun v s₁ h₁ => ?_) fun _ _ e => e) hsw hw
    obtain ⟨t, us, ep, ys, m, st₁, ads₁, rfl, hT, r, S₁, l₁, hm, hk⟩ := fin h₁
    have hz : xs.length = us.toArray.size := by rw [putAll_len hm, ← r.length]; simp
    rw [hz]
    refine unpackItems_tuple (handled_A O) ⟨_, hT, rfl, ep, rfl⟩ fun h' hkk => ?_
    have S' := S₁.ext (tk := s₁.toks) (ext_of hkk)
    obtain ⟨m', hm'⟩ := putAll_some (xs := xs.reverse) (vs := ys.reverse) (m := st₁.loc) (by simp [putAll_len hm])
    refine wpAny_mono (bind_all O S' ((r.mono (Later.ext (ext_of hkk))).rev) (fun y hy => allLocal_at hl y (by simpa using hy)) hm') (fun _ s₂ q => ?_) fun _ _ e => e
    exact ⟨.next, ⟨m, st₁.lists, st₁.ws⟩, _, .next, q.1.locs fun z => putAll_rev ha hm hm' z, (l₁.trans (Later.ext (ext_of hkk))).trans q.2, hk⟩
end
end Mine

namespace Mine
section
variable {G : Gl} {fr : Frm} {kp : Kp} {cx : Cx} {st : St} {s : Shared} {ads : List Addr} {n : Nat}

theorem muts_there {ρ : Rho} (x : Core ρ kp st s ads) {a : Addr} (hm : a ∈ muts ρ ads) : ∃ o, s.heap.get? a = some o ∧ (o.cls = .type "dict" ∨ o.cls = .type "list") := by
  unfold muts at hm
  simp only [List.mem_append] at hm
  rcases hm with (hm | hm) | hm
  · cases e : ρ.wd with
    | none => rw [e] at hm; simp at hm
    | some ω =>
      rw [e] at hm
      simp only [List.mem_singleton] at hm
      obtain ⟨i, W, _⟩ := x.words ω e
      obtain ⟨ti, td, q⟩ := W.dict
      exact ⟨_, hm ▸ q, .inl rfl⟩
  · cases e : ρ.src with
    | none => rw [e] at hm; simp at hm
    | some S =>
      rw [e] at hm
      simp only [List.mem_singleton] at hm
      obtain ⟨i, j, ti, tj, oS, n, q, hc, _⟩ := x.src S e
      exact ⟨_, hm ▸ q, .inr hc⟩
  · obtain ⟨i, hi⟩ := List.getElem?_of_mem hm
    have hl : i < st.lists.length := by rw [← x.lists.1]; exact (List.getElem?_eq_some_iff.mp hi).1
    obtain ⟨vs, n, q, _⟩ := x.lists.2 i a st.lists[i] hi (by simp [hl])
    exact ⟨_, q, .inr rfl⟩

/-- a loop's own iterator, what it goes over -/
def kpI (kp : Kp) (I : Addr) (oI : Obj) (ax : Addr) (axo : Obj) : Kp := fun b o => kp b o ∨ (b = I ∧ o = oI) ∨ (b = ax ∧ o = axo)

theorem Sim.less {ρ : Rho} {kp' : Kp} (S : Sim ρ fr kp' st s ads) (h : ∀ b o, kp b o → kp' b o) : Sim ρ fr kp st s ads :=
  ⟨⟨S.lists, S.words, S.src, fun b o q => S.kept b o (h b o q), S.apart, S.lv, S.out⟩, S.loc, S.new, fun b o q => S.off b o (h b o q)⟩

/-- something of no one's is changed -/
theorem Sim.iter {ρ : Rho} {I : Addr} {oI : Obj} (S : Sim ρ fr kp st s ads) (hI : s.heap.get? I = some oI) (nI : I ∉ muts ρ ads) (LI : I ≠ fr.L) {h' : Heap} {T : String} (hT : oI.cls = .type T) (t1 : T ≠ "tuple") (t2 : T ≠ "list") (hs : Heap.ExtBut I s.heap h')
    (hk : ∀ o, ¬ kp I o) (hg : fr.g.get? I = none) {tk : Nat} : Sim ρ fr kp st { s with heap := h', toks := tk } ads ∧ Later ads s.heap ads h' := by
  have kt : Later ads s.heap ads h' := Later.but hs hI (by rw [hT]; simpa using t1)
  have off : ∀ b ∈ muts ρ ads, ∀ o, s.heap.get? b = some o → h'.get? b = some o := fun b hb o q => hs b o (fun z => nI (z ▸ hb)) q
  obtain ⟨m, F, hm⟩ := S.loc
  refine ⟨⟨⟨S.lists.mono kt fun a ha o q => off a ?_ o q, fun ω e => ?_, fun S' e => (S.src S' e).mono fun o q => off S' (mem_src e) o q, fun b o q => ?_, S.apart, S.lv, S.out⟩,
    ⟨m, frBut F hs hg LI, fun z w e => let ⟨u, e', r⟩ := hm z w e; ⟨u, e', r.mono kt⟩⟩, S.new, S.off⟩, kt⟩
  · obtain ⟨i, hi⟩ := List.getElem?_of_mem ha; exact mem_ads hi
  · obtain ⟨i, W, M, p, nR⟩ := S.words ω e
    refine ⟨i, W.but hs hI (fun q => nI (q ▸ mem_wd e)) ?_ (by rw [hT]; intro C q; cases q) (by rw [hT]; simpa using t1), M, p, nR⟩
    intro q
    obtain ⟨n, hR⟩ := W.rows
    rw [q, hI] at hR
    cases hR
    simp only [Value.type.injEq] at hT
    exact t2 hT.symm
  · exact ⟨hs b o (fun z => hk o (z ▸ q)) (S.kept b o q).1, (S.kept b o q).2⟩
theorem Sim.more {ρ : Rho} {I ax : Addr} {oI axo : Obj} (S : Sim ρ fr kp st s ads) (hI : s.heap.get? I = some oI) (nI : I ∉ muts ρ ads) (LI : I ≠ fr.L) (hx : s.heap.get? ax = some axo) (nx : ax ∉ muts ρ ads) (Lx : ax ≠ fr.L) :
    Sim ρ fr (kpI kp I oI ax axo) st s ads := by
  refine ⟨⟨S.lists, S.words, S.src, fun b o q => ?_, S.apart, S.lv, S.out⟩, S.loc, S.new, fun b o q => ?_⟩
  · rcases q with q | ⟨rfl, rfl⟩ | ⟨rfl, rfl⟩
    · exact S.kept b o q
    · exact ⟨hI, nI⟩
    · exact ⟨hx, nx⟩
  · rcases q with q | ⟨rfl, rfl⟩ | ⟨rfl, rfl⟩
    · exact S.off b o q
    · exact LI
    · exact Lx

theorem letgo_rule {A : Around} {E : Value → Shared → Prop} {tgt : Expr} {I ax : Addr} {v : Value} {oI : Obj} {T : String} {i : Nat} (hI : s.heap.get? I = some oI) (hc : oI.cls = .type T) (hd : oI.data = .fields #[.ref ax, .int i 0])
    (hT : (["enumerate", "zip", "dict_itemiterator", "dict_reverseitemiterator", "odict_iterator", "itertools.zip_longest", "itertools.pairwise"] : List String).contains T = false) :
    wpAny (model G.prog G.w) A (letOwnedTupleGo tgt (.ref I) v) (fun _ s' => s' = s) E s := by
  have go : wpAny (model G.prog G.w) A (do
      let (.ref r, .ref a) := ((Value.ref I, v) : Value × Value) | return
      let o ← load r
      match o.cls, o.data with
      | .type n, .fields vs =>
        if ["enumerate", "zip", "dict_itemiterator", "dict_reverseitemiterator", "odict_iterator", "itertools.zip_longest", "itertools.pairwise"].contains n && vs[0]? == some (rawInt a) then
          rule "for.unpacks-the-owned-tuple"
          updateField r 0 .none
      | _, _ => pure ()) (fun _ s' => s' = s) E s := by
    cases v with
    | ref a =>
      refine wpAny_bind (wpAny_load hI ?_)
      rw [hc, hd]
      dsimp only
      rw [hT, Bool.false_and, if_neg (by decide)]
      exact wpAny_pure rfl
    | _ => exact wpAny_pure rfl
  unfold letOwnedTupleGo
  cases tgt <;> first | exact go | exact wpAny_pure rfl

theorem s_loop (H : ∀ m, m ≤ n → Snd G m) (O : FrmOk G fr cx) {tgt : Expr} {b : List Stmt} {k : KF} {T : String} {I ax : Addr} {axo oI₀ : Obj} {items : List Value} {xs : List AV}
    (t1 : T ≠ "tuple") (t2 : T ≠ "list") (t4 : (["enumerate", "zip", "dict_itemiterator", "dict_reverseitemiterator", "odict_iterator", "itertools.zip_longest", "itertools.pairwise"] : List String).contains T = false)
    (hax : ax ≠ I) (hk : ∀ o, ¬ kp I o) (hg : fr.g.get? I = none)
    (hItem : ∀ {s' : Shared} {i : Nat} {v : Value} {oI : Obj} {Q : Option Value → Shared → Prop} {E : Value → Shared → Prop}, s'.heap.get? I = some oI → oI.cls = .type T → oI.data = .fields #[.ref ax, .int i 0] → s'.heap.get? ax = some axo → items[i]? = some v →
      (∀ h' oI', h'.get? I = some oI' → oI'.cls = .type T → oI'.data = .fields #[.ref ax, .int (i + 1 : Nat) 0] → Heap.SameBut I s'.heap h' → Q (some v) { s' with heap := h' }) → wpAny (model G.prog G.w) fr.A (pyNext (.ref I)) Q E s')
    (hEnd : ∀ {s' : Shared} {i : Nat} {oI : Obj} {Q : Option Value → Shared → Prop} {E : Value → Shared → Prop}, s'.heap.get? I = some oI → oI.cls = .type T → oI.data = .fields #[.ref ax, .int i 0] → s'.heap.get? ax = some axo → items[i]? = none →
      (∀ h', Heap.ExtBut I s'.heap h' → Q none { s' with heap := h' }) → wpAny (model G.prog G.w) fr.A (pyNext (.ref I)) Q E s')
    (S : Sim G.ρ fr (kpI kp I oI₀ ax axo) st s ads) (hc0 : oI₀.cls = .type T) (hd0 : oI₀.data = .fields #[.ref ax, .int (0 : Nat) 0]) (r0 : RepVs G.ρ ads s.heap items xs) (h : run G.cf n (.fo tgt b xs k) cx st = true) :
    codeAny (model G.prog G.w) fr.A (.forLoop tgt (.ref I) b [] fr.env) (LoopR G fr kp s ads k) s := by
  refine codeAny_forLoop_any (fun m s' => m ≤ n ∧ ∃ i st' ads' oI, oI.cls = .type T ∧ oI.data = .fields #[.ref ax, .int (i : Nat) 0] ∧ Sim G.ρ fr (kpI kp I oI ax axo) st' s' ads' ∧ Later ads s.heap ads' s'.heap ∧ i ≤ items.length ∧ run G.cf m (.fo tgt b (xs.drop i) k) cx st' = true) ?_ n
    ⟨Nat.le_refl _, 0, st, ads, oI₀, hc0, hd0, S, Later.refl _ _, Nat.zero_le _, h⟩
  rintro m s' ⟨hm, i, st', ads', oI, hc, hd, S', l', hi, h'⟩
  cases m with
  | zero => cases h'
  | succ m =>
    have hs := H m (by omega)
    replace h' : stFo (run G.cf m) tgt b (xs.drop i) k cx st' = true := h'
    unfold stFo at h'
    have hlen := r0.length
    obtain ⟨hI, nI⟩ := S'.kept I oI (.inr (.inl ⟨rfl, rfl⟩))
    obtain ⟨hx, nx⟩ := S'.kept ax axo (.inr (.inr ⟨rfl, rfl⟩))
    have LI := S'.off I oI (.inr (.inl ⟨rfl, rfl⟩))
    have Lx := S'.off ax axo (.inr (.inr ⟨rfl, rfl⟩))
    have S0 : Sim G.ρ fr kp st' s' ads' := S'.less fun b o q => .inl q
    cases hv : items[i]? with
    | none =>
      have hie : i = items.length := by
        have : items.length ≤ i := by simpa using hv
        omega
      have hdn : xs.drop i = [] := by rw [hie, hlen]; simp
      rw [hdn] at h'
      refine hEnd hI hc hd hx hv fun h₁ hsb => ?_
      obtain ⟨S₁, l₁⟩ := S0.iter (tk := s'.toks) hI nI LI hc t1 t2 hsb hk hg
      exact wpAny_execs_nil ⟨.next, st', ads', .next, S₁, l'.trans l₁, h'⟩
    | some v =>
      have hil : i < items.length := (List.getElem?_eq_some_iff.mp hv).1
      have hxi : i < xs.length := hlen ▸ hil
      have hdc : xs.drop i = xs[i] :: xs.drop (i + 1) := List.drop_eq_getElem_cons hxi
      rw [hdc] at h'
      dsimp only at h'
      split at h'
      · rename_i mm hb
        refine hItem hI hc hd hx hv fun h₁ oI' he hc' hd' hsb => ?_
        obtain ⟨S₁, l₁⟩ := S0.iter (tk := s'.toks) hI nI LI hc t1 t2 hsb.extBut hk hg
        replace S₁ := S₁.more (I := I) (oI := oI') (ax := ax) (axo := axo) he nI LI (hsb.extBut ax axo hax hx) nx Lx
        refine wpAny_mono (letgo_rule (s := { s' with heap := h₁ }) he hc' hd' t4) (fun _ s₂ e₂ => ?_) fun _ _ e => e
        subst e₂
        have rv : RepV G.ρ ads' h₁ v xs[i] := ((r0.mono l').at i v _ hv (by simp [hxi])).mono l₁
        refine wpAny_mono (bind_rule O S₁ rv hb) (fun _ s₃ q => ?_) fun _ _ e => e
        obtain ⟨S₃, l₃⟩ := q
        refine wpAny_mono (hs.ss h' O S₃) (fun f s₄ h₄ => ?_) fun _ _ e => noted O e
        obtain ⟨x, st₄, ads₄, r, S₄, l₄, h₄⟩ := h₄
        have l₄ := ((l'.trans l₁).trans l₃).trans l₄
        dsimp only at h₄
        unfold kTurn at h₄
        cases r with
        | next => exact ⟨m, by omega, by omega, i + 1, st₄, ads₄, oI', hc', hd', S₄, l₄, hil, h₄⟩
        | brk => exact ⟨.next, st₄, ads₄, .next, S₄.less fun b o q => .inl q, l₄, h₄⟩
        | ret r => exact ⟨.ret _, st₄, ads₄, .ret r, S₄.less fun b o q => .inl q, l₄, h₄⟩
      · cases h'
end
end Mine

namespace Mine
section
variable {G : Gl} {fr : Frm} {kp : Kp} {cx : Cx} {st : St} {s : Shared} {ads : List Addr} {n : Nat}

theorem fresh_off (S : Sim G.ρ fr kp st s ads) {a : Addr} (h : s.heap.get? a = none) : a ∉ muts G.ρ ads ∧ a ≠ fr.L ∧ fr.g.get? a = none ∧ ∀ o, ¬ kp a o := by
  obtain ⟨m, F, _⟩ := S.loc
  obtain ⟨oL, es, ep, hL, _⟩ := S.L_dict
  refine ⟨fun q => ?_, ?_, ?_, fun o q => ?_⟩
  · obtain ⟨o, ho, _⟩ := muts_there S.toCore q; rw [h] at ho; cases ho
  · rintro rfl; rw [h] at hL; cases hL
  · cases q : fr.g.get? a with
    | none => rfl
    | some o => have := F.keep a o q; rw [h] at this; cases this
  · have := (S.kept a o q).1; rw [h] at this; cases this
theorem tup_off (S : Sim G.ρ fr kp st s ads) {a : Addr} {vs : List Value} {ep : Nat} (h : s.heap.get? a = some (tupObj vs ep)) : a ∉ muts G.ρ ads ∧ a ≠ fr.L := by
  obtain ⟨oL, es, ep', hL, hd⟩ := S.L_dict
  refine ⟨fun q => ?_, ?_⟩
  · obtain ⟨o, ho, hc⟩ := muts_there S.toCore q
    rw [h] at ho
    cases ho
    simp at hc
  · rintro rfl
    rw [h] at hL
    cases hL
    cases hd

theorem rev_kind {it e : Expr} (h : isRev it = some e) : ∃ id p a b c d q, it = .Subscript (.Name id p) (.Slice none none (some (.UnaryOp .USub (.Constant (.int 1) a b) c)) d) q ∧ e = .Name id p := by
  unfold isRev at h
  split at h
  · cases h; exact ⟨_, _, _, _, _, _, _, rfl, rfl⟩
  · cases h

theorem s_for (H : ∀ m, m ≤ n → Snd G m) (O : FrmOk G fr cx) (S : Sim G.ρ fr kp st s ads) {tgt it : Expr} {b o : List Stmt} {pos : Pos} {k : KF} (h : sFor (run G.cf n) tgt it b o k cx st = true) :
    wpAny (model G.prog G.w) fr.A (exec (.For tgt it b o pos) fr.env) (PostF G.ρ fr kp s ads k) (Exc G fr) s := by
  unfold sFor at h
  split at h
  · split at h
    · rename_i e he
      obtain ⟨id, p, a, b', c, d, q, rfl, rfl⟩ := rev_kind he
      refine wpAny_For ?_ (fun _ => rfl)
      refine wpAny_Subscript_Slice_step (T := "list") list_getitem_lookup (wpAny_mono ((H n (Nat.le_refl _)).e h O S) (fun v s₁ h₁ => ?_) fun _ _ e => e) (fun _ _ => rfl)
      obtain ⟨x, st₁, ads₁, r, S₁, l₁, h₁⟩ := h₁
      dsimp only at h₁
      unfold kForR at h₁
      split at h₁
      · split at h₁
        · rename_i xs hxs
          split at h₁
          · rename_i hp hf
            cases r with
            | lst ha =>
              rename_i l
              obtain ⟨us, ep, hl, itm⟩ := list_at S₁ ha hxs
              have hz := fits_size itm O.ivs hf
              have rp := itm.plain hp
              refine wpAny_Slice ?_
              rw [evalPart_none, evalPart_some]
              refine wpAny_pure (wpAny_pure ?_)
              refine UnaryOp_ (wpAny_Constant_int (PyProof.Rows.neg_int ?_))
              have hk1 : ∀ (o : Obj) b o', s₁.heap.get? b = some o' → (s₁.heap.push o).get? b = some o' := fun o b o' e => Heap.get?_push_of_some _ e
              refine ⟨⟨_, hk1 _ _ _ hl, rfl⟩, ?_⟩
              refine wpAny_getItem_list_slice (items := us.toArray) (lo := none) (hi := none) (st := some (-1)) ⟨_, hk1 _ _ _ hl, rfl, ep, rfl⟩ (Heap.IsSliceOf.new _ _ _ _) .none .none (.int _ _) (by decide) ?_ (by rw [List.size_toArray]; exact line_of hz)
              rw [krv_pick, List.toList_toArray]
              have hk2 : ∀ (o o₂ : Obj) b o', s₁.heap.get? b = some o' → ((s₁.heap.push o).push o₂).get? b = some o' := fun o o₂ b o' e => Heap.get?_push_of_some _ (hk1 o b o' e)
              have hk3 : ∀ (o o₂ o₃ : Obj) b o', s₁.heap.get? b = some o' → (((s₁.heap.push o).push o₂).push o₃).get? b = some o' := fun o o₂ o₃ b o' e => Heap.get?_push_of_some _ (hk2 o o₂ b o' e)
              refine wpAny_pyIter_list (items := us.reverse.toArray) ⟨_, Heap.get?_push_size _ rfl, rfl, 0, rfl⟩ ?_
              generalize hsl : s₁.heap.push ({ cls := .type "slice", data := .fields #[.none, .none, .int (-1) (s₁.toks + 1)] } : Obj) = hp1
              have sz1 : hp1.objs.size = s₁.heap.objs.size + 1 := by rw [← hsl, Heap.size_push]
              have sz2 : (hp1.push ({ cls := .type "list", data := .seq us.reverse.toArray } : Obj)).objs.size = s₁.heap.objs.size + 2 := by rw [Heap.size_push, sz1]
              have hk : ∀ b o, s₁.heap.get? b = some o → ((hp1.push ({ cls := .type "list", data := .seq us.reverse.toArray } : Obj)).push ({ cls := .type "list_iterator", data := .fields #[.ref hp1.objs.size, .int 0 0] } : Obj)).get? b = some o := by
                intro b o e; rw [← hsl]; exact hk3 _ _ _ b o e
              have f1 := fresh_off S₁ (a := hp1.objs.size) (Heap.get?_none_of_le (by rw [sz1]; omega))
              have f2 := fresh_off S₁ (a := (hp1.push ({ cls := .type "list", data := .seq us.reverse.toArray } : Obj)).objs.size) (Heap.get?_none_of_le (by rw [sz2]; omega))
              have S₂ := S₁.ext (tk := s₁.toks + 1 + 1) hk
              have hax : ((hp1.push ({ cls := .type "list", data := .seq us.reverse.toArray } : Obj)).push ({ cls := .type "list_iterator", data := .fields #[.ref hp1.objs.size, .int 0 0] } : Obj)).get? hp1.objs.size = some (listObj us.reverse 0) :=
                Heap.get?_push_of_some _ (Heap.get?_push_size hp1 rfl)
              have S₃ := S₂.more (I := (hp1.push ({ cls := .type "list", data := .seq us.reverse.toArray } : Obj)).objs.size) (ax := hp1.objs.size) (Heap.get?_push_size _ rfl) f2.1 f2.2.1 hax f1.1 f1.2.1
              have hne : hp1.objs.size ≠ (hp1.push ({ cls := .type "list", data := .seq us.reverse.toArray } : Obj)).objs.size := by rw [Heap.size_push]; exact Nat.ne_of_lt (Nat.lt_succ_self _)
              refine codeAny_mono (s_loop (ads := ads₁) (s := { s₁ with heap := _, toks := s₁.toks + 1 + 1 }) (items := us.reverse) H O (T := "list_iterator") (by decide) (by decide) (by decide) hne f2.2.2.2 f2.2.2.1 ?_ ?_ S₃ rfl rfl ((rp.mono (Later.ext hk)).rev) h₁) fun r s' q => ?_
              · intro s' i v oI Q E hI hc hd hx hv hQ
                refine wpAny_pyNext_list_item (items := us.reverse.toArray) ⟨oI, hI, hc, hd⟩ ⟨_, hx, rfl, 0, rfl⟩ (by simpa using hv) fun h' hit hs => ?_
                obtain ⟨oI', e1, e2, e3⟩ := hit
                exact hQ h' oI' e1 e2 e3 hs
              · intro s' i oI Q E hI hc hd hx hv hQ
                exact wpAny_pyNext_list_end (items := us.reverse.toArray) (handled_A O) ⟨oI, hI, hc, hd⟩ ⟨_, hx, rfl, 0, rfl⟩ (by simpa using hv) hQ
              · cases r with
                | ok f => exact PostF.later (l₁.trans (Later.ext hk)) q
                | error e => exact q
          · cases h₁
        · cases h₁
      · cases h₁
    · split at h
      · cases h
      · rename_i hset
        have hfold : ∀ x, foldedSetIterable it fr.env x = pure x := by cases it <;> first | (intro _; rfl) | cases hset
        refine wpAny_For (wpAny_mono ((H n (Nat.le_refl _)).e h O S) (fun v s₁ h₁ => ?_) fun _ _ e => e) hfold
        obtain ⟨x, st₁, ads₁, r, S₁, l₁, h₁⟩ := h₁
        dsimp only at h₁
        unfold kFor at h₁
        split at h₁
        · cases r with
          | @tup t us xs ep hT hlen hat =>
            have hIT : IsTup s₁.heap t us.toArray := ⟨_, hT, rfl, ep, rfl⟩
            refine iter_tuple hIT ?_
            have hk : ∀ b o, s₁.heap.get? b = some o → (s₁.heap.push ({ cls := .type "tuple_iterator", data := .fields #[.ref t, .int 0 0] } : Obj)).get? b = some o := fun b o e => Heap.get?_push_of_some _ e
            have hf := fresh_off S₁ (Heap.get?_none_of_le (Nat.le_refl s₁.heap.objs.size))
            have S₂ := S₁.ext (tk := s₁.toks) hk
            have ht := tup_off S₁ hT
            have hne : t ≠ s₁.heap.objs.size := Nat.ne_of_lt (Heap.lt_size hT)
            have S₃ := S₂.more (I := s₁.heap.objs.size) (ax := t) (Heap.get?_push_size s₁.heap rfl) hf.1 hf.2.1 (hk _ _ hT) ht.1 ht.2
            refine codeAny_mono (s_loop (ads := ads₁) (s := { s₁ with heap := _ }) (items := us) H O (T := "tuple_iterator") (by decide) (by decide) (by decide) hne hf.2.2.2 hf.2.2.1 ?_ ?_ S₃ rfl rfl (RepVs.of_at hlen fun i v x h1 h2 => (hat i v x h1 h2).mono (Later.ext hk)) h₁) fun r s' q => ?_
            · intro s' i v oI Q E hI hc hd hx hv hQ
              refine next_tuple_item (items := us.toArray) ⟨oI, hI, hc, hd⟩ ⟨_, hx, rfl, ep, rfl⟩ (by simpa using hv) fun h' hit hs => ?_
              obtain ⟨oI', e1, e2, e3⟩ := hit
              exact hQ h' oI' e1 e2 e3 hs
            · intro s' i oI Q E hI hc hd hx hv hQ
              exact next_tuple_end (items := us.toArray) (handled_A O) ⟨oI, hI, hc, hd⟩ ⟨_, hx, rfl, ep, rfl⟩ (by simpa using hv) hQ
            · cases r with
              | ok f => exact PostF.later (l₁.trans (Later.ext hk)) q
              | error e => exact q
        · cases h₁
  · cases h

theorem s_rule (H : ∀ m, m ≤ n → Snd G m) (O : FrmOk G fr cx) (S : Sim G.ρ fr kp st s ads) {x : Stmt} {k : KF} (h : stS (run G.cf n) x k cx st = true) :
    wpAny (model G.prog G.w) fr.A (exec x fr.env) (PostF G.ρ fr kp s ads k) (Exc G fr) s := by
  have Hn := H n (Nat.le_refl _)
  cases x with
  | Expr e p => exact s_expr Hn O S h
  | Assign ts e p =>
    change sAssign (run G.cf n) ts e k cx st = true at h
    unfold sAssign at h
    split at h
    · cases h
    · rename_i hc
      split at h
      · split at h
        · rename_i hl; exact s_name Hn O S hc hl h
        · cases h
      · split at h
        · rename_i xs hx
          split at h
          · rename_i hl ha hf; exact s_unpack Hn O S hx hc hl ha hf h
          · cases h
        · cases h
      · cases h
  | Return v p => exact s_ret Hn O S h
  | If t b o p => exact s_if Hn O S h
  | While t b o p =>
    cases o with
    | nil => exact s_while H O S h
    | cons _ _ => cases h
  | Break p => exact wpAny_Break ⟨.brk, st, ads, .brk, S, Later.refl _ _, h⟩
  | For t i b o p => exact s_for H O S h
  | _ => cases h
end
end Mine

namespace Mine
section
variable {s : Shared} {fd : FuncData} {kwd : List (Option Expr)} {dfl : List Expr} {pa pb pc pd : Arg} {v u x y d : Value}
theorem seq_none : seqItems? Value.none = pure none := rfl
theorem b1 (hp : fd.params = ⟨[], [pa], none, [], kwd, none, dfl⟩) (hd : fd.defaults = .none) : BindsTo s fd ⟨[v], []⟩ [(pa.arg, v)] := by
  apply BindsTo.of_eq
  unfold bindArgs
  rw [hp, hd]
  simp [seq_none]
theorem b2 (hp : fd.params = ⟨[], [pa, pb], none, [], kwd, none, dfl⟩) (hd : fd.defaults = .none) (h1 : pa.arg ≠ pb.arg) : BindsTo s fd ⟨[v, u], []⟩ [(pa.arg, v), (pb.arg, u)] := by
  apply BindsTo.of_eq
  unfold bindArgs
  rw [hp, hd]
  have h1' : (pb.arg == pa.arg) = false := by simpa using Ne.symm h1
  simp [seq_none, List.lookup, h1']
theorem b3 (hp : fd.params = ⟨[], [pa, pb, pc], none, [], kwd, none, dfl⟩) (hd : fd.defaults = .none) (h1 : pa.arg ≠ pb.arg) (h2 : pa.arg ≠ pc.arg) (h3 : pb.arg ≠ pc.arg) :
    BindsTo s fd ⟨[v, u, x], []⟩ [(pa.arg, v), (pb.arg, u), (pc.arg, x)] := by
  apply BindsTo.of_eq
  unfold bindArgs
  rw [hp, hd]
  have h1' : (pb.arg == pa.arg) = false := by simpa using Ne.symm h1
  have h2' : (pc.arg == pa.arg) = false := by simpa using Ne.symm h2
  have h3' : (pc.arg == pb.arg) = false := by simpa using Ne.symm h3
  simp [seq_none, List.lookup, h1', h2', h3']
theorem b4 (hp : fd.params = ⟨[], [pa, pb, pc, pd], none, [], kwd, none, dfl⟩) (hd : fd.defaults = .none) (h1 : pa.arg ≠ pb.arg) (h2 : pa.arg ≠ pc.arg) (h3 : pb.arg ≠ pc.arg) (h4 : pa.arg ≠ pd.arg) (h5 : pb.arg ≠ pd.arg) (h6 : pc.arg ≠ pd.arg) :
    BindsTo s fd ⟨[v, u, x, y], []⟩ [(pa.arg, v), (pb.arg, u), (pc.arg, x), (pd.arg, y)] := by
  apply BindsTo.of_eq
  unfold bindArgs
  rw [hp, hd]
  have h1' : (pb.arg == pa.arg) = false := by simpa using Ne.symm h1
  have h2' : (pc.arg == pa.arg) = false := by simpa using Ne.symm h2
  have h3' : (pc.arg == pb.arg) = false := by simpa using Ne.symm h3
  have h4' : (pd.arg == pa.arg) = false := by simpa using Ne.symm h4
  have h5' : (pd.arg == pb.arg) = false := by simpa using Ne.symm h5
  have h6' : (pd.arg == pc.arg) = false := by simpa using Ne.symm h6
  simp [seq_none, List.lookup, h1', h2', h3', h4', h5', h6']
theorem b21 {T : Addr} {o : Obj} {n : Nat} (hp : fd.params = ⟨[], [pa, pb], none, [], kwd, none, dfl⟩) (hd : fd.defaults = .ref T) (ho : s.heap.get? T = some o) (hs : o.data = .seq #[d] n) (h1 : pa.arg ≠ pb.arg) :
    BindsTo s fd ⟨[v], []⟩ [(pa.arg, v), (pb.arg, d)] := by
  cases fd
  simp only at hp hd
  subst hp
  subst hd
  refine BindsTo.of_defaults rfl ho hs rfl ?_
  have h1' : (pb.arg == pa.arg) = false := by simpa using Ne.symm h1
  simp [List.lookup, h1']
theorem b22 {T : Addr} {o : Obj} {n : Nat} (hp : fd.params = ⟨[], [pa, pb], none, [], kwd, none, dfl⟩) (hd : fd.defaults = .ref T) (ho : s.heap.get? T = some o) (hs : o.data = .seq #[d] n) (h1 : pa.arg ≠ pb.arg) :
    BindsTo s fd ⟨[v, u], []⟩ [(pa.arg, v), (pb.arg, u)] := by
  cases fd
  simp only at hp hd
  subst hp
  subst hd
  refine BindsTo.of_defaults rfl ho hs rfl ?_
  have h1' : (pb.arg == pa.arg) = false := by simpa using Ne.symm h1
  simp [List.lookup, h1']
end
end Mine

namespace Mine
section
variable {G : Gl} {fr : Frm} {kp : Kp} {cx : Cx} {st : St} {s : Shared} {ads : List Addr} {n : Nat}

theorem isNil_iff {α : Type} {l : List α} (h : isNil l = true) : l = [] := by cases l <;> first | rfl | cases h
theorem isNo_iff {α : Type} {l : Option α} (h : isNo l = true) : l = none := by cases l <;> first | rfl | cases h
theorem params_of {p : Arguments} (h : plainParams p = true) : ∃ kwd, p = ⟨[], p.args, none, [], kwd, none, p.defaults⟩ := by
  unfold plainParams at h
  simp only [Bool.and_eq_true] at h
  obtain ⟨⟨⟨h1, h2⟩, h3⟩, h4⟩ := h
  obtain ⟨a, b, c, d, e, f, g⟩ := p
  simp only at h1 h2 h3 h4
  rw [isNil_iff h1, isNil_iff h2, isNo_iff h3, isNo_iff h4]
  exact ⟨e, rfl⟩
theorem noCell_ne : ∀ {l : List (Str × NameKind)}, noCell l = true → ∀ x ∈ l, x.2 ≠ .cell
  | [], _, x, hx => by cases hx
  | (y, k) :: r, h, x, hx => by
    cases k with
    | cell => cases h
    | _ =>
      rcases List.mem_cons.mp hx with rfl | hx
      · intro q; cases q
      · exact noCell_ne (l := r) h x hx

theorem dflts_are {K : Frag} {h : Heap} {ρ : Rho} (X : K.In h) {v : Value} {ds : List AV} (e : dflts K v = some ds) :
    (v = .none ∧ ds = []) ∨ ∃ T items ep, v = .ref T ∧ h.get? T = some (tupObj items ep) ∧ RepVs ρ ads h items ds ∧ ds ≠ [] := by
  unfold dflts at e
  split at e
  · cases e; exact .inl ⟨rfl, rfl⟩
  · rename_i a
    split at e
    · rename_i l hl
      cases e
      have r := litV_rep (ρ := ρ) (ads := ads) X _ hl
      cases r with
      | tup hT hlen hat => exact .inr ⟨a, _, _, rfl, hT, RepVs.of_at hlen hat, by simp⟩
    · cases e
  · cases e

/-- what is bound: the same names, the values told -/
def BoundAs (ρ : Rho) (ads : List Addr) (h : Heap) (mv : List (Str × Value)) (m : List (Str × AV)) : Prop :=
  mv.map (·.1) = m.map (·.1) ∧ ∀ z x, find z m = some x → ∃ u, find z mv = some u ∧ RepV ρ ads h u x
theorem BoundAs.nil {ρ : Rho} {h : Heap} : BoundAs ρ ads h [] [] := ⟨rfl, fun z x e => by cases e⟩
theorem BoundAs.cons {ρ : Rho} {h : Heap} {a : Str} {v : Value} {x : AV} {mv : List (Str × Value)} {m : List (Str × AV)} (r : RepV ρ ads h v x) (b : BoundAs ρ ads h mv m) : BoundAs ρ ads h ((a, v) :: mv) ((a, x) :: m) := by
  refine ⟨by simp [b.1], fun z y e => ?_⟩
  change (match eqS z a with | true => some x | false => find z m) = some y at e
  show ∃ u, (match eqS z a with | true => some v | false => find z mv) = some u ∧ _
  cases q : eqS z a with
  | true => rw [q] at e; cases e; exact ⟨v, rfl, r⟩
  | false => rw [q] at e; exact b.2 z y e

theorem binds_rule {K : Frag} {ρ : Rho} {fd : FuncData} {vs : List Value} {xs ds : List AV} {m : List (Str × AV)} (X : K.In s.heap) (hp : plainParams fd.params = true) (hd : dflts K fd.defaults = some ds) (r : RepVs ρ ads s.heap vs xs)
    (hb : binds (fd.params.args.map (·.arg)) xs ds = some m) (ha : apart (m.map (·.1)) = true) : ∃ mv, BindsTo s fd ⟨vs, []⟩ mv ∧ BoundAs ρ ads s.heap mv m := by
  obtain ⟨kwd, hpe⟩ := params_of hp
  have hnd := apart_iff.mp ha
  rcases dflts_are (ρ := ρ) (ads := ads) X hd with ⟨hv, rfl⟩ | ⟨T, items, ep, hv, hT, rd, hne⟩
  · generalize fd.params.args = as at hb hpe
    match as, hb, hpe with
    | [pa], hb, hpe =>
      cases r with
      | nil => cases hb
      | cons r1 r =>
        cases r with
        | nil => cases hb; exact ⟨_, b1 hpe hv, .cons r1 .nil⟩
        | cons _ _ => cases hb
    | [pa, pb], hb, hpe =>
      cases r with
      | nil => cases hb
      | cons r1 r =>
        cases r with
        | nil => cases hb
        | cons r2 r =>
          cases r with
          | nil =>
            cases hb
            simp at hnd
            exact ⟨_, b2 hpe hv hnd, .cons r1 (.cons r2 .nil)⟩
          | cons _ _ => cases hb
    | [pa, pb, pc], hb, hpe =>
      cases r with
      | nil => cases hb
      | cons r1 r =>
        cases r with
        | nil => cases hb
        | cons r2 r =>
          cases r with
          | nil => cases hb
          | cons r3 r =>
            cases r with
            | nil =>
              cases hb
              simp at hnd
              exact ⟨_, b3 hpe hv hnd.1.1 hnd.1.2 hnd.2, .cons r1 (.cons r2 (.cons r3 .nil))⟩
            | cons _ _ => cases hb
    | [pa, pb, pc, pd], hb, hpe =>
      cases r with
      | nil => cases hb
      | cons r1 r =>
        cases r with
        | nil => cases hb
        | cons r2 r =>
          cases r with
          | nil => cases hb
          | cons r3 r =>
            cases r with
            | nil => cases hb
            | cons r4 r =>
              cases r with
              | nil =>
                cases hb
                simp at hnd
                exact ⟨_, b4 hpe hv hnd.1.1 hnd.1.2.1 hnd.2.1.1 hnd.1.2.2 hnd.2.1.2 hnd.2.2, .cons r1 (.cons r2 (.cons r3 (.cons r4 .nil)))⟩
              | cons _ _ => cases hb
    | [], hb, hpe => cases hb
    | _ :: _ :: _ :: _ :: _ :: _, hb, hpe => cases hb
  · cases rd with
    | nil => exact (hne rfl).elim
    | @cons d y items ds rd0 rd =>
      cases rd with
      | cons _ _ =>
        exfalso
        generalize fd.params.args = as at hb
        match as, hb with
        | [], hb => cases hb
        | [_], hb => cases r with
          | nil => cases hb
          | cons _ r => cases r <;> cases hb
        | [_, _], hb => cases r with
          | nil => cases hb
          | cons _ r => cases r with
            | nil => cases hb
            | cons _ r => cases r <;> cases hb
        | [_, _, _], hb => cases r with
          | nil => cases hb
          | cons _ r => cases r with
            | nil => cases hb
            | cons _ r => cases r with
              | nil => cases hb
              | cons _ r => cases r <;> cases hb
        | [_, _, _, _], hb => cases r with
          | nil => cases hb
          | cons _ r => cases r with
            | nil => cases hb
            | cons _ r => cases r with
              | nil => cases hb
              | cons _ r => cases r with
                | nil => cases hb
                | cons _ r => cases r <;> cases hb
        | _ :: _ :: _ :: _ :: _ :: _, hb => cases hb
      | nil =>
        generalize fd.params.args = as at hb hpe
        match as, hb, hpe with
        | [], hb, _ => cases hb
        | [_], hb, _ => cases r with
          | nil => cases hb
          | cons _ r => cases r <;> cases hb
        | [pa, pb], hb, hpe =>
          cases r with
          | nil => cases hb
          | cons r1 r =>
            cases r with
            | nil =>
              cases hb
              simp at hnd
              exact ⟨_, b21 hpe hv hT rfl hnd, .cons r1 (.cons rd0 .nil)⟩
            | cons r2 r =>
              cases r with
              | nil =>
                cases hb
                simp at hnd
                exact ⟨_, b22 hpe hv hT rfl hnd, .cons r1 (.cons r2 .nil)⟩
              | cons _ _ => cases hb
        | [_, _, _], hb, _ => cases r with
          | nil => cases hb
          | cons _ r => cases r with
            | nil => cases hb
            | cons _ r => cases r with
              | nil => cases hb
              | cons _ r => cases r <;> cases hb
        | [_, _, _, _], hb, _ => cases r with
          | nil => cases hb
          | cons _ r => cases r with
            | nil => cases hb
            | cons _ r => cases r with
              | nil => cases hb
              | cons _ r => cases r with
                | nil => cases hb
                | cons _ r => cases r <;> cases hb
        | _ :: _ :: _ :: _ :: _ :: _, hb, _ => cases hb

theorem lookup_rev {mv : List (Str × Value)} (ha : (mv.map (·.1)).Nodup) (z : Str) : mv.reverse.lookup z = find z mv := by
  rw [find_eq]
  induction mv with
  | nil => rfl
  | cons p r ih =>
    obtain ⟨y, v⟩ := p
    simp only [List.map_cons, List.nodup_cons] at ha
    rw [List.reverse_cons, List.lookup_append, ih ha.2, List.lookup_cons]
    by_cases hz : z = y
    · subst hz
      have : List.lookup z r = none := by
        rw [← find_eq]
        cases q : find z r with
        | none => rfl
        | some w =>
          exfalso
          apply ha.1
          clear ih ha
          induction r with
          | nil => cases q
          | cons p r ih =>
            obtain ⟨y, v⟩ := p
            change (match eqS z y with | true => some v | false => find z r) = some w at q
            cases h : eqS z y with
            | true => simp [eqS_iff.mp h]
            | false => rw [h] at q; simp [ih q]
      rw [this]
      simp
    · have : (z == y) = false := by simpa using hz
      rw [this]
      cases hq : List.lookup z r <;> simp [List.lookup, this, hq]

theorem stays_hide {ρ : Rho} {g h : Heap} {as : List Addr} (hk : ∀ b o, g.get? b = some o → h.get? b = some o) (hn : ∀ a ∈ as, g.get? a = none) : g.StaysIn (hideAll h as) := fun b o e =>
  hideAll_get _ (hk b o e) fun q => by rw [hn b q] at e; cases e

/-- a call of a plain def -/
theorem c_plain (H : Snd G n) (O : FrmOk G fr cx) {m : Str → Option Value} (F : Fr fr.g fr.L s.heap m) (new : ∀ a ∈ muts G.ρ ads, fr.g.get? a = none ∧ a ≠ fr.L) (C : Core G.ρ (AllBut G.ρ s ads) st s ads)
    {f : Addr} {vs : List Value} {xs : List AV} {k : KV} (r : RepVs G.ρ ads s.heap vs xs) (h : cPlain G.cf (run G.cf n) f xs k cx st = true) :
    wpAny (model G.prog G.w) fr.A (call (.ref f) vs) (PostC G.ρ st.loc s ads k) (Exc G fr) s := by
  have X := O.X.keeps F.keep
  unfold cPlain at h
  split at h
  · rename_i cb fd hcb hfn
    unfold fnAt at hfn
    split at hfn
    · rename_i oc od fd' osl hlk
      cases hfn
      unfold cFd at h
      split at h
      · rename_i body ds hfd hbody hds
        split at h
        · rename_i mm hbinds
          unfold cBody at h
          split at h
          · rename_i hap hloc
            unfold fdOk at hfd
            simp only [Bool.and_eq_true, Bool.not_eq_true'] at hfd
            obtain ⟨⟨⟨⟨⟨⟨⟨⟨⟨q1, q2⟩, q3⟩, q4⟩, q5⟩, q6⟩, q7⟩, q8⟩, q9⟩, q10⟩ := hfd
            have q1 := Nat.eq_of_beq_eq_true q1
            have q2 := Nat.eq_of_beq_eq_true q2
            have q3 := isNil_iff q3
            have q7' : fd.scope.kind = .function := by
              generalize fd.scope.kind = kk at q7
              cases kk <;> first | rfl | cases q7
            have q10 := isNo_iff q10
            obtain ⟨mv, hb, bound⟩ := binds_rule X q4 hds r hbinds hap
            have hnd : (mv.map (·.1)).Nodup := by rw [bound.1]; exact apart_iff.mp hap
            have henv : ∀ L', callEnv fd L' f = envOf fd.qualname fd.scope L' f fd.code := by
              intro L'
              unfold callEnv newEnv envOf
              rw [q1, q2, q3]
            have hoL : ∃ oL, s.heap.get? fr.L = some oL := by obtain ⟨o, _, _, ho, _⟩ := F.ns; exact ⟨o, ho⟩
            obtain ⟨oL, hL⟩ := hoL
            have B₁ := O.below.push (name := fr.name) (scope := fr.scope) (a := fr.a) (cd := fr.cd) F O.kind
            have st0 : fr.g.StaysIn (hideAll s.heap (muts G.ρ ads)) := stays_hide (ρ := G.ρ) F.keep fun a ha => (new a ha).1
            have B₂ : Below fr.A fr.base (fr.env :: fr.outer) (hideAll s.heap (muts G.ρ ads)) := ⟨Around.frames_deeper O.below.stack, fun b o e => st0 b o (O.below.stays b o e),
              funFrames_hideAll B₁.frames fun env he b hb hf => by
                cases he with
                | head => exact (new b hb).2 (Option.some.inj hf).symm
                | tail _ he =>
                  obtain ⟨L₁, o₁, hf₁, ho₁⟩ := funFrames_in O.below.frames env he
                  rw [hf₁] at hf
                  rw [Option.some.inj hf, (new b hb).1] at ho₁
                  cases ho₁⟩
            refine wpAny_call (codeAny_call_def (fd := fd) (body := body) (binds := mv) (by have := O.room; show fr.A₀.depth + 1 < recursionLimit; omega) (X _ _ hlk) rfl (O.T.nolimit.keeps F.keep) (codeRec_of X q9) hbody hb (noCell_ne q8) (fun y hy => ?_) (fun h₁ hns hk₁ => ?_) q6 q5 q7')
            · have : y.1 ∈ mm.map (·.1) := by rw [← bound.1]; exact List.mem_map_of_mem hy
              have := allLocal_at (cx := ⟨fd.scope, cb⟩) hloc _ this
              unfold isLocal at this
              split at this
              · rename_i q; rw [find_eq] at q; exact q
              · cases this
            · rw [henv]
              let fr' : Frm := ⟨fr.A, fr.base, hideAll s.heap (muts G.ρ ads), fr.env :: fr.outer, s.heap.objs.size, f, fd.qualname, fd.scope, fd.code⟩
              have O' : FrmOk G fr' ⟨fd.scope, cb⟩ := by
                refine ⟨rfl, B₂, O.X.keeps st0, O.T.keeps st0, q7', O.hh, q10, ?_, ?_, O.ivs⟩
                · have := O.room
                  show fr.A₀.depth + 1 + cb + G.ρ.sz + 20 ≤ recursionLimit
                  rw [hcb] at this; omega
                · have := O.units
                  show fr.A₀.units + 3 + 10 * (cb + G.ρ.sz + 20) ≤ cLine
                  rw [hcb] at this; omega
              have hlt : ∀ b o, s.heap.get? b = some o → b ≠ s.heap.objs.size := fun b o e => Nat.ne_of_lt (Heap.lt_size e)
              have hlaterK : Later ads s.heap ads h₁ := Later.ext hk₁
              have C₁ := C.ext (h' := h₁) (tk := s.toks + mv.length) hk₁
              have S' : Sim G.ρ fr' (AllBut G.ρ s ads) ⟨mm, st.lists, st.ws⟩ { s with heap := h₁, toks := s.toks + mv.length } ads := by
                refine ⟨⟨C₁.lists, C₁.words, C₁.src, C₁.kept, C₁.apart, C₁.lv, C₁.out⟩, ⟨fun x => mv.reverse.lookup x, ⟨hns, fun b o e => hk₁ b o (of_hideAll _ e), Nat.le_of_eq (hideAll_size _ _)⟩, fun z w e => ?_⟩, fun a ha => ⟨hideAll_none _ ha, ?_⟩, fun b o e => hlt b o e.1⟩
                · obtain ⟨u, e', rr⟩ := bound.2 z w e
                  exact ⟨u, (lookup_rev hnd z).trans e', rr.mono hlaterK⟩
                · obtain ⟨o, ho, _⟩ := muts_there C ha
                  exact hlt a o ho
              refine wpAny_mono (H.ss h O' S') (fun fl s' q => ?_) fun e s' q => ?_
              · obtain ⟨y, st₂, ads₂, rf, S₂, l₂, hk⟩ := q
                have hl := hlaterK.trans l₂
                have Cr : Core G.ρ (AllBut G.ρ s ads) ⟨st.loc, st₂.lists, st₂.ws⟩ s' ads₂ := ⟨S₂.lists, S₂.words, S₂.src, S₂.kept, S₂.apart, S₂.lv, S₂.out⟩
                cases rf with
                | next => exact ⟨.none, _, ads₂, .none, Cr, hl, rfl, hk⟩
                | brk => exact ⟨.none, _, ads₂, .none, Cr, hl, rfl, hk⟩
                | ret rr => exact ⟨_, _, ads₂, rr, Cr, hl, rfl, hk⟩
              · refine fly_leave O' q fun e' a0 h' he hf hu => ?_
                refine ⟨q.1, e', a0, he, .inl hf, (Heap.UpToSlots.of_keeps st0).trans hu, ?_⟩
                obtain ⟨_, _, _, _, _, _, ho⟩ := q
                exact ho
          · cases h
        · cases h
      · cases h
    · cases hfn
  · cases h
end
end Mine

namespace Mine

/-- what a run of the program stands on -/
structure Bs where
  prog : Program
  w : World
  p : Program
  loose : List Str
  mg : Str → Option Value
  mb : Str → Option Value
  K : Frag
  C : Addr
  fExpr : Addr
  fBlock : Addr
  fTake : Addr
  GF : Addr

structure FrB (B : Bs) (fr : Frm) (n : Nat) : Prop where
  below : Below fr.A₀ fr.base fr.outer fr.g
  X : B.K.In fr.g
  T : TopRead B.p B.loose B.mg B.mb fr.g
  kind : fr.scope.kind = .function
  hh : fr.A₀.handled = none
  dbg : find (Str.ofString "__debug__") fr.scope.names = none
  room : fr.A₀.depth + n + 20 ≤ recursionLimit
  units : fr.A₀.units + 10 * (n + 20) ≤ cLine

def FollW (k x : Str) : Prop := (k = Str.ofString "sign" ∧ x ∈ followS) ∨ (k = Str.ofString "end" ∧ x = Str.ofString "")

def FliesTo (B : Bs) (fr : Frm) (s : Shared) (x : Value) (s' : Shared) : Prop :=
  ∃ e a0, x = .ref e ∧ (Heap.FlyingW fr.base (fr.env :: fr.outer) e (.ref B.GF) a0 s'.heap ∨ Heap.HeldW fr.base (fr.env :: fr.outer) e (.ref B.GF) a0 fr.L s'.heap) ∧ fr.g.UpToSlots s'.heap ∧ OutAs s s'

/-- the def f reads the words at hand: just where there are e levels left -/
def ReadsBy (B : Bs) (f : Addr) (flag : Bool) (inner : List (Str × Str)) (e sz : Nat) : Prop :=
  ∀ (fr : Frm) (ω : Wd) (s : Shared) (i d : Nat) (m : Str → Option Value) (vs : List Value), FrB B fr sz → Fr fr.g fr.L s.heap m → fr.g.get? ω.D = none → ω.D ≠ fr.L → ω.R ≠ ω.D → ω.C = B.C →
    WordsAt ω s.heap i d → (∃ k x post, ω.toks.drop i = inner ++ (k, x) :: post ∧ FollW k x) → d ≤ 60 → (vs = [.ref ω.W] ∨ flag = true ∧ vs = [.ref ω.W, .bool false]) →
    wpAny (model B.prog B.w) fr.A (call (.ref f) vs)
      (fun _ s' => d + e ≤ 60 ∧ (∀ b o, s.heap.get? b = some o → b ≠ ω.D → s'.heap.get? b = some o) ∧ WordsAt ω s'.heap (i + inner.length) d ∧ OutAs s s')
      (fun x s' => 60 < d + e ∧ FliesTo B fr s x s') s

/-- a number is drawn -/
def TakesBy (B : Bs) (sz : Nat) : Prop :=
  ∀ (fr : Frm) (S : Addr) (s : Shared) (n : Nat) (t : PySem.Tok) (m : Str → Option Value), FrB B fr sz → Fr fr.g fr.L s.heap m → fr.g.get? S = none → S ≠ fr.L → SrcAt s.heap S → 1 ≤ n → n ≤ 1000 →
    wpAny (model B.prog B.w) fr.A (call (.ref B.fTake) [.ref S, .int n t])
      (fun v s' => ∃ i t', v = .int (Int.ofNat i) t' ∧ i < n ∧ SrcAt s'.heap S ∧ (∀ b o, s.heap.get? b = some o → b ≠ S → s'.heap.get? b = some o) ∧ OutAs s s')
      (fun _ _ => False) s

def Gl.bs (G : Gl) : Bs := ⟨G.prog, G.w, G.p, G.loose, G.mg, G.mb, G.cf.K, G.cf.C, G.cf.fExpr, G.cf.fBlock, G.cf.fTake, G.GF⟩

structure HoleHyp (G : Gl) : Prop where
  cls : ∀ ω, G.ρ.wd = some ω → ω.C = G.cf.C
  ex : G.ρ.inner ≠ [] → ReadsBy G.bs G.cf.fExpr true G.ρ.inner G.ρ.e G.ρ.sz
  bl : G.ρ.inner ≠ [] → G.ρ.blk = true → 1 ≤ G.ρ.e ∧ ReadsBy G.bs G.cf.fBlock false G.ρ.inner (G.ρ.e - 1) G.ρ.sz
  tk : ∀ S, G.ρ.src = some S → TakesBy G.bs G.ρ.sz

section
variable {G : Gl} {fr : Frm} {kp : Kp} {cx : Cx} {st : St} {s : Shared} {ads : List Addr} {n : Nat}

theorem FrmOk.frB (O : FrmOk G fr cx) : FrB G.bs fr G.ρ.sz := ⟨O.below, O.X, O.T, O.kind, O.hh, by rw [O.scope]; exact O.dbg, by have := O.room; omega, by have := O.units; omega⟩

/-- one cell that may be changed, and no list, has been changed -/
theorem Core.but1 {ρ : Rho} (x : Core ρ kp st s ads) {s' : Shared} {c : Addr} {o₀ : Obj} {st' : St} (hc : c ∈ muts ρ ads) (hn : c ∉ ads) (h₀ : s.heap.get? c = some o₀) (hT : o₀.cls ≠ .type "tuple")
    (k : ∀ b o, s.heap.get? b = some o → b ≠ c → s'.heap.get? b = some o) (hl : st'.lists = st.lists)
    (hw : ∀ ω, ρ.wd = some ω → ∃ i, WordsAt ω s'.heap i (ρ.d0 + st'.ws.lvl) ∧ Match ρ st'.ws.rest (ω.toks.drop i) ∧ (∀ t, st'.ws.prev = some t → ∃ x, 0 < i ∧ ω.toks[i - 1]? = some (t.kind, x) ∧ x ∈ t.texts) ∧ ω.R ∉ muts ρ ads)
    (hs : ∀ S, ρ.src = some S → SrcAt s'.heap S)
    (hv : ρ.d0 + st'.ws.lvl ≤ 60 ∧ ρ.d0 + st'.ws.mp ≤ 60 ∧ (st'.ws.mh = 0 ∨ ρ.d0 + (st'.ws.mh - 1) + ρ.e ≤ 60)) (ho : OutAs ρ.s0 s') : Core ρ kp st' s' ads ∧ Later ads s.heap ads s'.heap := by
  have l : Later ads s.heap ads s'.heap := ⟨⟨[], by simp⟩, fun t vs n e => k _ _ e (by rintro rfl; rw [h₀] at e; cases e; exact hT rfl)⟩
  refine ⟨⟨?_, hw, hs, fun b o hp => ⟨k b o (x.kept b o hp).1 (by rintro rfl; exact (x.kept b o hp).2 hc), (x.kept b o hp).2⟩, x.apart, hv, ho⟩, l⟩
  rw [hl]
  exact x.lists.mono l fun a ha o e => k a o e (by rintro rfl; exact hn ha)

theorem wd_out {ρ : Rho} {ω : Wd} (x : (muts ρ ads).Nodup) (h : ρ.wd = some ω) : ω.D ∉ ads := by
  unfold muts at x
  rw [h] at x
  intro q
  rw [List.append_assoc] at x
  exact (List.nodup_append.mp x).2.2 ω.D (by simp) ω.D (by simp [q]) rfl
theorem src_out {ρ : Rho} {S : Addr} (x : (muts ρ ads).Nodup) (h : ρ.src = some S) : S ∉ ads := by
  unfold muts at x
  rw [h] at x
  intro q
  rw [List.append_assoc] at x
  have := (List.nodup_append.mp x).2.1
  exact (List.nodup_append.mp this).2.2 S (by simp) S q rfl
theorem wd_src {ρ : Rho} {ω : Wd} {S : Addr} (x : (muts ρ ads).Nodup) (h : ρ.wd = some ω) (hs : ρ.src = some S) : S ≠ ω.D := by
  unfold muts at x
  rw [h, hs] at x
  rw [List.append_assoc] at x
  rintro rfl
  exact (List.nodup_append.mp x).2.2 ω.D (by simp) ω.D (by simp) rfl

theorem followed_is {ρ : Rho} {r : List TK} {l : List (Str × Str)} (h : followed r = true) (M : Match ρ r l) : ∃ k x post, l = (k, x) :: post ∧ FollW k x := by
  unfold followed at h
  split at h
  · rename_i t r
    cases M with
    | tok hx M =>
      rename_i x l
      refine ⟨_, x, l, rfl, ?_⟩
      unfold followTok at h
      split at h
      · rename_i hk
        split at h
        · rename_i ha; have := amid_true ha x hx; exact .inl ⟨eqS_iff.mp hk, inS_iff.mp this⟩
        · cases h
      · split at h
        · rename_i hk
          split at h
          · rename_i ha; have := amid_true ha x hx; have := inS_iff.mp this; simp only [List.mem_singleton] at this; exact .inr ⟨eqS_iff.mp hk, this⟩
          · cases h
        · cases h
  · cases h

/-- the leap over the hole -/
theorem c_jump (HH : HoleHyp G) (O : FrmOk G fr cx) {m : Str → Option Value} (F : Fr fr.g fr.L s.heap m) (new : ∀ a ∈ muts G.ρ ads, fr.g.get? a = none ∧ a ≠ fr.L) (C : Core G.ρ (AllBut G.ρ s ads) st s ads)
    {ω : Wd} (hω : G.ρ.wd = some ω) {f : Addr} {flag : Bool} {less : Nat} {vs : List Value} {r : List TK} {blk : Bool} {t : Wo} {k : KV} (hr : st.ws.rest = .hole blk t :: r)
    (hR : G.ρ.inner ≠ [] → less ≤ G.ρ.e ∧ ReadsBy G.bs f flag G.ρ.inner (G.ρ.e - less) G.ρ.sz) (hvs : vs = [.ref ω.W] ∨ flag = true ∧ vs = [.ref ω.W, .bool false]) (h : jump G.cf r less st k = true) :
    wpAny (model G.prog G.w) fr.A (call (.ref f) vs) (PostC G.ρ st.loc s ads k) (Exc G fr) s := by
  unfold jump at h
  split at h
  · rename_i hf hl
    have hl := Nat.le_of_ble_eq_true hl
    obtain ⟨i, W, M, hp, nR⟩ := C.words ω hω
    rw [hr] at M
    generalize hdrop : ω.toks.drop i = l at M
    cases M with
    | hole hi hx M =>
      rename_i x l i'
      obtain ⟨hless, RB⟩ := hR (by rw [hi]; simp)
      obtain ⟨kk, xx, post, hpost, hfw⟩ := followed_is hf M
      have hRD : ω.R ≠ ω.D := by rintro q; rw [q] at nR; exact nR (mem_wd hω)
      obtain ⟨ti, td, hD⟩ := W.dict
      refine wpAny_mono (RB fr ω s i (G.ρ.d0 + st.ws.lvl) m vs O.frB F (new _ (mem_wd hω)).1 (new _ (mem_wd hω)).2 hRD (HH.cls ω hω) W ⟨kk, xx, post, by rw [hdrop, hpost], hfw⟩ C.lv.1 hvs) (fun v s' q => ?_) fun x s' q => ?_
      · obtain ⟨hd, hk, W', ho⟩ := q
        have hC := C.but1 (s' := s') (st' := ⟨st.loc, st.lists, ⟨none, r, st.ws.lvl, st.ws.mp, maxN st.ws.mh (st.ws.lvl + 1 - less)⟩⟩) (mem_wd hω) (wd_out C.apart hω) hD (by intro q; injection q with q; revert q; decide) hk rfl
          (fun ω' e => ?_) (fun S e => (C.src S e).mono fun o q => hk S o q (wd_src C.apart hω e)) ⟨C.lv.1, C.lv.2.1, ?_⟩ ⟨ho.1.trans C.out.1, ho.2.1.trans C.out.2.1, ho.2.2.trans C.out.2.2⟩
        · exact ⟨.any, _, ads, .any v, hC.1, hC.2, rfl, h⟩
        · rw [hω] at e; cases e
          refine ⟨i + G.ρ.inner.length, W', ?_, fun t (e : (none : Option Wo) = some t) => (by cases e), nR⟩
          show Match G.ρ r _
          rw [← List.drop_drop, hdrop, List.drop_append_of_le_length (Nat.le_refl _), List.drop_length, List.nil_append]
          exact M
        · show maxN st.ws.mh (st.ws.lvl + 1 - less) = 0 ∨ G.ρ.d0 + (maxN st.ws.mh (st.ws.lvl + 1 - less) - 1) + G.ρ.e ≤ 60
          have h3 := C.lv.2.2
          have : maxN st.ws.mh (st.ws.lvl + 1 - less) = st.ws.mh ∨ maxN st.ws.mh (st.ws.lvl + 1 - less) = st.ws.lvl + 1 - less := by unfold maxN; split <;> simp
          rcases this with e | e
          · rw [e]; exact h3
          · rw [e]
            have hd' : G.ρ.d0 + st.ws.lvl + (G.ρ.e - less) ≤ 60 := hd
            by_cases hz : st.ws.lvl + 1 - less = 0
            · exact .inl hz
            · exact .inr (by omega)
      · obtain ⟨hd, e, a0, rfl, hfl, hu, ho⟩ := q
        exact ⟨.inr (by omega), e, a0, rfl, hfl, hu, ho.1.trans C.out.1, ho.2.1.trans C.out.2.1, ho.2.2.trans C.out.2.2⟩
  · cases h

theorem draws_at {k : KV} {st : St} : ∀ {n : Nat}, draws k st n = true → ∀ i, i < n → k (.int (Int.ofNat i)) st = true
  | 0, _, i, hi => by omega
  | n + 1, h, i, hi => by
    simp only [draws] at h
    split at h
    · rename_i hd
      by_cases e : i = n
      · subst e; exact h
      · exact draws_at hd i (by omega)
    · cases h

theorem c_draw (HH : HoleHyp G) (O : FrmOk G fr cx) {m : Str → Option Value} (F : Fr fr.g fr.L s.heap m) (new : ∀ a ∈ muts G.ρ ads, fr.g.get? a = none ∧ a ≠ fr.L) (C : Core G.ρ (AllBut G.ρ s ads) st s ads)
    {vs : List Value} {xs : List AV} {k : KV} (r : RepVs G.ρ ads s.heap vs xs) (h : cDraw xs k st = true) :
    wpAny (model G.prog G.w) fr.A (call (.ref G.cf.fTake) vs) (PostC G.ρ st.loc s ads k) (Exc G fr) s := by
  unfold cDraw at h
  split at h
  · rename_i n
    split at h
    · rename_i h1 h2
      have h1 := Nat.le_of_ble_eq_true h1
      have h2 := Nat.le_of_ble_eq_true h2
      cases r with
      | cons r0 r =>
        cases r with
        | cons r1 r =>
          cases r
          cases r0 with
          | src hS =>
            rename_i S
            cases r1 with
            | int _ t =>
              obtain ⟨i, j, ti, tj, oS, nn, hS', hcS, _⟩ := C.src S hS
              refine wpAny_mono (HH.tk S hS fr S s n t m O.frB F (new _ (mem_src hS)).1 (new _ (mem_src hS)).2 (C.src S hS) h2 h1) (fun v s' q => ?_) fun x s' q => q.elim
              obtain ⟨i, t', rfl, hi, hS2, hk, ho⟩ := q
              have hC := C.but1 (s' := s') (st' := st) (mem_src hS) (src_out C.apart hS) hS' (by rw [hcS]; intro q; injection q with q; revert q; decide) hk rfl
                (fun ω e => ?_) (fun S' e => by rw [hS] at e; cases e; exact hS2) C.lv ⟨ho.1.trans C.out.1, ho.2.1.trans C.out.2.1, ho.2.2.trans C.out.2.2⟩
              · exact ⟨.int i, st, ads, .int _ _, hC.1, hC.2, rfl, draws_at h i hi⟩
              · obtain ⟨i, W, M, p, nR⟩ := C.words ω e
                refine ⟨i, ?_, M, p, nR⟩
                exact W.but (c := S) (fun b o hb q => hk b o q hb) hS' (Ne.symm (wd_src C.apart e hS)) (by rintro q; rw [q] at nR; exact nR (mem_src hS)) (by intro C q; rw [hcS] at q; cases q) (by rw [hcS]; intro q; injection q with q; revert q; decide)
    · cases h
  · cases h

theorem call_rule (HH : HoleHyp G) (H : Snd G n) (O : FrmOk G fr cx) {m : Str → Option Value} (F : Fr fr.g fr.L s.heap m) (new : ∀ a ∈ muts G.ρ ads, fr.g.get? a = none ∧ a ≠ fr.L) (C : Core G.ρ (AllBut G.ρ s ads) st s ads)
    {f : Addr} {vs : List Value} {xs : List AV} {k : KV} (r : RepVs G.ρ ads s.heap vs xs) (h : stCall G.cf (run G.cf n) f xs k cx st = true) :
    wpAny (model G.prog G.w) fr.A (call (.ref f) vs) (PostC G.ρ st.loc s ads k) (Exc G fr) s := by
  unfold stCall at h
  split at h
  · rename_i rr less hl
    unfold leaps at hl
    split at hl
    · rename_i blk t r' hrest
      have one : ∀ {vs : List Value} {y : AV}, RepVs G.ρ ads s.heap vs [y] → ∃ v, vs = [v] ∧ RepV G.ρ ads s.heap v y := by
        intro vs y r; cases r with
        | cons r0 r => cases r; exact ⟨_, rfl, r0⟩
      have hblk : ∀ ω, G.ρ.wd = some ω → blk = G.ρ.blk := by
        intro ω hω
        obtain ⟨i, W, M, _⟩ := C.words ω hω
        rw [hrest] at M
        generalize ω.toks.drop i = l at M
        cases M; rfl
      split at hl
      · obtain ⟨v, rfl, r0⟩ := one r
        cases r0 with
        | words hω =>
          split at hl
          · rename_i hf
            cases hl
            obtain rfl := Nat.eq_of_beq_eq_true hf
            exact c_jump HH O F new C hω hrest (fun hi => ⟨Nat.zero_le _, HH.ex hi⟩) (.inl rfl) h
          · cases hf : Nat.beq f G.cf.fBlock with
            | false => rw [hf] at hl; cases hl
            | true =>
            rw [hf] at hl
            cases blk with
            | false => cases hl
            | true =>
              cases hl
              obtain rfl := Nat.eq_of_beq_eq_true hf
              exact c_jump HH O F new C hω hrest (fun hi => HH.bl hi (hblk _ hω).symm) (.inl rfl) h
      · cases r with
        | cons r0 r =>
          obtain ⟨v, rfl, r1⟩ := one r
          cases r0 with
          | words hω =>
            cases r1 with
            | bool b =>
              split at hl
              · rename_i hf
                cases hl
                obtain rfl := Nat.eq_of_beq_eq_true hf
                exact c_jump HH O F new C hω hrest (fun hi => ⟨Nat.zero_le _, HH.ex hi⟩) (.inr ⟨rfl, rfl⟩) h
              · cases hl
      · cases hl
    · cases hl
  · split at h
    · rename_i hf
      obtain rfl := Nat.eq_of_beq_eq_true hf
      exact c_draw HH O F new C r h
    · exact c_plain H O F new C r h

theorem run_no {cf : Cf} {j : Job} {cx : Cx} {st : St} (h : run cf 0 j cx st = true) : False := by cases h
theorem snd_all (MH : MethHyp G) (HH : HoleHyp G) : ∀ n, Snd G n := by
  intro n
  induction n using Nat.strongRecOn with
  | _ n ih =>
    cases n with
    | zero => exact ⟨fun h _ _ => (run_no h).elim, fun h _ _ => (run_no h).elim, fun h _ _ _ => (run_no h).elim, fun h _ _ => (run_no h).elim, fun h _ _ => (run_no h).elim, fun h _ _ _ _ _ => (run_no h).elim⟩
    | succ n =>
      have H := ih n (Nat.lt_succ_self n)
      exact ⟨fun h O S => e_rule MH H O S h, fun h O S => t_rule H O S h, fun h hs O S => as_rule H O S h hs, fun h O S => s_rule (fun m hm => ih m (by omega)) O S h,
        fun h O S => ss_rule H O S h, fun h O F new C r => call_rule HH H O F new C r h⟩
end
end Mine

namespace Mine

def Frm.into (fr : Frm) (s : Shared) (hide : List Addr) (f : Addr) (fd : FuncData) (L : Addr) : Frm := ⟨fr.A, fr.base, hideAll s.heap hide, fr.env :: fr.outer, L, f, fd.qualname, fd.scope, fd.code⟩
def flowV : Flow → Value
  | .ret v => v
  | _ => .none

/-- nothing that stood is changed -/
def Kept (h h' : Heap) : Prop := ∀ b o, h.get? b = some o → h'.get? b = some o
section
variable {B : Bs} {fr : Frm} {n : Nat} {s : Shared} {m : Str → Option Value}

/-- a plain def is entered -/
theorem enter {Q : Value → Shared → Prop} {E : Value → Shared → Prop} (O : FrB B fr (n + 1)) (F : Fr fr.g fr.L s.heap m) (hide : List Addr) (hnew : ∀ a ∈ hide, fr.g.get? a = none ∧ a ≠ fr.L)
    {f : Addr} {fd : FuncData} {body : List Stmt} {vs : List Value} {mv : List (Str × Value)} (hf : fnAt B.K f = some fd) (hfd : fdOk B.K fd = true) (hbody : fd.body = .stmts body) (hb : BindsTo s fd ⟨vs, []⟩ mv)
    (hnd : (mv.map (·.1)).Nodup) (hloc : allLocal fd.scope (mv.map (·.1)) = true)
    (k : ∀ L s₁, s.heap.get? L = none → Kept s.heap s₁.heap → OutAs s s₁ → FrB B (fr.into s hide f fd L) n → Fr (hideAll s.heap hide) L s₁.heap (fun z => find z mv) →
      wpAny (model B.prog B.w) (fr.into s hide f fd L).A (execs body (fr.into s hide f fd L).env) (fun fl s' => Q (flowV fl) s')
        (fun x s' => wpAny (model B.prog B.w) (fr.into s hide f fd L).A (leaving (fr.into s hide f fd L).env x) (fun _ s'' => E x s'') (fun e' s'' => E e' s'') s') s₁) :
    wpAny (model B.prog B.w) fr.A (call (.ref f) vs) Q E s := by
  have X := O.X.keeps F.keep
  unfold fnAt at hf
  split at hf
  · rename_i oc od fd' osl hlk
    cases hf
    unfold fdOk at hfd
    simp only [Bool.and_eq_true, Bool.not_eq_true'] at hfd
    obtain ⟨⟨⟨⟨⟨⟨⟨⟨⟨q1, q2⟩, q3⟩, q4⟩, q5⟩, q6⟩, q7⟩, q8⟩, q9⟩, q10⟩ := hfd
    have q1 := Nat.eq_of_beq_eq_true q1
    have q2 := Nat.eq_of_beq_eq_true q2
    have q3 := isNil_iff q3
    have q7' : fd.scope.kind = .function := by
      generalize fd.scope.kind = kk at q7
      cases kk <;> first | rfl | cases q7
    have q10 := isNo_iff q10
    have henv : ∀ L', callEnv fd L' f = envOf fd.qualname fd.scope L' f fd.code := by
      intro L'
      unfold callEnv newEnv envOf
      rw [q1, q2, q3]
    obtain ⟨oL, _, _, hL, _⟩ := F.ns
    have B₁ := O.below.push (name := fr.name) (scope := fr.scope) (a := fr.a) (cd := fr.cd) F O.kind
    have st0 : fr.g.StaysIn (hideAll s.heap hide) := fun b o e => hideAll_get _ (F.keep b o e) fun q => by rw [(hnew b q).1] at e; cases e
    have B₂ : Below fr.A fr.base (fr.env :: fr.outer) (hideAll s.heap hide) := ⟨Around.frames_deeper O.below.stack, fun b o e => st0 b o (O.below.stays b o e),
      funFrames_hideAll B₁.frames fun env he b hb hf => by
        cases he with
        | head => exact (hnew b hb).2 (Option.some.inj hf).symm
        | tail _ he =>
          obtain ⟨L₁, o₁, hf₁, ho₁⟩ := funFrames_in O.below.frames env he
          rw [hf₁] at hf
          rw [Option.some.inj hf, (hnew b hb).1] at ho₁
          cases ho₁⟩
    refine wpAny_call (codeAny_call_def (fd := fd) (body := body) (binds := mv) (by have := O.room; show fr.A₀.depth + 1 < recursionLimit; omega) (X _ _ hlk) rfl (O.T.nolimit.keeps F.keep) (codeRec_of X q9) hbody hb (noCell_ne q8) (fun y hy => ?_) (fun h₁ hns hk₁ => ?_) q6 q5 q7')
    · have := allLocal_at (cx := ⟨fd.scope, 0⟩) hloc _ (List.mem_map_of_mem hy)
      unfold isLocal at this
      split at this
      · rename_i q; rw [find_eq] at q; exact q
      · cases this
    · rw [henv]
      have hlt : ∀ b o, s.heap.get? b = some o → b ≠ s.heap.objs.size := fun b o e => Nat.ne_of_lt (Heap.lt_size e)
      have hsz : s.heap.get? s.heap.objs.size = none := by
        cases q : s.heap.get? s.heap.objs.size with
        | none => rfl
        | some o => exact (hlt _ _ q rfl).elim
      refine wpAny_mono (k s.heap.objs.size { s with heap := h₁, toks := s.toks + mv.length } hsz hk₁ ⟨rfl, rfl, rfl⟩ ⟨B₂, O.X.keeps st0, O.T.keeps st0, q7', O.hh, q10, ?_, ?_⟩ ⟨?_, fun b o e => hk₁ b o (of_hideAll _ e), Nat.le_of_eq (hideAll_size _ _)⟩) (fun fl s' q => ?_) fun _ _ e => e
      · have := O.room
        show fr.A₀.depth + 1 + n + 20 ≤ recursionLimit
        omega
      · have := O.units
        show fr.A₀.units + 3 + 10 * (n + 20) ≤ cLine
        omega
      · rw [show (fun z => find z mv) = (fun z => mv.reverse.lookup z) from funext fun z => (lookup_rev hnd z).symm]
        exact hns
      · cases fl <;> exact q
  · cases hf

/-- where nothing is raised -/
theorem enterQ {Q : Value → Shared → Prop} {E : Value → Shared → Prop} (O : FrB B fr (n + 1)) (F : Fr fr.g fr.L s.heap m) (hide : List Addr) (hnew : ∀ a ∈ hide, fr.g.get? a = none ∧ a ≠ fr.L)
    {f : Addr} {fd : FuncData} {body : List Stmt} {vs : List Value} {mv : List (Str × Value)} (hf : fnAt B.K f = some fd) (hfd : fdOk B.K fd = true) (hbody : fd.body = .stmts body) (hb : BindsTo s fd ⟨vs, []⟩ mv)
    (hnd : (mv.map (·.1)).Nodup) (hloc : allLocal fd.scope (mv.map (·.1)) = true)
    (k : ∀ L s₁, s.heap.get? L = none → Kept s.heap s₁.heap → OutAs s s₁ → FrB B (fr.into s hide f fd L) n → Fr (hideAll s.heap hide) L s₁.heap (fun z => find z mv) →
      wpAny (model B.prog B.w) (fr.into s hide f fd L).A (execs body (fr.into s hide f fd L).env) (fun fl s' => Q (flowV fl) s') (fun _ _ => False) s₁) :
    wpAny (model B.prog B.w) fr.A (call (.ref f) vs) Q E s :=
  enter O F hide hnew hf hfd hbody hb hnd hloc fun L s₁ a b c d e => wpAny_mono (k L s₁ a b c d e) (fun _ _ q => q) fun _ _ q => q.elim

/-- a name of the frame's own -/
theorem nm {Q : Value → Shared → Prop} {E : Value → Shared → Prop} {x : Str} {v : Value} {p : Pos} (O : FrB B fr n) {hp : Heap} (F : Fr fr.g fr.L hp m) (hl : find x fr.scope.names = some .local) (hm : m x = some v) (h : Q v s) (hs : s.heap = hp := by rfl) :
    wpAny (model B.prog B.w) fr.A (eval (.Name x p) fr.env) Q E s := by
  subst hs
  refine ld F hm h O.kind ?_ ?_
  · show fr.scope.names.lookup x = _
    rw [← find_eq]; exact hl
  · rw [← eqS_eq, eqS_false]
    rintro rfl
    rw [O.dbg] at hl; cases hl
theorem gnm {Q : Value → Shared → Prop} {E : Value → Shared → Prop} {x : Str} {v : Value} {p : Pos} (O : FrB B fr n) {hp : Heap} (F : Fr fr.g fr.L hp m) (hl : find x fr.scope.names = some .globalImplicit) (hm : nsIn B.K mainGlobals x = some (some v)) (h : Q v s) (hs : s.heap = hp := by rfl) :
    wpAny (model B.prog B.w) fr.A (eval (.Name x p) fr.env) Q E s := by
  subst hs
  refine name_K F O.X O.T hm h O.kind ?_ ?_
  · show fr.scope.names.lookup x = _
    rw [← find_eq]; exact hl
  · rw [← eqS_eq, eqS_false]
    rintro rfl
    rw [O.dbg] at hl; cases hl
theorem bnm {Q : Value → Shared → Prop} {E : Value → Shared → Prop} {x : Str} {v : Value} {p : Pos} (O : FrB B fr n) {hp : Heap} (F : Fr fr.g fr.L hp m) (hl : find x fr.scope.names = some .globalImplicit) (hm : nsIn B.K mainGlobals x = some none)
    (hb : bootBuiltins x = some v) (hn : x ≠ "__name__") (h : Q v s) (hs : s.heap = hp := by rfl) :
    wpAny (model B.prog B.w) fr.A (eval (.Name x p) fr.env) Q E s := by
  subst hs
  refine name_B F O.X O.T hm hb hn h O.kind ?_ ?_
  · show fr.scope.names.lookup x = _
    rw [← find_eq]; exact hl
  · rw [← eqS_eq, eqS_false]
    rintro rfl
    rw [O.dbg] at hl; cases hl
theorem stN' {Q : Unit → Shared → Prop} {E : Value → Shared → Prop} {x : Str} {v : Value} (O : FrB B fr n) {hp : Heap} (F : Fr fr.g fr.L hp m) (hl : find x fr.scope.names = some .local)
    (h : ∀ h' tk, Fr fr.g fr.L h' (fun z => if z = x then some v else m z) → Heap.SameBut fr.L s.heap h' → Q () { s with heap := h', toks := tk }) (hs : s.heap = hp := by rfl) :
    wpAny (model B.prog B.w) fr.A (storeName fr.env x v) Q E s := by
  subst hs
  exact
  wpAny_storeName_local (by show fr.scope.names.lookup x = _; rw [← find_eq]; exact hl) F.ns (fun h' hn hs => h h' _ (F.set hn hs) hs) (by show (fr.scope.kind == .class || (fr.scope.kind == .module && _)) = false; rw [O.kind]; rfl)
end

/-- what the class of the words is asked -/
structure ClsK (B : Bs) : Prop where
  ga : findIn B.K (.ref B.C) "__getattribute__" = some (some (.builtin "object.__getattribute__"))
  gb : findIn B.K (.ref B.C) "__getattr__" = some none
  sa : findIn B.K (.ref B.C) "__setattr__" = some (some (.builtin "object.__setattr__"))
  hd : hasDictIn B.K B.C = true
  po : plainOver B.K B.C = true
  f1 : findIn B.K (.ref B.C) "rows" = some none
  f2 : findIn B.K (.ref B.C) "at" = some none
  f3 : findIn B.K (.ref B.C) "deep" = some none
  t2 : takerIn B.K B.C "at" = some none
  t3 : takerIn B.K B.C "deep" = some none

section
variable {B : Bs} {fr : Frm} {n : Nat} {s : Shared} {m : Str → Option Value} {ω : Wd} {i d : Nat}
theorem W_inst {h : Heap} (W : WordsAt ω h i d) : ∃ ti td, InstAt h ω.W ω.ox ω.C (some (ω.dict i ti d td)) ∧ h.get? ω.D = some (ω.dict i ti d td) := by
  obtain ⟨ti, td, hD⟩ := W.dict
  exact ⟨ti, td, ⟨W.inst, rfl, rfl, hD⟩, hD⟩

theorem rd_rows {Q : Value → Shared → Prop} {E : Value → Shared → Prop} {x : Str} {xp pos : Pos} (CK : ClsK B) (O : FrB B fr n) {hp : Heap} (F : Fr fr.g fr.L hp m) (hC : ω.C = B.C) (W : WordsAt ω hp i d) (hl : find x fr.scope.names = some .local) (hm : m x = some (.ref ω.W))
    (h : Q (.ref ω.R) { s with toks := s.toks + 1 }) (hs : s.heap = hp := by rfl) : wpAny (model B.prog B.w) fr.A (eval (.Attribute (.Name x xp) "rows" pos) fr.env) Q E s := by
  subst hs
  refine Attribute_name (nm O F hl hm ?_)
  obtain ⟨ti, td, I, _⟩ := W_inst W
  exact get_value (O.X.keeps F.keep) I (hC ▸ CK.ga) (findObj_own (hC ▸ CK.hd) (hC ▸ CK.f1) rfl rfl) rfl h
theorem rd_at {Q : Value → Shared → Prop} {E : Value → Shared → Prop} {x : Str} {xp pos : Pos} (CK : ClsK B) (O : FrB B fr n) {hp : Heap} (F : Fr fr.g fr.L hp m) (hC : ω.C = B.C) (W : WordsAt ω hp i d) (hl : find x fr.scope.names = some .local) (hm : m x = some (.ref ω.W))
    (h : ∀ t, Q (.int i t) { s with toks := s.toks + 1 }) (hs : s.heap = hp := by rfl) : wpAny (model B.prog B.w) fr.A (eval (.Attribute (.Name x xp) "at" pos) fr.env) Q E s := by
  subst hs
  refine Attribute_name (nm O F hl hm ?_)
  obtain ⟨ti, td, I, _⟩ := W_inst W
  exact get_value (O.X.keeps F.keep) I (hC ▸ CK.ga) (findObj_own (hC ▸ CK.hd) (hC ▸ CK.f2) rfl rfl) rfl (h ti)
theorem rd_deep {Q : Value → Shared → Prop} {E : Value → Shared → Prop} {x : Str} {xp pos : Pos} (CK : ClsK B) (O : FrB B fr n) {hp : Heap} (F : Fr fr.g fr.L hp m) (hC : ω.C = B.C) (W : WordsAt ω hp i d) (hl : find x fr.scope.names = some .local) (hm : m x = some (.ref ω.W))
    (h : ∀ t, Q (.int d t) { s with toks := s.toks + 1 }) (hs : s.heap = hp := by rfl) : wpAny (model B.prog B.w) fr.A (eval (.Attribute (.Name x xp) "deep" pos) fr.env) Q E s := by
  subst hs
  refine Attribute_name (nm O F hl hm ?_)
  obtain ⟨ti, td, I, _⟩ := W_inst W
  exact get_value (O.X.keeps F.keep) I (hC ▸ CK.ga) (findObj_own (hC ▸ CK.hd) (hC ▸ CK.f3) rfl rfl) rfl (h td)

/-- all that stood stands, but for the words' own dict -/
def KeepsBut (D : Addr) (h h' : Heap) : Prop := ∀ b o, h.get? b = some o → b ≠ D → h'.get? b = some o
theorem WordsAt.moved {h h' : Heap} (W : WordsAt ω h i d) (k : KeepsBut ω.D h h') (hR : ω.R ≠ ω.D) {i' d' : Nat} {ti td : PySem.Tok} (hD : h'.get? ω.D = some (ω.dict i' ti d' td)) (hi : i' < ω.toks.length) : WordsAt ω h' i' d' := by
  obtain ⟨ti0, td0, hD0⟩ := W.dict
  have ne : ∀ b o', h.get? b = some o' → (∀ es ep, o'.data ≠ .dict es ep) → b ≠ ω.D := by rintro b o' q hne rfl; rw [hD0] at q; cases q; exact hne _ _ rfl
  refine ⟨k _ _ W.inst (ne _ _ W.inst (by intro _ _ z; cases z)), ⟨ti, td, hD⟩, ?_, W.len, ?_, hi, W.small⟩
  · obtain ⟨n, q⟩ := W.rows; exact ⟨n, k _ _ q hR⟩
  · intro j t a h1 h2
    obtain ⟨k1, k2, k3, n, q⟩ := W.tok j t a h1 h2
    exact ⟨k1, k2, k3, n, k _ _ q (ne _ _ q (by intro _ _ z; cases z))⟩

theorem set_at {Q : Unit → Shared → Prop} {E : Value → Shared → Prop} {j : Nat} {t : PySem.Tok} (CK : ClsK B) (O : FrB B fr n) {hp : Heap} (F : Fr fr.g fr.L hp m) (hC : ω.C = B.C) (W : WordsAt ω hp i d) (g : fr.g.get? ω.D = none) (gL : ω.D ≠ fr.L)
    (h : ∀ h' td, Fr fr.g fr.L h' m → h'.get? ω.D = some (ω.dict j t d td) → Q () { s with heap := h', toks := s.toks + 2 }) (hs : s.heap = hp := by rfl) :
    wpAny (model B.prog B.w) fr.A (setAttr (.ref ω.W) "at" (.int j t)) Q E s := by
  subst hs
  obtain ⟨ti, td, I, hD⟩ := W_inst W
  have N : News fr.g fr.L s.heap [(ω.D, ω.dict i ti d td)] := by
    intro p hp
    simp only [List.mem_singleton] at hp
    subst hp
    exact ⟨hD, gL, g⟩
  refine set_dict (news' := [(ω.D, ω.dict j t d td)]) F O.X N I rfl (hC ▸ CK.sa) (hC ▸ CK.po) (hC ▸ CK.t2) (hC ▸ CK.hd) rfl rfl (.head (by intro p hp; cases hp)) (show 3 ≤ 1000 by decide) fun h' F' N' => h h' td F' (N' (ω.D, ω.dict j t d td) (.head _)).1
theorem set_deep {Q : Unit → Shared → Prop} {E : Value → Shared → Prop} {j : Nat} {t : PySem.Tok} (CK : ClsK B) (O : FrB B fr n) {hp : Heap} (F : Fr fr.g fr.L hp m) (hC : ω.C = B.C) (W : WordsAt ω hp i d) (g : fr.g.get? ω.D = none) (gL : ω.D ≠ fr.L)
    (h : ∀ h' ti, Fr fr.g fr.L h' m → h'.get? ω.D = some (ω.dict i ti j t) → Q () { s with heap := h', toks := s.toks + 2 }) (hs : s.heap = hp := by rfl) :
    wpAny (model B.prog B.w) fr.A (setAttr (.ref ω.W) "deep" (.int j t)) Q E s := by
  subst hs
  obtain ⟨ti, td, I, hD⟩ := W_inst W
  have N : News fr.g fr.L s.heap [(ω.D, ω.dict i ti d td)] := by
    intro p hp
    simp only [List.mem_singleton] at hp
    subst hp
    exact ⟨hD, gL, g⟩
  refine set_dict (news' := [(ω.D, ω.dict i ti j t)]) F O.X N I rfl (hC ▸ CK.sa) (hC ▸ CK.po) (hC ▸ CK.t3) (hC ▸ CK.hd) rfl rfl (.head (by intro p hp; cases hp)) (show 3 ≤ 1000 by decide) fun h' F' N' => h h' ti F' (N' (ω.D, ω.dict i ti j t) (.head _)).1

theorem aug_at {Q : Flow → Shared → Prop} {E : Value → Shared → Prop} {x : Str} {xp tp pos cp : Pos} {a : Nat} (CK : ClsK B) (O : FrB B fr n) {hp : Heap} (F : Fr fr.g fr.L hp m) (hC : ω.C = B.C) (W : WordsAt ω hp i d) (hl : find x fr.scope.names = some .local) (hm : m x = some (.ref ω.W))
    (g : fr.g.get? ω.D = none) (gL : ω.D ≠ fr.L) (h : ∀ h' tk t td, Fr fr.g fr.L h' m → h'.get? ω.D = some (ω.dict (i + 1) t d td) → Q .next { s with heap := h', toks := tk }) (hs : s.heap = hp := by rfl) :
    wpAny (model B.prog B.w) fr.A (exec (.AugAssign (.Attribute (.Name x xp) "at" tp) .Add (.Constant (.int 1) a cp) pos) fr.env) Q E s := by
  subst hs
  refine wpAny_AugAssign_AttributeAny (nm O F hl hm ?_)
  obtain ⟨ti, td, I, _⟩ := W_inst W
  refine get_value (O.X.keeps F.keep) I (hC ▸ CK.ga) (findObj_own (hC ▸ CK.hd) (hC ▸ CK.f2) rfl rfl) rfl ?_
  refine wpAny_Constant_int (PyProof.Rows.iadd_int ?_)
  exact set_at (s := { s with toks := s.toks + 1 + 1 + 1 }) (j := i + 1) CK O F hC W g gL fun h' td F' hD => h h' _ _ _ F' hD
theorem aug_deep {Q : Flow → Shared → Prop} {E : Value → Shared → Prop} {x : Str} {xp tp pos cp : Pos} {a : Nat} (CK : ClsK B) (O : FrB B fr n) {hp : Heap} (F : Fr fr.g fr.L hp m) (hC : ω.C = B.C) (W : WordsAt ω hp i d) (hl : find x fr.scope.names = some .local) (hm : m x = some (.ref ω.W))
    (g : fr.g.get? ω.D = none) (gL : ω.D ≠ fr.L) (h : ∀ h' tk ti t, Fr fr.g fr.L h' m → h'.get? ω.D = some (ω.dict i ti (d + 1) t) → Q .next { s with heap := h', toks := tk }) (hs : s.heap = hp := by rfl) :
    wpAny (model B.prog B.w) fr.A (exec (.AugAssign (.Attribute (.Name x xp) "deep" tp) .Add (.Constant (.int 1) a cp) pos) fr.env) Q E s := by
  subst hs
  refine wpAny_AugAssign_AttributeAny (nm O F hl hm ?_)
  obtain ⟨ti, td, I, _⟩ := W_inst W
  refine get_value (O.X.keeps F.keep) I (hC ▸ CK.ga) (findObj_own (hC ▸ CK.hd) (hC ▸ CK.f3) rfl rfl) rfl ?_
  refine wpAny_Constant_int (PyProof.Rows.iadd_int ?_)
  exact set_deep (s := { s with toks := s.toks + 1 + 1 + 1 }) (j := d + 1) CK O F hC W g gL fun h' td F' hD => h h' _ _ _ F' hD
theorem less_deep {Q : Flow → Shared → Prop} {E : Value → Shared → Prop} {x : Str} {xp tp pos cp : Pos} {a : Nat} (CK : ClsK B) (O : FrB B fr n) {hp : Heap} (F : Fr fr.g fr.L hp m) (hC : ω.C = B.C) (W : WordsAt ω hp i (d + 1)) (hl : find x fr.scope.names = some .local) (hm : m x = some (.ref ω.W))
    (g : fr.g.get? ω.D = none) (gL : ω.D ≠ fr.L) (h : ∀ h' tk ti t, Fr fr.g fr.L h' m → h'.get? ω.D = some (ω.dict i ti d t) → Q .next { s with heap := h', toks := tk }) (hs : s.heap = hp := by rfl) :
    wpAny (model B.prog B.w) fr.A (exec (.AugAssign (.Attribute (.Name x xp) "deep" tp) .Sub (.Constant (.int 1) a cp) pos) fr.env) Q E s := by
  subst hs
  refine wpAny_AugAssign_AttributeAny (nm O F hl hm ?_)
  obtain ⟨ti, td, I, _⟩ := W_inst W
  refine get_value (O.X.keeps F.keep) I (hC ▸ CK.ga) (findObj_own (hC ▸ CK.hd) (hC ▸ CK.f3) rfl rfl) rfl ?_
  refine wpAny_Constant_int (PyProof.Rows.isub_int ?_)
  have e : ((d + 1 : Nat) : Int) - 1 = (d : Nat) := by omega
  rw [e]
  exact set_deep (s := { s with toks := s.toks + 1 + 1 + 1 }) (j := d) CK O F hC W g gL fun h' td F' hD => h h' _ _ _ F' hD
end
end Mine

namespace Mine

/-! what a text looks like -/
def isN (x : Str) : Expr → Bool
  | .Name y _ => eqS y x
  | _ => false
def isA (x a : Str) : Expr → Bool
  | .Attribute (.Name y _) b _ => eqS y x && eqS b a
  | _ => false
def isI (n : Nat) : Expr → Bool
  | .Constant (.int (.ofNat k)) _ _ => Nat.beq k n
  | _ => false
def isT (x : Str) : Expr → Bool
  | .Constant (.str y) _ _ => eqS y x
  | _ => false
def vRet : Stmt → Option Expr
  | .Return (some e) _ => some e
  | _ => none
def vSub : Expr → Option (Expr × Expr)
  | .Subscript v i _ => some (v, i)
  | _ => none
def vCall : Expr → Option (Str × List Expr)
  | .Call (.Name f _) as [] _ => some (f, as)
  | _ => none
def vMeth : Expr → Option (Str × Str × List Expr)
  | .Call (.Attribute (.Name o _) m ap) as [] pos => match Nat.beq ap.endLine pos.line with
    | true => some (o, m, as)
    | false => none
  | _ => none
def vAdd : Expr → Option (Expr × Expr)
  | .BinOp l .Add r _ => some (l, r)
  | _ => none
def vLess : Expr → Option (Expr × Expr)
  | .BinOp l .Sub r _ => some (l, r)
  | _ => none
theorem isN_is {x : Str} {e : Expr} (h : isN x e = true) : ∃ p, e = .Name x p := by
  unfold isN at h
  split at h
  · exact ⟨_, by rw [eqS_iff.mp h]⟩
  · cases h
theorem isA_is {x a : Str} {e : Expr} (h : isA x a e = true) : ∃ p q, e = .Attribute (.Name x p) a q := by
  unfold isA at h
  split at h
  · simp only [Bool.and_eq_true] at h
    exact ⟨_, _, by rw [eqS_iff.mp h.1, eqS_iff.mp h.2]⟩
  · cases h
theorem isI_is {n : Nat} {e : Expr} (h : isI n e = true) : ∃ a p, e = .Constant (.int n) a p := by
  unfold isI at h
  split at h
  · rw [← Nat.eq_of_beq_eq_true h]; exact ⟨_, _, rfl⟩
  · cases h
theorem isT_is {x : Str} {e : Expr} (h : isT x e = true) : ∃ a p, e = .Constant (.str x) a p := by
  unfold isT at h
  split at h
  · rw [← eqS_iff.mp h]; exact ⟨_, _, rfl⟩
  · cases h
theorem vRet_is {s : Stmt} {e : Expr} (h : vRet s = some e) : ∃ p, s = .Return (some e) p := by
  unfold vRet at h
  split at h <;> cases h
  exact ⟨_, rfl⟩
theorem vSub_is {e v i : Expr} (h : vSub e = some (v, i)) : ∃ p, e = .Subscript v i p := by
  unfold vSub at h
  split at h <;> cases h
  exact ⟨_, rfl⟩
theorem vCall_is {e : Expr} {f : Str} {as : List Expr} (h : vCall e = some (f, as)) : ∃ p q, e = .Call (.Name f p) as [] q := by
  unfold vCall at h
  split at h <;> cases h
  exact ⟨_, _, rfl⟩
theorem vMeth_is {e : Expr} {o m : Str} {as : List Expr} (h : vMeth e = some (o, m, as)) : ∃ p q pos, e = .Call (.Attribute (.Name o p) m q) as [] pos ∧ q.endLine = pos.line := by
  unfold vMeth at h
  split at h
  · split at h
    · rename_i hb; cases h; exact ⟨_, _, _, rfl, Nat.eq_of_beq_eq_true hb⟩
    · cases h
  · cases h
theorem vAdd_is {e l r : Expr} (h : vAdd e = some (l, r)) : ∃ p, e = .BinOp l .Add r p := by
  unfold vAdd at h
  split at h <;> cases h
  exact ⟨_, rfl⟩
theorem vLess_is {e l r : Expr} (h : vLess e = some (l, r)) : ∃ p, e = .BinOp l .Sub r p := by
  unfold vLess at h
  split at h <;> cases h
  exact ⟨_, rfl⟩

/-- a def's text and what its names are -/
def sameNames : List Arg → List Str → Bool
  | [], [] => true
  | a :: r, x :: l => match eqS a.arg x with
    | true => sameNames r l
    | false => false
  | _, _ => false
def defOf (K : Frag) (f : Addr) (names : List Str) : Option (FuncData × List Stmt) := match fnAt K f with
  | some fd => match fd.body, fdOk K fd, sameNames fd.params.args names, allLocal fd.scope names with
    | .stmts b, true, true, true => some (fd, b)
    | _, _, _, _ => none
  | none => none
def isGl (fd : FuncData) (x : Str) : Bool := isGlobal ⟨fd.scope, 0⟩ x
def isLc (fd : FuncData) (x : Str) : Bool := isLocal ⟨fd.scope, 0⟩ x
def noDf (fd : FuncData) : Bool := match fd.defaults with
  | .none => true
  | _ => false
/-- one default, an int -/
def dfI (K : Frag) (fd : FuncData) (n : Nat) : Bool := match dflts K fd.defaults with
  | some [.int (.ofNat k)] => Nat.beq k n
  | _ => false
theorem isGl_is {fd : FuncData} {x : Str} (h : isGl fd x = true) : find x fd.scope.names = some .globalImplicit := by
  unfold isGl isGlobal at h
  split at h <;> first | assumption | cases h
theorem isLc_is {fd : FuncData} {x : Str} (h : isLc fd x = true) : find x fd.scope.names = some .local := by
  unfold isLc isLocal at h
  split at h <;> first | assumption | cases h
theorem sameNames_is : ∀ {l : List Arg} {names : List Str}, sameNames l names = true → l.map (·.arg) = names
  | [], [], _ => rfl
  | [], _ :: _, h => by cases h
  | _ :: _, [], h => by cases h
  | a :: r, x :: l, h => by
    unfold sameNames at h
    split at h
    · rename_i q; rw [List.map_cons, eqS_iff.mp q, sameNames_is h]
    · cases h
theorem defOf_is {K : Frag} {f : Addr} {names : List Str} {fd : FuncData} {b : List Stmt} (h : defOf K f names = some (fd, b)) :
    fnAt K f = some fd ∧ fdOk K fd = true ∧ fd.body = .stmts b ∧ fd.params.args.map (·.arg) = names ∧ allLocal fd.scope names = true := by
  unfold defOf at h
  split at h
  · split at h
    · rename_i q1 q2 q3 q4; cases h; exact ⟨by assumption, q2, q1, sameNames_is q3, q4⟩
    · cases h
  · cases h
theorem fdOk_params {K : Frag} {fd : FuncData} (h : fdOk K fd = true) : plainParams fd.params = true := by
  unfold fdOk at h
  simp only [Bool.and_eq_true] at h
  exact h.1.1.1.1.1.1.2
theorem noDf_is {fd : FuncData} (h : noDf fd = true) : fd.defaults = .none := by
  unfold noDf at h
  split at h <;> first | assumption | cases h

section
variable {s : Shared} {fd : FuncData} {K : Frag} {x y : Str} {u v : Value}
theorem bind1 (ho : fdOk K fd = true) (ha : fd.params.args.map (·.arg) = [x]) (hd : fd.defaults = .none) : BindsTo s fd ⟨[v], []⟩ [(x, v)] := by
  obtain ⟨kwd, hp⟩ := params_of (fdOk_params ho)
  generalize fd.params.args = as at ha hp
  match as, ha, hp with
  | [pa], ha, hp =>
    simp only [List.map_cons, List.map_nil, List.cons.injEq, and_true] at ha
    exact ha ▸ b1 hp hd
theorem bind2 (ho : fdOk K fd = true) (ha : fd.params.args.map (·.arg) = [x, y]) (hd : fd.defaults = .none) (hxy : x ≠ y) : BindsTo s fd ⟨[v, u], []⟩ [(x, v), (y, u)] := by
  obtain ⟨kwd, hp⟩ := params_of (fdOk_params ho)
  generalize fd.params.args = as at ha hp
  match as, ha, hp with
  | [pa, pb], ha, hp =>
    simp only [List.map_cons, List.map_nil, List.cons.injEq, and_true] at ha
    obtain ⟨rfl, rfl⟩ := ha
    exact b2 hp hd hxy
theorem bind21 {k : Nat} (X : K.In s.heap) (ho : fdOk K fd = true) (ha : fd.params.args.map (·.arg) = [x, y]) (hd : dfI K fd k = true) (hxy : x ≠ y) : ∃ t, BindsTo s fd ⟨[v], []⟩ [(x, v), (y, .int k t)] := by
  obtain ⟨kwd, hp⟩ := params_of (fdOk_params ho)
  unfold dfI at hd
  split at hd
  · rename_i k' hk
    obtain rfl := Nat.eq_of_beq_eq_true hd
    rcases dflts_are (ρ := ⟨none, none, [], [], 0, 0, false, 0, 0, s, []⟩) (ads := []) X hk with ⟨_, q⟩ | ⟨T, items, ep, hv, hT, r, _⟩
    · cases q
    · cases r with
      | cons r0 r =>
        cases r
        cases r0 with
        | int _ t =>
          generalize fd.params.args = as at ha hp
          match as, ha, hp with
          | [pa, pb], ha, hp =>
            simp only [List.map_cons, List.map_nil, List.cons.injEq, and_true] at ha
            obtain ⟨rfl, rfl⟩ := ha
            exact ⟨t, b21 hp hv hT rfl hxy⟩
  · cases hd
theorem bind22 {k : Nat} (X : K.In s.heap) (ho : fdOk K fd = true) (ha : fd.params.args.map (·.arg) = [x, y]) (hd : dfI K fd k = true) (hxy : x ≠ y) : BindsTo s fd ⟨[v, u], []⟩ [(x, v), (y, u)] := by
  obtain ⟨kwd, hp⟩ := params_of (fdOk_params ho)
  unfold dfI at hd
  split at hd
  · rename_i k' hk
    obtain rfl := Nat.eq_of_beq_eq_true hd
    rcases dflts_are (ρ := ⟨none, none, [], [], 0, 0, false, 0, 0, s, []⟩) (ads := []) X hk with ⟨_, q⟩ | ⟨T, items, ep, hv, hT, r, _⟩
    · cases q
    · cases r with
      | cons r0 r =>
        cases r
        generalize fd.params.args = as at ha hp
        match as, ha, hp with
        | [pa, pb], ha, hp =>
          simp only [List.map_cons, List.map_nil, List.cons.injEq, and_true] at ha
          obtain ⟨rfl, rfl⟩ := ha
          exact b22 hp hv hT rfl hxy
  · cases hd
theorem b32 {kwd : List (Option Expr)} {dfl : List Expr} {pa pb pc : Arg} {d : Value} {T : Addr} {o : Obj} {n : Nat} (hp : fd.params = ⟨[], [pa, pb, pc], none, [], kwd, none, dfl⟩) (hd : fd.defaults = .ref T) (ho : s.heap.get? T = some o) (hs : o.data = .seq #[d] n)
    (h1 : pa.arg ≠ pb.arg) (h2 : pa.arg ≠ pc.arg) (h3 : pb.arg ≠ pc.arg) : BindsTo s fd ⟨[v, u], []⟩ [(pa.arg, v), (pb.arg, u), (pc.arg, d)] := by
  cases fd
  simp only at hp hd
  subst hp
  subst hd
  refine BindsTo.of_defaults rfl ho hs rfl ?_
  have h1' : (pb.arg == pa.arg) = false := by simpa using Ne.symm h1
  have h2' : (pc.arg == pa.arg) = false := by simpa using Ne.symm h2
  have h3' : (pc.arg == pb.arg) = false := by simpa using Ne.symm h3
  simp [List.lookup, h1', h2', h3']
theorem b33 {kwd : List (Option Expr)} {dfl : List Expr} {pa pb pc : Arg} {d q : Value} {T : Addr} {o : Obj} {n : Nat} (hp : fd.params = ⟨[], [pa, pb, pc], none, [], kwd, none, dfl⟩) (hd : fd.defaults = .ref T) (ho : s.heap.get? T = some o) (hs : o.data = .seq #[d] n)
    (h1 : pa.arg ≠ pb.arg) (h2 : pa.arg ≠ pc.arg) (h3 : pb.arg ≠ pc.arg) : BindsTo s fd ⟨[v, u, q], []⟩ [(pa.arg, v), (pb.arg, u), (pc.arg, q)] := by
  cases fd
  simp only at hp hd
  subst hp
  subst hd
  refine BindsTo.of_defaults rfl ho hs rfl ?_
  have h1' : (pb.arg == pa.arg) = false := by simpa using Ne.symm h1
  have h2' : (pc.arg == pa.arg) = false := by simpa using Ne.symm h2
  have h3' : (pc.arg == pb.arg) = false := by simpa using Ne.symm h3
  simp [List.lookup, h1', h2', h3']
/-- three parameters, the last stands by its default -/
theorem bind32 {z : Str} {k : Nat} (X : K.In s.heap) (ho : fdOk K fd = true) (ha : fd.params.args.map (·.arg) = [x, y, z]) (hd : dfI K fd k = true) (h1 : x ≠ y) (h2 : x ≠ z) (h3 : y ≠ z) :
    ∃ t, BindsTo s fd ⟨[v, u], []⟩ [(x, v), (y, u), (z, .int k t)] := by
  obtain ⟨kwd, hp⟩ := params_of (fdOk_params ho)
  unfold dfI at hd
  split at hd
  · rename_i k' hk
    obtain rfl := Nat.eq_of_beq_eq_true hd
    rcases dflts_are (ρ := ⟨none, none, [], [], 0, 0, false, 0, 0, s, []⟩) (ads := []) X hk with ⟨_, q⟩ | ⟨T, items, ep, hv, hT, r, _⟩
    · cases q
    · cases r with
      | cons r0 r =>
        cases r
        cases r0 with
        | int _ t =>
          generalize fd.params.args = as at ha hp
          match as, ha, hp with
          | [pa, pb, pc], ha, hp =>
            simp only [List.map_cons, List.map_nil, List.cons.injEq, and_true] at ha
            obtain ⟨rfl, rfl, rfl⟩ := ha
            exact ⟨t, b32 hp hv hT rfl h1 h2 h3⟩
  · cases hd
theorem bind33 {z : Str} {k : Nat} {q : Value} (X : K.In s.heap) (ho : fdOk K fd = true) (ha : fd.params.args.map (·.arg) = [x, y, z]) (hd : dfI K fd k = true) (h1 : x ≠ y) (h2 : x ≠ z) (h3 : y ≠ z) :
    BindsTo s fd ⟨[v, u, q], []⟩ [(x, v), (y, u), (z, q)] := by
  obtain ⟨kwd, hp⟩ := params_of (fdOk_params ho)
  unfold dfI at hd
  split at hd
  · rename_i k' hk
    obtain rfl := Nat.eq_of_beq_eq_true hd
    rcases dflts_are (ρ := ⟨none, none, [], [], 0, 0, false, 0, 0, s, []⟩) (ads := []) X hk with ⟨_, q⟩ | ⟨T, items, ep, hv, hT, r, _⟩
    · cases q
    · cases r with
      | cons r0 r =>
        cases r
        generalize fd.params.args = as at ha hp
        match as, ha, hp with
        | [pa, pb, pc], ha, hp =>
          simp only [List.map_cons, List.map_nil, List.cons.injEq, and_true] at ha
          obtain ⟨rfl, rfl, rfl⟩ := ha
          exact b33 hp hv hT rfl h1 h2 h3
  · cases hd
end
end Mine

namespace Mine

def noneK (K : Frag) (x : Str) : Bool := match nsIn K mainGlobals x with
  | some none => true
  | _ => false
theorem noneK_is {K : Frag} {x : Str} (h : noneK K x = true) : nsIn K mainGlobals x = some none := by
  unfold noneK at h
  split at h <;> first | assumption | cases h

def peekE (e : Expr) : Bool := match vSub e with
  | some (v, ix) => isA "self" "rows" v && (match vCall ix with
    | some (mn, [l, r]) => eqS mn "min" && (match vAdd l with
      | some (a, b) => isA "self" "at" a && isN "ahead" b
      | none => false) && (match vLess r with
      | some (c, o) => isI 1 o && (match vCall c with
        | some (ln, [z]) => eqS ln "len" && isA "self" "rows" z
        | _ => false)
      | none => false)
    | _ => false)
  | none => false
def okPeek (K : Frag) (f : Addr) : Bool := match defOf K f ["self", "ahead"] with
  | some (fd, [st]) => dfI K fd 0 && isGl fd "min" && isGl fd "len" && noneK K "min" && noneK K "len" && isLc fd "self" && isLc fd "ahead" && (match vRet st with
    | some e => peekE e
    | none => false)
  | _ => false

theorem min_two' {prog : Program} {w : World} {A : Around} {E : Value → Shared → Prop} {s : Shared} {a b : Int} {t u : PySem.Tok} {j : Nat} {Q : Value → Shared → Prop} (hh : A.handled = none) (hj : (j : Int) = min a b)
    (h : ∀ h' tk v, Kept s.heap h' → Q (.int j v) { s with heap := h', toks := tk }) : wpAny (model prog w) A (call (.builtin "min") [.int a t, .int b u]) Q E s := by
  refine min_two_ints hh fun h' tk hk => ?_
  by_cases hc : b < a
  · rw [if_pos hc, show b = j by omega]; exact h h' tk _ hk
  · rw [if_neg hc, show a = j by omega]; exact h h' tk _ hk
section
variable {B : Bs} {fr : Frm} {n : Nat} {s : Shared} {m : Str → Option Value} {ω : Wd} {i d : Nat}

theorem c_peek (CK : ClsK B) {f : Addr} (hf : okPeek B.K f = true) (O : FrB B fr (n + 1)) (F : Fr fr.g fr.L s.heap m) (hC : ω.C = B.C) (W : WordsAt ω s.heap i d) {vs : List Value} {k : Int} {j : Nat} {a : Addr}
    (hv : (vs = [.ref ω.W] ∧ k = 0) ∨ ∃ t, vs = [.ref ω.W, .int k t]) (h0 : 0 ≤ (i : Int) + k) (h1 : k ≤ 1000000) (hj : (j : Int) = min ((i : Int) + k) (ω.toks.length - 1)) (ha : ω.tvs[j]? = some a) :
    wpAny (model B.prog B.w) fr.A (call (.ref f) vs) (fun v s' => v = .ref a ∧ Kept s.heap s'.heap ∧ OutAs s s') (fun _ _ => False) s := by
  unfold okPeek at hf
  split at hf
  · rename_i fd st hdef
    simp only [Bool.and_eq_true] at hf
    obtain ⟨⟨⟨⟨⟨⟨⟨hdf, hg1⟩, hg2⟩, hn1⟩, hn2⟩, hl1⟩, hl2⟩, hst⟩ := hf
    split at hst
    · rename_i e he
      obtain ⟨q1, q2, q3, q4, q5⟩ := defOf_is hdef
      have X := O.X.keeps F.keep
      have hb : ∃ t, BindsTo s fd ⟨vs, []⟩ [("self", .ref ω.W), ("ahead", .int k t)] := by
        rcases hv with ⟨rfl, rfl⟩ | ⟨t, rfl⟩
        · exact bind21 X q2 q4 hdf (by decide)
        · exact ⟨t, bind22 X q2 q4 hdf (by decide)⟩
      obtain ⟨t, hb⟩ := hb
      refine enterQ O F [] (by intro a h; cases h) q1 q2 q3 hb (show (["self", "ahead"] : List Str).Nodup by decide) q5 fun L s₁ _ hk ho O' F' => ?_
      have keep := hk
      have W₁ := W.ext hk
      obtain ⟨pr, rfl⟩ := vRet_is he
      unfold peekE at hst
      split at hst
      · rename_i v ix hsub
        obtain ⟨ps, rfl⟩ := vSub_is hsub
        simp only [Bool.and_eq_true] at hst
        obtain ⟨hrows, hst⟩ := hst
        obtain ⟨p1, p2, rfl⟩ := isA_is hrows
        split at hst
        · rename_i mn l r hcall
          obtain ⟨p3, p4, rfl⟩ := vCall_is hcall
          simp only [Bool.and_eq_true] at hst
          obtain ⟨⟨hmn, hl⟩, hr⟩ := hst
          obtain rfl := eqS_iff.mp hmn
          split at hl
          · rename_i la lb hadd
            obtain ⟨p5, rfl⟩ := vAdd_is hadd
            simp only [Bool.and_eq_true] at hl
            obtain ⟨p6, p7, rfl⟩ := isA_is hl.1
            obtain ⟨p8, rfl⟩ := isN_is hl.2
            split at hr
            · rename_i c o hless
              obtain ⟨p9, rfl⟩ := vLess_is hless
              simp only [Bool.and_eq_true] at hr
              obtain ⟨p10, p11, rfl⟩ := isI_is hr.1
              have hr2 := hr.2
              split at hr2
              · rename_i ln z hc2
                obtain ⟨p12, p13, rfl⟩ := vCall_is hc2
                simp only [Bool.and_eq_true] at hr2
                obtain rfl := eqS_iff.mp hr2.1
                obtain ⟨p14, p15, rfl⟩ := isA_is hr2.2
                refine wpAny_execs_cons (wpAny_Return_some ?_)
                refine Subscript_ (rd_rows CK O' F' hC W₁ (isLc_is hl1) rfl ?_)
                refine Call_ (bnm O' F' (isGl_is hg1) (noneK_is hn1) PyProof.Rows.Boot.«min» (by decide +kernel) ?_)
                refine callWith_builtin rfl (evalArgs_plain (spliced_cons ?_))
                refine wpAny_BinOp (rd_at CK O' F' hC W₁ (isLc_is hl1) rfl fun t1 => nm O' F' (isLc_is hl2) rfl ?_)
                refine PyProof.Rows.add_int (spliced_cons (wpAny_BinOp ?_))
                refine Call_ (bnm O' F' (isGl_is hg2) (noneK_is hn2) PyProof.Rows.Boot.«len» (by decide +kernel) ?_)
                refine callWith_builtin rfl (evalArgs_plain (spliced_cons (rd_rows CK O' F' hC W₁ (isLc_is hl1) rfl (spliced_nil ?_))))
                obtain ⟨rn, hR⟩ := W₁.rows
                have hsz : (ω.tvs.map Value.ref).toArray.size = ω.toks.length := by simp [W₁.len]
                refine PyProof.Rows.len_list (items := (ω.tvs.map Value.ref).toArray) ⟨_, hR, rfl, rn, rfl⟩ (by rw [hsz]; have := W.small.1; omega) ?_
                refine wpAny_Constant_int (PyProof.Rows.sub_int (spliced_nil ?_))
                have hlt := W.lt
                have hjl : j < ω.toks.length := by omega
                refine min_two' (j := j) O'.hh (by rw [hsz]; exact hj) fun h₂ tk w hk₂ => ?_
                have hR₂ := hk₂ _ _ hR
                have hil : h₂.IsList ω.R (ω.tvs.map Value.ref).toArray := ⟨_, hR₂, rfl, rn, rfl⟩
                refine tail_any hil.typeIs PySem.slot_list_getitem.lookup (wpAny_getItem_list (k := (j : Int)) (x := .ref a) hil (by omega) (by have := W.small.1; omega) (by simp [ha]) ?_) rfl
                exact ⟨rfl, fun b o e => hk₂ b o (keep b o e), ho⟩
              · cases hr2
            · cases hr
          · cases hl
        · cases hst
      · cases hst
    · cases hst
  · cases hf
end
end Mine

namespace Mine

def vAsg : Stmt → Option (Str × Expr)
  | .Assign [.Name x _] e _ => some (x, e)
  | _ => none
def vIf : Stmt → Option (Expr × List Stmt × List Stmt)
  | .If t b o _ => some (t, b, o)
  | _ => none
def vCmp : Expr → Option (Expr × CmpOp × Expr)
  | .Compare l [op] [r] _ => match behindInMarks op r with
    | true => none
    | false => some (l, op, r)
  | _ => none
def vAug : Stmt → Option (Str × Str × Operator × Expr)
  | .AugAssign (.Attribute (.Name x _) a _) op e _ => some (x, a, op, e)
  | _ => none
theorem vAsg_is {s : Stmt} {x : Str} {e : Expr} (h : vAsg s = some (x, e)) : ∃ p q, s = .Assign [.Name x p] e q := by
  unfold vAsg at h
  split at h <;> cases h
  exact ⟨_, _, rfl⟩
theorem vIf_is {s : Stmt} {t : Expr} {b o : List Stmt} (h : vIf s = some (t, b, o)) : ∃ p, s = .If t b o p := by
  unfold vIf at h
  split at h <;> cases h
  exact ⟨_, rfl⟩
theorem vCmp_is {e l r : Expr} {op : CmpOp} (h : vCmp e = some (l, op, r)) : ∃ p, e = .Compare l [op] [r] p ∧ behindInMarks op r = false := by
  unfold vCmp at h
  split at h
  · split at h
    · cases h
    · rename_i q; cases h; exact ⟨_, rfl, q⟩
  · cases h
theorem vAug_is {s : Stmt} {x a : Str} {op : Operator} {e : Expr} (h : vAug s = some (x, a, op, e)) : ∃ p q r, s = .AugAssign (.Attribute (.Name x p) a q) op e r := by
  unfold vAug at h
  split at h <;> cases h
  exact ⟨_, _, _, rfl⟩

structure Mt (B : Bs) (x : Str) (f : Addr) : Prop where
  find : findIn B.K (.ref B.C) x = some (some (.ref f))
  type : typeIn B.K (.ref f) = some (.type "function")
  keep : keepIn B.K (.ref f) = true
def NoShadow (x : Str) : Prop := ∀ (ω : Wd) (i : Nat) ti (d : Nat) td, shadowIn (some (ω.dict i ti d td)) x = some false

theorem OutAs.refl (s : Shared) : OutAs s s := ⟨rfl, rfl, rfl⟩
theorem OutAs.trans {a b c : Shared} (x : OutAs a b) (y : OutAs b c) : OutAs a c := ⟨y.1.trans x.1, y.2.1.trans x.2.1, y.2.2.trans x.2.2⟩

section
variable {B : Bs} {fr : Frm} {n : Nat} {s : Shared} {m : Str → Option Value} {ω : Wd} {i d : Nat} {hp : Heap}

theorem self_in {Q : Value → Shared → Prop} {E : Value → Shared → Prop} {x mn : Str} {f : Addr} {p ap pos : Pos} {as : List Expr} (CK : ClsK B) (M : Mt B mn f) (hsh : NoShadow mn) (O : FrB B fr n) (F : Fr fr.g fr.L hp m) (hC : ω.C = B.C) (W : WordsAt ω hp i d)
    (hl : find x fr.scope.names = some .local) (hm : m x = some (.ref ω.W)) (hns : noStar as = true) (hlen : as.length ≤ 20) (hpos : ap.endLine = pos.line)
    (h : wpAny (model B.prog B.w) fr.A (callWith pos (.ref f) [.ref ω.W] (backTo pos (starEach as fr.env)) []) Q E s) (hs : s.heap = hp := by rfl) :
    wpAny (model B.prog B.w) fr.A (eval (.Call (.Attribute (.Name x p) mn ap) as [] pos) fr.env) Q E s := by
  subst hs
  refine meth_rule hns hlen hpos (nm O F hl hm ?_)
  obtain ⟨ti, td, I, _⟩ := W_inst W
  exact method_fn (O.X.keeps F.keep) I (hC ▸ CK.ga) (hC ▸ CK.gb) (hC ▸ M.find) M.type (hsh _ _ _ _ _) h
theorem self0 {Q : Value → Shared → Prop} {E : Value → Shared → Prop} {x mn : Str} {f : Addr} {p ap pos : Pos} (CK : ClsK B) (M : Mt B mn f) (hsh : NoShadow mn) (O : FrB B fr n) (F : Fr fr.g fr.L hp m) (hC : ω.C = B.C) (W : WordsAt ω hp i d)
    (hl : find x fr.scope.names = some .local) (hm : m x = some (.ref ω.W)) (hpos : ap.endLine = pos.line)
    (h : wpAny (model B.prog B.w) fr.A (call (.ref f) [.ref ω.W]) Q E s) (hs : s.heap = hp := by rfl) :
    wpAny (model B.prog B.w) fr.A (eval (.Call (.Attribute (.Name x p) mn ap) [] [] pos) fr.env) Q E s := by
  subst hs
  exact self_in CK M hsh O F hC W hl hm rfl (Nat.zero_le _) hpos (callWith_K0 (O.X.keeps F.keep) M.keep h)
theorem self1 {Q : Value → Shared → Prop} {E : Value → Shared → Prop} {x mn : Str} {f : Addr} {p ap pos : Pos} {e : Expr} (CK : ClsK B) (M : Mt B mn f) (hsh : NoShadow mn) (O : FrB B fr n) (F : Fr fr.g fr.L hp m) (hC : ω.C = B.C) (W : WordsAt ω hp i d)
    (hl : find x fr.scope.names = some .local) (hm : m x = some (.ref ω.W)) (hns : isStar e = false) (hpos : ap.endLine = pos.line)
    (h : wpAny (model B.prog B.w) fr.A (eval e fr.env) (fun v s₁ => B.K.In s₁.heap ∧ wpAny (model B.prog B.w) fr.A (call (.ref f) [.ref ω.W, v]) Q E s₁) E s) (hs : s.heap = hp := by rfl) :
    wpAny (model B.prog B.w) fr.A (eval (.Call (.Attribute (.Name x p) mn ap) [e] [] pos) fr.env) Q E s := by
  subst hs
  have hn : noStar [e] = true := by show (match isStar e with | true => false | false => noStar []) = true; rw [hns]; rfl
  obtain ⟨he, hr⟩ := star_cons (env := fr.env) hn
  refine self_in CK M hsh O F hC W hl hm hn (show 1 ≤ 20 by decide) hpos (callWith_K O.X M.keep ?_ he (plain_args hr))
  rw [he]
  exact spliced_cons (wpAny_mono h (fun v s₁ q => spliced_nil q) fun _ _ q => q)

theorem W_now {h : Heap} {L : Addr} {i' d' : Nat} {ti td : PySem.Tok} (W : WordsAt ω s.heap i d) (hR : ω.R ≠ ω.D) (F : Fr (hideAll s.heap [ω.D]) L h m) (hD : h.get? ω.D = some (ω.dict i' ti d' td)) (hi : i' < ω.toks.length) : WordsAt ω h i' d' :=
  W.moved (fun b o e ne => F.keep b o (hideAll_get _ e (by simpa using ne))) hR hD hi
theorem K_now {h : Heap} {L : Addr} (F : Fr (hideAll s.heap [ω.D]) L h m) : KeepsBut ω.D s.heap h := fun b o e ne => F.keep b o (hideAll_get _ e (by simpa using ne))

theorem item_at {Q : Value → Shared → Prop} {E : Value → Shared → Prop} {x : Str} {p b q : Pos} {c : Nat} {a : Addr} {vs : List Value} {ep j : Nat} {v : Value} (O : FrB B fr n) (F : Fr fr.g fr.L hp m) (hl : find x fr.scope.names = some .local) (hm : m x = some (.ref a))
    (ht : hp.get? a = some (tupObj vs ep)) (hv : vs[j]? = some v) (hj : j < 100) (h : ∀ tk, Q v { s with toks := tk }) (hs : s.heap = hp := by rfl) :
    wpAny (model B.prog B.w) fr.A (eval (.Subscript (.Name x p) (.Constant (.int j) c b) q) fr.env) Q E s := by
  subst hs
  refine Subscript_ (nm O F hl hm (wpAny_Constant_int ?_))
  have hj' := (List.getElem?_eq_some_iff.mp hv).1
  exact item_tupleT (l := vs) (k := (j : Int)) (x := v) ⟨_, ht, rfl, ep, rfl⟩ (by omega) (by omega) (seqIndex_nat hj') hv (h _) rfl
end
end Mine

namespace Mine

def isIt (x : Str) (j : Nat) (e : Expr) : Bool := match vSub e with
  | some (v, i) => isN x v && isI j i
  | none => false
theorem isIt_is {x : Str} {j : Nat} {e : Expr} (h : isIt x j e = true) : ∃ p c b q, e = .Subscript (.Name x p) (.Constant (.int j) c b) q := by
  unfold isIt at h
  split at h
  · rename_i v i hv
    obtain ⟨q, rfl⟩ := vSub_is hv
    simp only [Bool.and_eq_true] at h
    obtain ⟨p, rfl⟩ := isN_is h.1
    obtain ⟨c, b, rfl⟩ := isI_is h.2
    exact ⟨_, _, _, _, rfl⟩
  · cases h
/-- x.m() -/
def isM0 (x mn : Str) (e : Expr) : Bool := match vMeth e with
  | some (o, m', []) => eqS o x && eqS m' mn
  | _ => false
theorem isM0_is {x mn : Str} {e : Expr} (h : isM0 x mn e = true) : ∃ p ap pos, e = .Call (.Attribute (.Name x p) mn ap) [] [] pos ∧ ap.endLine = pos.line := by
  unfold isM0 at h
  split at h
  · rename_i o m' hv
    obtain ⟨p, q, pos, rfl, hp⟩ := vMeth_is hv
    simp only [Bool.and_eq_true] at h
    rw [eqS_iff.mp h.1, eqS_iff.mp h.2]
    exact ⟨p, q, pos, rfl, hp⟩
  · cases h
/-- x.m(y) -/
def isM1 (x mn y : Str) (e : Expr) : Bool := match vMeth e with
  | some (o, m', [a]) => eqS o x && eqS m' mn && isN y a
  | _ => false
theorem isM1_is {x mn y : Str} {e : Expr} (h : isM1 x mn y e = true) : ∃ p ap pos q, e = .Call (.Attribute (.Name x p) mn ap) [.Name y q] [] pos ∧ ap.endLine = pos.line := by
  unfold isM1 at h
  split at h
  · rename_i o m' a hv
    obtain ⟨p, q, pos, rfl, hp⟩ := vMeth_is hv
    simp only [Bool.and_eq_true] at h
    obtain ⟨r, rfl⟩ := isN_is h.2
    rw [eqS_iff.mp h.1.1, eqS_iff.mp h.1.2]
    exact ⟨p, q, pos, r, rfl, hp⟩
  · cases h
def asgOf (x : Str) (st : Stmt) : Option Expr := match vAsg st with
  | some (y, e) => match eqS y x with
    | true => some e
    | false => none
  | none => none
theorem asgOf_is {x : Str} {st : Stmt} {e : Expr} (h : asgOf x st = some e) : ∃ p q, st = .Assign [.Name x p] e q := by
  unfold asgOf at h
  split at h
  · rename_i y e' hv
    split at h
    · rename_i q; cases h; obtain ⟨a, b, rfl⟩ := vAsg_is hv; rw [eqS_iff.mp q]; exact ⟨a, b, rfl⟩
    · cases h
  · cases h
def isWord (st : Stmt) : Bool := match asgOf "word" st with
  | some e => isM0 "self" "peek" e
  | none => false
theorem isWord_is {st : Stmt} (h : isWord st = true) : ∃ p q r ap pos, st = .Assign [.Name "word" p] (.Call (.Attribute (.Name "self" r) "peek" ap) [] [] pos) q ∧ ap.endLine = pos.line := by
  unfold isWord at h
  split at h
  · rename_i e he
    obtain ⟨p, q, rfl⟩ := asgOf_is he
    obtain ⟨r, ap, pos, rfl, hp⟩ := isM0_is h
    exact ⟨p, q, r, ap, pos, rfl, hp⟩
  · cases h
def isWordA (st : Stmt) : Bool := match asgOf "word" st with
  | some e => isM1 "self" "peek" "ahead" e
  | none => false
theorem isWordA_is {st : Stmt} (h : isWordA st = true) : ∃ p q r ap pos r', st = .Assign [.Name "word" p] (.Call (.Attribute (.Name "self" r) "peek" ap) [.Name "ahead" r'] [] pos) q ∧ ap.endLine = pos.line := by
  unfold isWordA at h
  split at h
  · rename_i e he
    obtain ⟨p, q, rfl⟩ := asgOf_is he
    obtain ⟨r, ap, pos, r', rfl, hp⟩ := isM1_is h
    exact ⟨p, q, r, ap, pos, r', rfl, hp⟩
  · cases h
def isAug (a : Str) (st : Stmt) : Bool := match vAug st with
  | some (x, b, .Add, e) => eqS x "self" && eqS b a && isI 1 e
  | _ => false
theorem isAug_is {a : Str} {st : Stmt} (h : isAug a st = true) : ∃ p q r c b, st = .AugAssign (.Attribute (.Name "self" p) a q) .Add (.Constant (.int 1) c b) r := by
  unfold isAug at h
  split at h
  · rename_i x b e hv
    obtain ⟨p, q, r, rfl⟩ := vAug_is hv
    simp only [Bool.and_eq_true] at h
    obtain ⟨c, b, rfl⟩ := isI_is h.2
    rw [eqS_iff.mp h.1.1, eqS_iff.mp h.1.2]
    exact ⟨p, q, r, c, b, rfl⟩
  · cases h
def isAugL (a : Str) (st : Stmt) : Bool := match vAug st with
  | some (x, b, .Sub, e) => eqS x "self" && eqS b a && isI 1 e
  | _ => false
theorem isAugL_is {a : Str} {st : Stmt} (h : isAugL a st = true) : ∃ p q r c b, st = .AugAssign (.Attribute (.Name "self" p) a q) .Sub (.Constant (.int 1) c b) r := by
  unfold isAugL at h
  split at h
  · rename_i x b e hv
    obtain ⟨p, q, r, rfl⟩ := vAug_is hv
    simp only [Bool.and_eq_true] at h
    obtain ⟨c, b, rfl⟩ := isI_is h.2
    rw [eqS_iff.mp h.1.1, eqS_iff.mp h.1.2]
    exact ⟨p, q, r, c, b, rfl⟩
  · cases h
def isRetN (x : Str) (st : Stmt) : Bool := match vRet st with
  | some e => isN x e
  | none => false
theorem isRetN_is {x : Str} {st : Stmt} (h : isRetN x st = true) : ∃ p q, st = .Return (some (.Name x p)) q := by
  unfold isRetN at h
  split at h
  · rename_i e he
    obtain ⟨q, rfl⟩ := vRet_is he
    obtain ⟨p, rfl⟩ := isN_is h
    exact ⟨p, q, rfl⟩
  · cases h
/-- x[j] op 'text' -/
def isItCmp (x : Str) (j : Nat) (y : Str) (e : Expr) : Bool := match vCmp e with
  | some (l, .NotEq, r) => isIt x j l && isT y r
  | _ => false
theorem isItCmp_is {x : Str} {j : Nat} {y : Str} {e : Expr} (h : isItCmp x j y e = true) : ∃ p c b q a' p' p'', e = .Compare (.Subscript (.Name x p) (.Constant (.int j) c b) q) [.NotEq] [.Constant (.str y) a' p'] p'' := by
  unfold isItCmp at h
  split at h
  · rename_i l r hv
    obtain ⟨p'', rfl, _⟩ := vCmp_is hv
    simp only [Bool.and_eq_true] at h
    obtain ⟨p, c, b, q, rfl⟩ := isIt_is h.1
    obtain ⟨a', p', rfl⟩ := isT_is h.2
    exact ⟨_, _, _, _, _, _, _, rfl⟩
  · cases h

def okTake (K : Frag) (f : Addr) : Bool := match defOf K f ["self"] with
  | some (fd, [s1, s2, s3]) => noDf fd && isLc fd "self" && isLc fd "word" && isWord s1 && (match vIf s2 with
    | some (t, [b], []) => isItCmp "word" 0 "end" t && isAug "at" b
    | _ => false) && isRetN "word" s3
  | _ => false

section
variable {B : Bs} {fr : Frm} {n : Nat} {s : Shared} {m : Str → Option Value} {ω : Wd} {i d : Nat} {hp : Heap}

theorem tok_obj (W : WordsAt ω hp i d) {j : Nat} {k x : Str} (h : ω.toks[j]? = some (k, x)) : ∃ a k1 k2 k3 n, ω.tvs[j]? = some a ∧ hp.get? a = some (tupObj [.str k k1, .str x k2, .int j k3, .none, .none] n) := by
  have hj := (List.getElem?_eq_some_iff.mp h).1
  have hj' : j < ω.tvs.length := by rw [W.len]; exact hj
  obtain ⟨k1, k2, k3, n, e⟩ := W.tok j (k, x) ω.tvs[j] h (by simp [hj'])
  exact ⟨ω.tvs[j], k1, k2, k3, n, by simp [hj'], e⟩

theorem tup_notD {h : Heap} {a : Addr} {vs : List Value} {ep i d : Nat} {ti td : PySem.Tok} (h1 : h.get? a = some (tupObj vs ep)) (h2 : h.get? ω.D = some (ω.dict i ti d td)) : a ≠ ω.D := by
  rintro rfl
  have := congrArg (Option.map Obj.cls) (h1.symm.trans h2)
  have : Value.type "tuple" = Value.type "dict" := Option.some.inj this
  injection this with z
  revert z
  decide
theorem not_last (W : WordsAt ω hp i d) {j : Nat} {k x : Str} (h : ω.toks[j]? = some (k, x)) (hk : k ≠ Str.ofString "end") : j + 1 < ω.toks.length := by
  obtain ⟨pre, y, e⟩ := W.small.2
  have hj := (List.getElem?_eq_some_iff.mp h).1
  rw [e] at h hj ⊢
  simp only [List.length_append, List.length_cons, List.length_nil] at hj ⊢
  by_cases q : j = pre.length
  · subst q
    simp at h
    exact (hk h.1.symm).elim
  · omega

/-- word = self.peek() -/
theorem x_word {E : Value → Shared → Prop} {Q : Flow → Shared → Prop} {f a : Addr} {st : Stmt} {rest : List Stmt} (CK : ClsK B) (hpk : okPeek B.K f = true) (M : Mt B "peek" f) (hw : isWord st = true) (O : FrB B fr (n + 1)) (F : Fr fr.g fr.L hp m) (hC : ω.C = B.C)
    (W : WordsAt ω hp i d) (hl : find "self" fr.scope.names = some .local) (hm : m "self" = some (.ref ω.W)) (hl2 : find "word" fr.scope.names = some .local) (hDL : ω.D ≠ fr.L) (ha : ω.tvs[i]? = some a)
    (h : ∀ s', Fr fr.g fr.L s'.heap (fun z => if z = "word" then some (.ref a) else m z) → (∀ o, hp.get? ω.D = some o → s'.heap.get? ω.D = some o) → OutAs s s' → wpAny (model B.prog B.w) fr.A (execs rest fr.env) Q E s') (hs : s.heap = hp := by rfl) :
    wpAny (model B.prog B.w) fr.A (execs (st :: rest) fr.env) Q E s := by
  subst hs
  obtain ⟨p, q, r, ap, pos, rfl, hpos⟩ := isWord_is hw
  refine wpAny_execs_cons (wpAny_Assign_Name (self0 CK M (fun _ _ _ _ _ => rfl) O F hC W hl hm hpos ?_))
  refine wpAny_mono (c_peek CK hpk O F hC W (k := 0) (j := i) (.inl ⟨rfl, rfl⟩) (by omega) (by omega) (by have := W.lt; omega) ha) (fun v s₂ h₂ => ?_) fun _ _ e => e.elim
  obtain ⟨rfl, hk, ho⟩ := h₂
  refine stN' O (frExt F hk) hl2 fun h' tk F' hsb => ?_
  refine h _ F' (fun o e => ?_) (ho.trans ⟨rfl, rfl, rfl⟩)
  exact (hsb.2 ω.D hDL).trans (hk _ _ e)

theorem c_take (CK : ClsK B) {f g : Addr} (hf : okTake B.K f = true) (hpk : okPeek B.K g = true) (M : Mt B "peek" g) (O : FrB B fr (n + 2)) (F : Fr fr.g fr.L s.heap m) (hD0 : fr.g.get? ω.D = none) (hDL0 : ω.D ≠ fr.L) (hC : ω.C = B.C) (hR : ω.R ≠ ω.D) (W : WordsAt ω s.heap i d)
    {k x : Str} (ht : ω.toks[i]? = some (k, x)) (hk : k ≠ Str.ofString "end") :
    wpAny (model B.prog B.w) fr.A (call (.ref f) [.ref ω.W]) (fun v s' => (∃ a, ω.tvs[i]? = some a ∧ v = .ref a) ∧ KeepsBut ω.D s.heap s'.heap ∧ WordsAt ω s'.heap (i + 1) d ∧ OutAs s s') (fun _ _ => False) s := by
  unfold okTake at hf
  split at hf
  · rename_i fd s1 s2 s3 hdef
    simp only [Bool.and_eq_true] at hf
    obtain ⟨⟨⟨⟨⟨hnd, hl1⟩, hl2⟩, hw⟩, hif⟩, hret⟩ := hf
    split at hif
    · rename_i t b hvif
      simp only [Bool.and_eq_true] at hif
      obtain ⟨q1, q2, q3, q4, q5⟩ := defOf_is hdef
      obtain ⟨a, k1, k2, k3, nn, ha, hta⟩ := tok_obj W ht
      obtain ⟨ti, td, hD⟩ := W.dict
      refine enterQ O F [ω.D] (by intro a h; simp only [List.mem_singleton] at h; subst h; exact ⟨hD0, hDL0⟩) q1 q2 q3 (bind1 q2 q4 (noDf_is hnd)) (show (["self"] : List Str).Nodup by decide) q5 fun L s₁ hL hkk ho O' F' => ?_
      have hDL : ω.D ≠ L := by rintro rfl; rw [hD] at hL; cases hL
      have gD : (hideAll s.heap [ω.D]).get? ω.D = none := hideAll_none _ (.head _)
      have aD : a ≠ ω.D := tup_notD hta hD
      have gt : (hideAll s.heap [ω.D]).get? a = some _ := hideAll_get _ hta (by simpa using aD)
      refine x_word CK hpk M hw O' F' hC (W.ext hkk) (isLc_is hl1) rfl (isLc_is hl2) hDL ha fun s₂ F₂ hD₂ ho₂ => ?_
      have hD₂ := hD₂ _ (hkk _ _ hD)
      obtain ⟨pif, rfl⟩ := vIf_is hvif
      obtain ⟨p, c, b', q, a', p', p'', rfl⟩ := isItCmp_is hif.1
      obtain ⟨pa, qa, ra, ca, ba, rfl⟩ := isAug_is hif.2
      obtain ⟨pr, qr, rfl⟩ := isRetN_is hret
      refine wpAny_execs_cons (wpAny_If (wpAny_isTrue_Compare1 (item_at (j := 0) O' F₂ (isLc_is hl2) rfl (F₂.keep _ _ gt) rfl (by decide) fun tk => wpAny_Constant_str (PyProof.Rows.ne_str (wpAny_truthy_bool ?_))) rfl))
      have : (k != Str.ofString "end") = true := by simpa using hk
      rw [this]
      simp only [if_true]
      refine wpAny_execs_cons (aug_at CK O' F₂ hC (W_now W hR F₂ hD₂ W.lt) (isLc_is hl1) rfl gD hDL fun h₃ tk₃ t₃ td₃ F₃ hD₃ => wpAny_execs_nil ?_)
      refine wpAny_execs_cons (wpAny_Return_some (nm O' F₃ (isLc_is hl2) rfl ?_))
      exact ⟨⟨a, ha, rfl⟩, K_now F₃, W_now W hR F₃ hD₃ (not_last W ht hk), ho.trans (ho₂.trans ⟨rfl, rfl, rfl⟩)⟩
    · cases hif
  · cases hf

def okShallower (K : Frag) (f : Addr) : Bool := match defOf K f ["self"] with
  | some (fd, [s1]) => noDf fd && isLc fd "self" && isAugL "deep" s1
  | _ => false
theorem c_shallower (CK : ClsK B) {f : Addr} (hf : okShallower B.K f = true) (O : FrB B fr (n + 1)) (F : Fr fr.g fr.L s.heap m) (hD0 : fr.g.get? ω.D = none) (hDL0 : ω.D ≠ fr.L) (hC : ω.C = B.C) (hR : ω.R ≠ ω.D) (W : WordsAt ω s.heap i (d + 1)) :
    wpAny (model B.prog B.w) fr.A (call (.ref f) [.ref ω.W]) (fun v s' => v = .none ∧ KeepsBut ω.D s.heap s'.heap ∧ WordsAt ω s'.heap i d ∧ OutAs s s') (fun _ _ => False) s := by
  unfold okShallower at hf
  split at hf
  · rename_i fd s1 hdef
    simp only [Bool.and_eq_true] at hf
    obtain ⟨⟨hnd, hl1⟩, ha⟩ := hf
    obtain ⟨q1, q2, q3, q4, q5⟩ := defOf_is hdef
    obtain ⟨ti, td, hD⟩ := W.dict
    refine enterQ O F [ω.D] (by intro a h; simp only [List.mem_singleton] at h; subst h; exact ⟨hD0, hDL0⟩) q1 q2 q3 (bind1 q2 q4 (noDf_is hnd)) (show (["self"] : List Str).Nodup by decide) q5 fun L s₁ hL hkk ho O' F' => ?_
    have hDL : ω.D ≠ L := by rintro rfl; rw [hD] at hL; cases hL
    have gD : (hideAll s.heap [ω.D]).get? ω.D = none := hideAll_none _ (.head _)
    obtain ⟨pa, qa, ra, ca, ba, rfl⟩ := isAugL_is ha
    refine wpAny_execs_cons (less_deep CK O' F' hC (W.ext hkk) (isLc_is hl1) rfl gD hDL fun h₃ tk₃ t₃ td₃ F₃ hD₃ => wpAny_execs_nil ?_)
    exact ⟨rfl, K_now F₃, W_now W hR F₃ hD₃ W.lt, ho.trans ⟨rfl, rfl, rfl⟩⟩
  · cases hf
end
end Mine

namespace Mine

def isStr2 (x y : Str) (e : Expr) : Bool := match e with
  | .Tuple [a, b] _ _ => isT x a && isT y b
  | _ => false
theorem isStr2_is {x y : Str} {e : Expr} (h : isStr2 x y e = true) : ∃ c p a1 p1 a2 p2, e = .Tuple [.Constant (.str x) a1 p1, .Constant (.str y) a2 p2] c p := by
  unfold isStr2 at h
  split at h
  · simp only [Bool.and_eq_true] at h
    obtain ⟨a1, p1, rfl⟩ := isT_is h.1
    obtain ⟨a2, p2, rfl⟩ := isT_is h.2
    exact ⟨_, _, _, _, _, _, rfl⟩
  · cases h
def vAnd2 : Expr → Option (Expr × Expr)
  | .BoolOp .And [a, b] _ => some (a, b)
  | _ => none
theorem vAnd2_is {e a b : Expr} (h : vAnd2 e = some (a, b)) : ∃ p, e = .BoolOp .And [a, b] p := by
  unfold vAnd2 at h
  split at h <;> cases h
  exact ⟨_, rfl⟩
def vOr2 : Expr → Option (Expr × Expr)
  | .BoolOp .Or [a, b] _ => some (a, b)
  | _ => none
theorem vOr2_is {e a b : Expr} (h : vOr2 e = some (a, b)) : ∃ p, e = .BoolOp .Or [a, b] p := by
  unfold vOr2 at h
  split at h <;> cases h
  exact ⟨_, rfl⟩
def vNot : Expr → Option Expr
  | .UnaryOp .Not e _ => some e
  | _ => none
theorem vNot_is {e a : Expr} (h : vNot e = some a) : ∃ p, e = .UnaryOp .Not a p := by
  unfold vNot at h
  split at h <;> cases h
  exact ⟨_, rfl⟩
def kinds : List Str := [Str.ofString "sign", Str.ofString "name"]

def okLooks (K : Frag) (f : Addr) : Bool := match defOf K f ["self", "text", "ahead"] with
  | some (fd, [s1, s2]) => dfI K fd 0 && isLc fd "self" && isLc fd "word" && isLc fd "text" && isLc fd "ahead" && isWordA s1 && (match vRet s2 with
    | some e => (match vAnd2 e with
      | some (a, b) => (match vCmp a with
        | some (l, .In, r) => isIt "word" 0 l && isStr2 "sign" "name" r
        | _ => false) && (match vCmp b with
        | some (l, .Eq, r) => isIt "word" 1 l && isN "text" r
        | _ => false)
      | none => false)
    | none => false)
  | _ => false

section
variable {B : Bs} {fr : Frm} {n : Nat} {s : Shared} {m : Str → Option Value} {ω : Wd} {i d : Nat} {hp : Heap}

theorem c_looks (CK : ClsK B) {f g : Addr} (hf : okLooks B.K f = true) (hpk : okPeek B.K g = true) (M : Mt B "peek" g) (O : FrB B fr (n + 2)) (F : Fr fr.g fr.L s.heap m) (hC : ω.C = B.C) (W : WordsAt ω s.heap i d)
    {vs : List Value} {y : Str} {ty : PySem.Tok} {a : Nat} {k x : Str} (hv : (vs = [.ref ω.W, .str y ty] ∧ a = 0) ∨ ∃ t, vs = [.ref ω.W, .str y ty, .int a t]) (ha1 : a ≤ 1000000) (ht : ω.toks[i + a]? = some (k, x)) :
    wpAny (model B.prog B.w) fr.A (call (.ref f) vs) (fun v s' => v = .bool (inS k kinds && (x == y)) ∧ Kept s.heap s'.heap ∧ OutAs s s') (fun _ _ => False) s := by
  unfold okLooks at hf
  split at hf
  · rename_i fd s1 s2 hdef
    simp only [Bool.and_eq_true] at hf
    obtain ⟨⟨⟨⟨⟨⟨hdf, hl1⟩, hl2⟩, hl3⟩, hl4⟩, hw⟩, hret⟩ := hf
    split at hret
    · rename_i e he
      obtain ⟨pr, rfl⟩ := vRet_is he
      split at hret
      · rename_i ea eb hand
        obtain ⟨pand, rfl⟩ := vAnd2_is hand
        simp only [Bool.and_eq_true] at hret
        obtain ⟨hA, hB⟩ := hret
        split at hA
        · rename_i l r hcmp
          obtain ⟨pc, rfl, _⟩ := vCmp_is hcmp
          simp only [Bool.and_eq_true] at hA
          obtain ⟨e1, e2, e3, e4, rfl⟩ := isIt_is hA.1
          obtain ⟨c1, c2, c3, c4, c5, c6, rfl⟩ := isStr2_is hA.2
          split at hB
          · rename_i l r hcmp2
            obtain ⟨pc2, rfl, _⟩ := vCmp_is hcmp2
            simp only [Bool.and_eq_true] at hB
            obtain ⟨f1, f2, f3, f4, rfl⟩ := isIt_is hB.1
            obtain ⟨g1, rfl⟩ := isN_is hB.2
            obtain ⟨q1, q2, q3, q4, q5⟩ := defOf_is hdef
            obtain ⟨ad, k1, k2, k3, nn, ha, hta⟩ := tok_obj W ht
            have X := O.X.keeps F.keep
            have hb : ∃ t, BindsTo s fd ⟨vs, []⟩ [("self", .ref ω.W), ("text", .str y ty), ("ahead", .int a t)] := by
              rcases hv with ⟨rfl, rfl⟩ | ⟨t, rfl⟩
              · exact bind32 X q2 q4 hdf (by decide) (by decide) (by decide)
              · exact ⟨t, bind33 X q2 q4 hdf (by decide) (by decide) (by decide)⟩
            obtain ⟨t, hb⟩ := hb
            refine enterQ O F [] (by intro a h; cases h) q1 q2 q3 hb (show (["self", "text", "ahead"] : List Str).Nodup by decide) q5 fun L s₁ _ hk ho O' F' => ?_
            have W₁ := W.ext hk
            obtain ⟨w1, w2, w3, w4, w5, w6, rfl, hpos⟩ := isWordA_is hw
            refine wpAny_execs_cons (wpAny_Assign_Name (self1 CK M (fun _ _ _ _ _ => rfl) O' F' hC W₁ (isLc_is hl1) rfl rfl hpos (nm O' F' (isLc_is hl4) rfl ⟨O'.X.keeps F'.keep, ?_⟩)))
            have hlen := (List.getElem?_eq_some_iff.mp ht).1
            refine wpAny_mono (c_peek CK hpk O' F' hC W₁ (k := a) (j := i + a) (.inr ⟨t, rfl⟩) (by omega) (by omega) (by omega) ha) (fun v s₂ h₂ => ?_) fun _ _ e => e.elim
            obtain ⟨rfl, hk₂, ho₂⟩ := h₂
            refine stN' O' (frExt F' hk₂) (isLc_is hl2) fun h₃ tk₃ F₃ _ => ?_
            have gt : (hideAll s.heap []).get? ad = some (tupObj [.str k k1, .str x k2, .int (i + a : Nat) k3, .none, .none] nn) := hta
            refine wpAny_execs_cons (wpAny_Return_some (PyProof.Rows.BoolOp_and (wpAny_Compare1 (item_at (j := 0) O' F₃ (isLc_is hl2) rfl (F₃.keep _ _ gt) rfl (by decide) fun tk => Tuple_ ?_) rfl)))
            refine spliced_more (wpAny_Constant_str (spliced_more (wpAny_Constant_str (spliced_none ?_))))
            refine wpAny_newObj_type (T := "tuple") (data := .seq #[.str (Str.ofString "sign") _, .str (Str.ofString "name") _]) (dict := none) ?_ (show 2 ≤ sizeLine by rw [sizeLine_eq]; decide)
            refine SeqRoads2.in_tuple (n := 0) (isStrOf k) (fun z hz => ?_) (Heap.get?_push_size _ rfl) (wpAny_truthy_bool ?_)
            · simp only [List.mem_toArray, List.mem_cons, List.not_mem_nil, or_false] at hz
              rcases hz with rfl | rfl <;> exact PyProof.Rows.eqGives_str _ _ _ _
            · have hany : (#[Value.str (Str.ofString "sign") tk, Value.str (Str.ofString "name") (tk + 1)] : Array Value).any (isStrOf k) = inS k kinds := any_str (l := kinds) rfl (by
                intro i v hv
                match i, hv with
                | 0, hv => cases hv; exact ⟨_, _, rfl, rfl⟩
                | 1, hv => cases hv; exact ⟨_, _, rfl, rfl⟩)
              rw [hany]
              cases hin : inS k kinds with
              | false => exact ⟨rfl, fun b o e => Heap.get?_push_of_some _ (F₃.keep b o e), ho.trans (ho₂.trans ⟨rfl, rfl, rfl⟩)⟩
              | true =>
                simp only [if_true]
                refine BoolOp_one (wpAny_Compare1 (item_at (j := 1) O' (frExt F₃ fun b o e => Heap.get?_push_of_some _ e) (isLc_is hl2) rfl (Heap.get?_push_of_some _ (F₃.keep _ _ gt)) rfl (by decide) fun tk => ?_) rfl)
                refine nm O' (frExt F₃ fun b o e => Heap.get?_push_of_some _ e) (isLc_is hl3) rfl (PyProof.Rows.eq_str ?_)
                exact ⟨rfl, fun b o e => Heap.get?_push_of_some _ (F₃.keep b o e), ho.trans (ho₂.trans ⟨rfl, rfl, rfl⟩)⟩
          · cases hB
        · cases hA
      · cases hret
    · cases hret
  · cases hf
end
end Mine

namespace Mine

def okExpect (K : Frag) (f : Addr) : Bool := match defOf K f ["self", "text"] with
  | some (fd, [s1, s2]) => noDf fd && isLc fd "self" && isLc fd "text" && (match vIf s1 with
    | some (t, _, []) => (match vNot t with
      | some e => isM1 "self" "looks" "text" e
      | none => false)
    | _ => false) && (match vRet s2 with
    | some e => isM0 "self" "take" e
    | none => false)
  | _ => false
def okName (K : Frag) (f : Addr) : Bool := match defOf K f ["self"] with
  | some (fd, [s1, s2, s3, s4]) => noDf fd && isLc fd "self" && isLc fd "word" && isGl fd "KEYWORDS" && isWord s1 && (match vIf s2 with
    | some (t, _, []) => (match vOr2 t with
      | some (a, b) => isItCmp "word" 0 "name" a && (match vCmp b with
        | some (l, .In, r) => isIt "word" 1 l && isN "KEYWORDS" r
        | _ => false)
      | none => false)
    | _ => false) && isAug "at" s3 && (match vRet s4 with
    | some (.Tuple [a, b] _ _) => isIt "word" 1 a && isIt "word" 2 b
    | _ => false)
  | _ => false

section
variable {B : Bs} {fr : Frm} {n : Nat} {s : Shared} {m : Str → Option Value} {ω : Wd} {i d : Nat} {hp : Heap}
theorem W_frD {h : Heap} (W : WordsAt ω s.heap i d) {o : Obj} (hD : s.heap.get? ω.D = some o) (k : Kept s.heap h) : h.get? ω.D = some o := k _ _ hD

theorem c_expect (CK : ClsK B) {f fl ft fp : Addr} (hf : okExpect B.K f = true) (hlk : okLooks B.K fl = true) (htk : okTake B.K ft = true) (hpk : okPeek B.K fp = true) (Ml : Mt B "looks" fl) (Mk : Mt B "take" ft) (Mp : Mt B "peek" fp)
    (O : FrB B fr (n + 3)) (F : Fr fr.g fr.L s.heap m) (hD0 : fr.g.get? ω.D = none) (hDL0 : ω.D ≠ fr.L) (hC : ω.C = B.C) (hR : ω.R ≠ ω.D) (W : WordsAt ω s.heap i d)
    {k x : Str} {ty : PySem.Tok} (ht : ω.toks[i]? = some (k, x)) (hk : inS k kinds = true) :
    wpAny (model B.prog B.w) fr.A (call (.ref f) [.ref ω.W, .str x ty]) (fun v s' => (∃ a, ω.tvs[i]? = some a ∧ v = .ref a) ∧ KeepsBut ω.D s.heap s'.heap ∧ WordsAt ω s'.heap (i + 1) d ∧ OutAs s s') (fun _ _ => False) s := by
  have hke : k ≠ Str.ofString "end" := by rintro rfl; revert hk; decide
  unfold okExpect at hf
  split at hf
  · rename_i fd s1 s2 hdef
    simp only [Bool.and_eq_true] at hf
    obtain ⟨⟨⟨⟨hnd, hl1⟩, hl2⟩, hif⟩, hret⟩ := hf
    split at hif
    · rename_i t _ hvif
      obtain ⟨pif, rfl⟩ := vIf_is hvif
      split at hif
      · rename_i e hnot
        obtain ⟨pn, rfl⟩ := vNot_is hnot
        obtain ⟨p, ap, pos, q, rfl, hpos⟩ := isM1_is hif
        split at hret
        · rename_i e he
          obtain ⟨pr, rfl⟩ := vRet_is he
          obtain ⟨p', ap', pos', rfl, hpos'⟩ := isM0_is hret
          obtain ⟨q1, q2, q3, q4, q5⟩ := defOf_is hdef
          obtain ⟨ti, td, hD⟩ := W.dict
          refine enterQ O F [ω.D] (by intro a h; simp only [List.mem_singleton] at h; subst h; exact ⟨hD0, hDL0⟩) q1 q2 q3 (bind2 q2 q4 (noDf_is hnd) (by decide)) (show (["self", "text"] : List Str).Nodup by decide) q5 fun L s₁ hL hkk ho O' F' => ?_
          have hDL : ω.D ≠ L := by rintro rfl; rw [hD] at hL; cases hL
          have gD : (hideAll s.heap [ω.D]).get? ω.D = none := hideAll_none _ (.head _)
          refine wpAny_execs_cons (wpAny_If (isTrue_not (isTrue_plain ?_)))
          refine self1 CK Ml (fun _ _ _ _ _ => rfl) O' F' hC (W.ext hkk) (isLc_is hl1) rfl rfl hpos (nm O' F' (isLc_is hl2) rfl ⟨O'.X.keeps F'.keep, ?_⟩)
          refine wpAny_mono (c_looks CK hlk hpk Mp O' F' hC (W.ext hkk) (a := 0) (.inl ⟨rfl, rfl⟩) (by decide) ht) (fun v s₂ h₂ => ?_) fun _ _ e => e.elim
          obtain ⟨rfl, hk₂, ho₂⟩ := h₂
          have hb : (inS k kinds && (x == x)) = true := by rw [hk]; simp
          rw [hb]
          refine wpAny_truthy_bool ?_
          simp only [Bool.not_true, Bool.false_eq_true, if_false]
          refine wpAny_execs_nil ?_
          have F₂ := frExt F' hk₂
          refine wpAny_execs_cons (wpAny_Return_some ?_)
          refine self0 CK Mk (fun _ _ _ _ _ => rfl) O' F₂ hC ((W.ext hkk).ext hk₂) (isLc_is hl1) rfl hpos' ?_
          refine wpAny_mono (c_take CK htk hpk Mp O' F₂ gD hDL hC hR ((W.ext hkk).ext hk₂) ht hke) (fun v s₃ h₃ => ?_) fun _ _ e => e.elim
          obtain ⟨h1, h2, h3, h4⟩ := h₃
          exact ⟨h1, fun b o e ne => h2 b o (hk₂ _ _ (hkk _ _ e)) ne, h3, ho.trans (ho₂.trans h4)⟩
        · cases hret
      · cases hif
    · cases hif
  · cases hf

theorem c_name (CK : ClsK B) {f g : Addr} (hf : okName B.K f = true) (hpk : okPeek B.K g = true) (M : Mt B "peek" g) (O : FrB B fr (n + 2)) (F : Fr fr.g fr.L s.heap m) (hD0 : fr.g.get? ω.D = none) (hDL0 : ω.D ≠ fr.L) (hC : ω.C = B.C) (hR : ω.R ≠ ω.D) (W : WordsAt ω s.heap i d)
    {x : Str} (ht : ω.toks[i]? = some (Str.ofString "name", x)) {Kw : Value} {kl : List AV} {kw : List Str} (hkw : nsIn B.K mainGlobals "KEYWORDS" = some (some Kw)) (hlit : litV B.K litD Kw = some (.tup kl)) (hall : allStr kl = some kw) (hx : inS x kw = false) :
    wpAny (model B.prog B.w) fr.A (call (.ref f) [.ref ω.W]) (fun v s' => (∃ T t1 t2, v = .ref T ∧ s'.heap.get? T = some (tupObj [.str x t1, .int i t2] 0)) ∧ KeepsBut ω.D s.heap s'.heap ∧ WordsAt ω s'.heap (i + 1) d ∧ OutAs s s') (fun _ _ => False) s := by
  have hke : Str.ofString "name" ≠ Str.ofString "end" := by decide
  unfold okName at hf
  split at hf
  · rename_i fd s1 s2 s3 s4 hdef
    simp only [Bool.and_eq_true] at hf
    obtain ⟨⟨⟨⟨⟨⟨⟨hnd, hl1⟩, hl2⟩, hg⟩, hw⟩, hif⟩, haug⟩, hret⟩ := hf
    split at hif
    · rename_i t _ hvif
      obtain ⟨pif, rfl⟩ := vIf_is hvif
      split at hif
      · rename_i ea eb hor
        obtain ⟨por, rfl⟩ := vOr2_is hor
        simp only [Bool.and_eq_true] at hif
        obtain ⟨e1, e2, e3, e4, e5, e6, e7, rfl⟩ := isItCmp_is hif.1
        have hif2 := hif.2
        split at hif2
        · rename_i l r hcmp
          obtain ⟨pc, rfl, _⟩ := vCmp_is hcmp
          simp only [Bool.and_eq_true] at hif2
          obtain ⟨f1, f2, f3, f4, rfl⟩ := isIt_is hif2.1
          obtain ⟨g1, rfl⟩ := isN_is hif2.2
          obtain ⟨pa, qa, ra, ca, ba, rfl⟩ := isAug_is haug
          split at hret
          · rename_i a b tc tp he
            obtain ⟨pr, rfl⟩ := vRet_is he
            simp only [Bool.and_eq_true] at hret
            obtain ⟨i1, i2, i3, i4, rfl⟩ := isIt_is hret.1
            obtain ⟨j1, j2, j3, j4, rfl⟩ := isIt_is hret.2
            obtain ⟨q1, q2, q3, q4, q5⟩ := defOf_is hdef
            obtain ⟨ad, k1, k2, k3, nn, ha, hta⟩ := tok_obj W ht
            obtain ⟨ti, td, hD⟩ := W.dict
            refine enterQ O F [ω.D] (by intro a h; simp only [List.mem_singleton] at h; subst h; exact ⟨hD0, hDL0⟩) q1 q2 q3 (bind1 q2 q4 (noDf_is hnd)) (show (["self"] : List Str).Nodup by decide) q5 fun L s₁ hL hkk ho O' F' => ?_
            have hDL : ω.D ≠ L := by rintro rfl; rw [hD] at hL; cases hL
            have gD : (hideAll s.heap [ω.D]).get? ω.D = none := hideAll_none _ (.head _)
            have aD : ad ≠ ω.D := tup_notD hta hD
            have gt : (hideAll s.heap [ω.D]).get? ad = some _ := hideAll_get _ hta (by simpa using aD)
            refine x_word CK hpk M hw O' F' hC (W.ext hkk) (isLc_is hl1) rfl (isLc_is hl2) hDL ha fun s₂ F₂ hD₂ ho₂ => ?_
            have hD₂ := hD₂ _ (hkk _ _ hD)
            refine wpAny_execs_cons (wpAny_If (isTrue_or (wpAny_isTrue_Compare1 (item_at (j := 0) O' F₂ (isLc_is hl2) rfl (F₂.keep _ _ gt) rfl (by decide) fun tk => wpAny_Constant_str (PyProof.Rows.ne_str (wpAny_truthy_bool ?_))) rfl)))
            have : (Str.ofString "name" != Str.ofString "name") = false := by simp
            rw [this]
            simp only [Bool.false_eq_true, if_false]
            have X₂ := O'.X.keeps F₂.keep
            have rk := litV_rep (ρ := ⟨none, none, [], [], 0, 0, false, 0, 0, s, []⟩) (ads := []) X₂ _ hlit
            cases rk with
            | tup hT hlen hat =>
              rename_i T us ep
              obtain rfl := allStr_of hall
              refine isTrue_or (wpAny_isTrue_Compare1 (item_at (j := 1) O' F₂ (isLc_is hl2) rfl (F₂.keep _ _ gt) rfl (by decide) fun tk => ?_) rfl)
              refine gnm O' F₂ (isGl_is hg) hkw (SeqRoads2.in_tuple (isStrOf x) (fun z hz => ?_) hT (wpAny_truthy_bool ?_))
              · obtain ⟨i, hi⟩ := List.getElem?_of_mem (by simpa using hz : z ∈ us)
                obtain ⟨z', u, _, rfl⟩ := rep_strs hlen hat i z hi
                exact PyProof.Rows.eqGives_str _ _ _ _
              · rw [any_str (l := kw) (by simpa using hlen) (rep_strs hlen hat), hx]
                simp only [Bool.false_eq_true, if_false]
                refine isTrue_or_nil ?_
                simp only [Bool.false_eq_true, if_false]
                refine wpAny_execs_nil ?_
                refine wpAny_execs_cons (aug_at CK O' F₂ hC (W_now W hR F₂ hD₂ W.lt) (isLc_is hl1) rfl gD hDL fun h₃ tk₃ t₃ td₃ F₃ hD₃ => ?_)
                refine wpAny_execs_cons (wpAny_Return_some (Tuple_ (spliced_more (item_at (j := 1) O' F₃ (isLc_is hl2) rfl (F₃.keep _ _ gt) rfl (by decide) fun tk => ?_))))
                refine spliced_more (item_at (j := 2) O' F₃ (isLc_is hl2) rfl (F₃.keep _ _ gt) rfl (by decide) fun tk => spliced_none ?_)
                refine wpAny_newObj_type (T := "tuple") (data := .seq #[.str x _, .int i _]) (dict := none) ?_ (show 2 ≤ sizeLine by rw [sizeLine_eq]; decide)
                have kp : Kept h₃ (h₃.push (tupObj [.str x k2, .int i k3] 0)) := fun b o e => Heap.get?_push_of_some _ e
                exact ⟨⟨_, k2, k3, rfl, Heap.get?_push_size _ rfl⟩, fun b o e ne => kp _ _ (K_now F₃ b o e ne), (W_now W hR F₃ hD₃ (not_last W ht hke)).ext kp, ho.trans (ho₂.trans ⟨rfl, rfl, rfl⟩)⟩
          · cases hret
        · cases hif2
      · cases hif
    · cases hif
  · cases hf
end
end Mine

namespace Mine

section
variable {prog : Program} {w : World} {A : Around} {E : Value → Shared → Prop} {h : Heap} {g : Array GenState} {d : Drawn} {t : Nat} {os : OsState}
variable {nm q : Str} {C N : Addr} {bs bm bmB : List Value} {hdct : Bool} {sn : List Str} {sub : List Value} {ab : Bool} {col : Option Bool} {dd : Option Addr} {k0 k1 k2 k3 k5 : Option Value} {B newId initId : String}

structure Holds (B : String) (bm : List Value) : Prop where
  hasB : bm.contains (.type B) = true
  hasBase : bm.contains (.type "BaseException") = true
  noAttr : bm.contains (.type "AttributeError") = false
  noName : bm.contains (.type "NameError") = false

theorem x_check_new (F : ExcBaseFacts B newId initId bmB) (T : Holds B bm) {M : Model} {rest : List Value} {Q : Unit → Shared → Prop} (hC : h.get? C = some (excClassObj nm q C N bs bm hdct sn sub ab col dd k0 k1 k2 k3 k5 newId))
    (hq : Q () ⟨h, g, d, t, os⟩) : wpAny M A (checkBuiltinCall newId ⟨.ref C :: rest, []⟩) Q E ⟨h, g, d, t, os⟩ := by
  have hcont : (Value.ref C :: bm).contains (.type B) = true := by rw [List.contains_cons, T.hasB, Bool.or_true]
  have hstar := F.noStar
  simp only [checkBuiltinCall, F.newKind, F.newSplit, F.newRow]
  repeat (first | refine wpAny_loadPart_at hC ?_ | (refine wpAny_isSubtype_exc hC ?_; rw [hcont]) | refine wpAny_staticBase_exc hC ?_ | refine wpAny_madeBy_exc hC ?_ | simp only [bne_self_eq_false, Bool.false_eq_true, if_false] | wp_step)
  exact hq

theorem x_new (F : ExcBaseFacts B newId initId bmB) (T : Holds B bm) {rest : List Value} {R : Result → Shared → Prop} (hC : h.get? C = some (excClassObj nm q C N bs bm hdct sn sub ab col dd k0 k1 k2 k3 k5 newId))
    (hq : R (.ok (.ret (.ref (h.objs.size + 1)))) ⟨(h.push { cls := .type "tuple", data := .seq rest.toArray }).push
      { cls := .ref C, data := .fields #[.ref h.objs.size, .none, .none, .none, .bool false, .none] }, g, d, t, os⟩) (hrest : rest.length ≤ sizeLine := by size_fits) :
    codeAny (model prog w) A (.builtin newId ⟨.ref C :: rest, []⟩) R ⟨h, g, d, t, os⟩ := by
  have hends := F.ends
  have hcB : (Value.ref C :: bm).contains (.type B) = true := by rw [List.contains_cons, T.hasB, Bool.or_true]
  have hcA : (Value.ref C :: bm).contains (.type "AttributeError") = false := by rw [List.contains_cons, T.noAttr]; rfl
  have hcN : (Value.ref C :: bm).contains (.type "NameError") = false := by rw [List.contains_cons, T.noName]; rfl
  refine codeAny_builtinAt F.entry ?_
  unfold Builtin.«BaseException.__new__»
  refine PySem.wpAt_bind ?_
  show PySem.wpAt _ _ _ (stack >>= _) _ _ _
  refine PySem.wpAt_bind (PySem.wpAt_stack fun p below => PySem.wpAt_of_wpAny ?_)
  wp_walk
  refine PySem.wpAt_of_wpAny ?_
  rw [F.owner]
  repeat (first | with_reducible refine wpAny_madeHere_exc F.canon hC ?_ | with_reducible refine wpAny_loadPart_at hC ?_ | (with_reducible refine wpAny_isSubtype_exc hC ?_; first | rw [hcB] | rw [hcA] | rw [hcN]) | wp_step)
  show R _ _
  rw [Heap.size_push]
  exact hq

theorem x_check_init (F : ExcBaseFacts B newId initId bmB) (T : Holds B bm) {M : Model} {e : Addr} {oe : Obj} {rest : List Value} {nw : String} {Q : Unit → Shared → Prop}
    (hC : h.get? C = some (excClassObj nm q C N bs bm hdct sn sub ab col dd k0 k1 k2 k3 k5 nw)) (he : h.get? e = some oe) (hcls : oe.cls = .ref C) (hq : Q () ⟨h, g, d, t, os⟩) :
    wpAny M A (checkBuiltinCall initId ⟨.ref e :: rest, []⟩) Q E ⟨h, g, d, t, os⟩ := by
  have hcB : (Value.ref C :: bm).contains (.type B) = true := by rw [List.contains_cons, T.hasB, Bool.or_true]
  have hshort := F.noStar
  simp only [checkBuiltinCall, F.initKind, F.initSplit, F.initRow]
  repeat (first | (with_reducible refine wpAny_loadPart_at he ?_; rw [hcls]) | with_reducible refine wpAny_loadPart_at hC ?_ | (with_reducible refine wpAny_isSubtype_exc hC ?_; rw [hcB]) | wp_step)
  refine wpAny_onRaise ?_
  rw [show ∀ (a b : String) (n : Nat), Bind.check ⟨.positional, "*", B, .self, [⟨"args", .varPos, false⟩]⟩ a b n (List.map (fun x => x.fst) ({ pos := Value.ref e :: rest } : Args).kw) = pure () from
    fun a b n => check_star_args _ _ _ _ _ _]
  exact wpAny_pure hq

/-- the object of an exception that is being made -/
abbrev excObj (C t : Addr) (D : Option Addr) : Obj := { cls := .ref C, dict := D, data := .fields #[.ref t, .none, .none, .none, .bool false, .none] }

theorem x_make (F : ExcBaseFacts B newId initId bmB) (T : Holds B bm) {rest : List Value} {fI : Addr} {R : Result → Shared → Prop}
    (hC : h.get? C = some (excClassObj nm q C N bs bm hdct sn sub ab col dd k0 k1 k2 k3 k5 newId))
    {K : Frag} (X : K.In h) (hs : findIn K (.ref C) "__init__" = some (some (.ref fI))) (hf : typeIn K (.ref fI) = some (.type "function"))
    (hq : codeAny (model prog w) (A.under (.builtin "type.__call__" ⟨.ref C :: rest, []⟩)) (.call (.ref fI) ⟨.ref (h.objs.size + 1) :: rest, []⟩) (InitBack (h.objs.size + 1) R)
      ⟨(h.push { cls := .type "tuple", data := .seq rest.toArray }).push (excObj C h.objs.size none), g, d, t, os⟩) (hrest : rest.length ≤ sizeLine := by size_fits) :
    codeAny (model prog w) A (.call (.ref C) ⟨rest, []⟩) R ⟨h, g, d, t, os⟩ := by
  have f1 := tc_lookup
  have f2 := tc_bind (.ref C)
  have hT : (⟨h, g, d, t, os⟩ : Shared).TypeIs (.ref C) "type" := ⟨_, hC, rfl⟩
  refine codeAny_of_tree ?_
  show wpAny _ _ (callAny (.ref C) _) _ _ _
  repeat (any_goals (first | assumption | with_reducible refine wpAny_loadPart_at hC ?_ | wp_step))
  refine ⟨rfl, ?_⟩
  refine codeAny_call_builtin_at (Code.quiet_builtin _ (by decide +kernel)) entry_typeCall (wpAny_check_type_call_sub hC ?_)
  repeat (first | with_reducible refine wpAny_loadPart_at hC ?_ | with_reducible refine wpAny_madeBy_exc hC ?_ | wp_step)
  refine codeAny_call_builtin_code (Code.quiet_builtin _ F.quiet) (x_check_new F T hC ?_)
  refine x_new F T hC ?_ hrest
  show wpAny _ _ _ _ _ _
  have k : Kept h ((h.push { cls := .type "tuple", data := .seq rest.toArray }).push (excObj C h.objs.size none)) := fun b o e => Heap.get?_push_of_some _ (Heap.get?_push_of_some _ e)
  have hC₁ := k _ _ hC
  have hget : ((h.push { cls := .type "tuple", data := .seq rest.toArray }).push (excObj C h.objs.size none)).get? (h.objs.size + 1) = some (excObj C h.objs.size none) := by heap_get
  have hcC : (Value.ref C :: bm).contains (.ref C) = true := by simp
  unfold isInstance
  repeat (first | with_reducible refine wpAny_loadPart_at hget ?_ | wp_step)
  refine wpAny_isSubtype_exc hC₁ ?_
  rw [hcC]
  simp only [Bool.not_true, Bool.false_eq_true, if_false]
  have I : InstAt ((h.push { cls := .type "tuple", data := .seq rest.toArray }).push (excObj C h.objs.size none)) (h.objs.size + 1) (excObj C h.objs.size none) C none := ⟨hget, rfl, rfl, trivial⟩
  refine wpAny_bind (wpAny_holding (special_fn (X.keeps k) I hs hf (wpAny_call ?_)))
  refine codeAny_mono hq fun r s' z => ?_
  rcases r with e | (v | _ | _ | _) <;> first | exact z | exact z.elim | skip
  obtain ⟨rfl, z⟩ := z
  exact wpAny_pure z
end
end Mine

namespace Mine
section
variable {prog : Program} {w : World} {A : Around} {K : Frag} {C x : Addr} {s : Shared} {R : Result → Shared → Prop}
/-- an exception's classes, to the end -/
def endsExc : List Value → Bool
  | [.type a, .type b, .type c] => decide (a = "Exception") && decide (b = "BaseException") && decide (c = "object")
  | .ref _ :: r => endsExc r
  | _ => false
theorem pass_exc (self : Value) : refuseLoop self "__setattr__" [.type "Exception", .type "BaseException", .type "object"] = pure () := by
  kernel_rfl
theorem refuse_exc (self : Value) : ∀ {l : List Value}, endsExc l = true → refuseLoop self "__setattr__" l = pure ()
  | [.type a, .type b, .type c], e => by
    simp only [endsExc, Bool.and_eq_true, decide_eq_true_eq] at e
    obtain ⟨⟨rfl, rfl⟩, rfl⟩ := e
    exact pass_exc self
  | .ref c :: r, e => by rw [refuseLoop_ref]; exact refuse_exc self e
theorem exc_has : ∀ {l : List Value}, endsExc l = true → l.contains (.type "object") = true
  | [.type a, .type b, .type c], e => by
    simp only [endsExc, Bool.and_eq_true, decide_eq_true_eq] at e
    obtain ⟨⟨rfl, rfl⟩, rfl⟩ := e
    simp
  | .ref c :: r, e => by rw [List.contains_cons, exc_has (l := r) e, Bool.or_true]
def overX (K : Frag) (C : Addr) : Bool := (clsIn K C).any fun cd => endsExc cd.mro
theorem osa_openX {ox : Obj} {od : Option Obj} {name : Str} {tk : PySem.Tok} {v : Value} {r : Option Value} (X : K.In s.heap) (I : InstAt s.heap x ox C od) (hp : overX K C = true) (ht : takerIn K C name = some r)
    (h : ∀ b, wpAny (model prog w) A.in1 (match r with | some a => Builtin.ObjectAttr.setByDescriptor a (.ref x) v | none => Builtin.ObjectAttr.storeInOwnDict (.ref x) (.ref C) (.str name tk) name v b)
      (fun fin s' => match fin with | .done f => R (.ok f) s' | .again c' => c'.quiet = true ∧ codeAny (model prog w) A c' R s') (fun e s' => R (.error e) s') s) :
    codeAny (model prog w) A (.call (.builtin "object.__setattr__") ⟨[.ref x, .str name tk, v], []⟩) R s := by
  have SF := PySem.F.store_object
  obtain ⟨cd, hc, ho⟩ := any_some hp
  have ne : cd.mro.isEmpty = false := by cases q : cd.mro with | nil => rw [q] at ho; cases ho | cons _ _ => rfl
  have sub : Looks (model prog w) s.heap (isInstance (.ref x) (.type "object")) true := I.type.andThen (looks_mroIn X (by unfold mroIn; rw [hc, Option.bind_some, if_neg (by rw [ne]; decide), exc_has ho]))
  refine codeAny_call_builtin SF.slot.plain SF.entry (@check_slot (model prog w) _ _ s "object.__setattr__" "object" "__setattr__" (.ref x) [.str name tk, v] [] _ SF.kind SF.split sub (SF.args (.ref x) (.str name tk) v) ?_)
  obtain ⟨attr, ha, hr⟩ := Option.bind_eq_some_iff.mp ht
  have hm : Looks (model prog w) s.heap (mroOf (.ref C)) cd.mro := (looks_clsIn X hc).andThen .now
  have L3 : Looks (model prog w) s.heap (Builtin.ObjectAttr.storeTaker? attr) r := by
    cases attr with
    | none => cases hr; exact .now
    | some a =>
      obtain ⟨b, hb, rfl⟩ := Option.map_eq_some_iff.mp hr
      refine (looks_takesIn X hb).andThen ?_
      cases b <;> exact .now
  rw [osa_eq, refuse_eq]
  refine wpAny_bind (wpAny_bind (I.type.here (wpAny_bind (hm.here ?_))))
  rw [refuse_exc _ ho]
  refine wpAny_pure (wpAny_bind (I.type.here (wpAny_bind ((looks_findIn X ha).here (wpAny_bind (L3.here ?_))))))
  exact h _

theorem set_first {ox : Obj} {name : Str} {tk : PySem.Tok} {v : Value} {vs : Array Value} (X : K.In s.heap) (hx : s.heap.get? x = some ox) (hcl : ox.cls = .ref C) (hdn : ox.dict = none) (hdt : ox.data = .fields vs)
    (hp : overX K C = true) (ht : takerIn K C name = some none) (hh : (clsIn K C).any (·.hasDict) = true) 
    (h : ∀ h' D hs tk', (∀ b o, s.heap.get? b = some o → b ≠ x → h'.get? b = some o) → s.heap.get? D = none → h'.get? x = some { ox with dict := some D } → h'.get? D = some (dictOf [⟨hs, .str name tk', v⟩] 1) → R (.ok (.ret .none)) { s with heap := h', toks := s.toks + 1 }) :
    codeAny (model prog w) A (.call (.builtin "object.__setattr__") ⟨[.ref x, .str name tk, v], []⟩) R s := by
  have I : InstAt s.heap x ox C none := ⟨hx, hcl, by unfold notCls; rw [hdt], by rw [hdn]; trivial⟩
  refine osa_openX X I hp ht fun b => ?_
  obtain ⟨cd, hc, hd'⟩ := any_some hh
  obtain ⟨oc, odi, oda, osl⟩ := ox
  dsimp only at hcl hdn hdt
  subst hcl hdn hdt
  refine wpAny_bind (wpAny_pure (wpAny_bind (wpAny_bind (wpAny_loadPart hx (wpAny_bind ((looks_clsIn X hc).here ?_))))))
  rw [hd']
  simp only [Bool.not_true, Bool.false_eq_true, if_false]
  rw [if_neg (show ¬ (false || !typeHasDict (.ref C)) = true by simp [typeHasDict])]
  have hx₁ := Heap.get?_push_of_some { cls := .type "dict", data := .dict #[] } hx
  have hDn : s.heap.get? s.heap.objs.size = none := Heap.get?_none_of_le (Nat.le_refl _)
  have hxD : x ≠ s.heap.objs.size := Nat.ne_of_lt (Heap.lt_size hx)
  refine wpAny_bind (wpAny_alloc (wpAny_bind (wpAny_update hx₁ ?_)))
  have D : ((s.heap.push { cls := .type "dict", data := .dict #[] }).update x fun o => { cls := o.cls, dict := some s.heap.objs.size, data := o.data, slots := o.slots }).get? s.heap.objs.size = some (dictOf [] 0) :=
    (Heap.get?_update_other _ _ hxD).trans (Heap.get?_push_size _ rfl)
  refine wpAny_pure (a := some s.heap.objs.size) (wpAny_bind (wpAny_pure (wpAny_bind ?_)))
  unfold nsSet
  refine wpAny_bind (wpAny_bind (wpAny_askSetting (wpAny_pure (wpAny_bind (wpAny_mkText (wpAny_bind (wpAny_loadPart D ?_)))))))
  dsimp only
  rw [aRefKeyMayBeTheName_at, show (!(([] : List DictEntry).toArray.any (·.key.isStr name)) && ([] : List DictEntry).toArray.any (·.refKey)) = false from by simp]
  refine wpAny_updatePart D ?_
  generalize hput : Obj.putName name _ _ v = put
  have hpd : ∃ hs tk', put (dictOf [] 0) = dictOf [⟨hs, .str name tk', v⟩] 1 := by
    subst hput
    exact ⟨_, _, by rw [putName_dict]; rfl⟩
  obtain ⟨hs', tk', hpd⟩ := hpd
  have D' := Heap.get?_update_self put D (by rw [hpd]; rfl)
  rw [hpd] at D'
  refine wpAny_bind (wpAny_lookBehind D' (pastItsLine_dict (es := #[⟨hs', .str name tk', v⟩]) (show 1 ≤ sizeLine + 1 by omega)) ?_)
  refine wpAny_pure (h _ s.heap.objs.size hs' tk' (fun b o e ne => ?_) hDn ?_ D')
  · have hb : b ≠ s.heap.objs.size := Nat.ne_of_lt (Heap.lt_size e)
    exact (Heap.get?_update_other _ _ (Ne.symm hb)).trans ((Heap.get?_update_other _ _ (Ne.symm ne)).trans (Heap.get?_push_of_some _ e))
  · exact (Heap.get?_update_other _ _ (Ne.symm hxD)).trans (Heap.get?_update_self _ hx₁ rfl)
end

section
variable {prog : Program} {w : World} {A : Around} {K : Frag} {C x : Addr} {s : Shared} {R : Result → Shared → Prop}
theorem set_second {ox : Obj} {name : Str} {tk : PySem.Tok} {v : Value} {vs : Array Value} {D : Addr} {e₁ : DictEntry} (X : K.In s.heap) (hx : s.heap.get? x = some ox) (hcl : ox.cls = .ref C) (hdn : ox.dict = some D) (hdt : ox.data = .fields vs)
    (hD : s.heap.get? D = some (dictOf [e₁] 1)) (hk : ∃ y t, e₁.key = .str y t) (hp : overX K C = true) (ht : takerIn K C name = some none) (hh : (clsIn K C).any (·.hasDict) = true)
    (h : ∀ h', (∀ b o, s.heap.get? b = some o → b ≠ D → h'.get? b = some o) → R (.ok (.ret .none)) { s with heap := h', toks := s.toks + 1 }) :
    codeAny (model prog w) A (.call (.builtin "object.__setattr__") ⟨[.ref x, .str name tk, v], []⟩) R s := by
  have I : InstAt s.heap x ox C (some (dictOf [e₁] 1)) := ⟨hx, hcl, by unfold notCls; rw [hdt], by rw [hdn]; exact hD⟩
  refine osa_openX X I hp ht fun b => ?_
  obtain ⟨cd, hc, hd'⟩ := any_some hh
  obtain ⟨oc, odi, oda, osl⟩ := ox
  dsimp only at hcl hdn hdt
  subst hcl hdn hdt
  refine wpAny_bind (wpAny_pure (wpAny_bind (wpAny_bind (wpAny_loadPart hx (wpAny_bind ((looks_clsIn X hc).here ?_))))))
  rw [hd']
  refine wpAny_pure (a := some D) (wpAny_bind (wpAny_pure (wpAny_bind ?_)))
  unfold nsSet
  refine wpAny_bind (wpAny_bind (wpAny_askSetting (wpAny_pure (wpAny_bind (wpAny_mkText (wpAny_bind (wpAny_loadPart hD ?_)))))))
  dsimp only
  obtain ⟨hs, k1, v1⟩ := e₁
  obtain ⟨y, t, rfl⟩ := hk
  rw [aRefKeyMayBeTheName_at, show (!(([⟨hs, .str y t, v1⟩] : List DictEntry).toArray.any (·.key.isStr name)) && ([⟨hs, .str y t, v1⟩] : List DictEntry).toArray.any (·.refKey)) = false from by simp [DictEntry.refKey]]
  refine wpAny_updatePart hD ?_
  generalize hput : Obj.putName name _ _ v = put
  have hpd : ∃ es n, put (dictOf [⟨hs, .str y t, v1⟩] 1) = dictOf es n ∧ es.length ≤ 2 := by
    subst hput
    refine ⟨_, _, by rw [putName_dict], ?_⟩
    unfold putL putL
    split <;> simp
  obtain ⟨es, n, hpd, hlen⟩ := hpd
  have D' := Heap.get?_update_self put hD (by rw [hpd]; rfl)
  rw [hpd] at D'
  refine wpAny_bind (wpAny_lookBehind D' (pastItsLine_dict (es := es.toArray) (by rw [List.size_toArray, sizeLine_eq]; omega)) ?_)
  exact wpAny_pure (h _ fun b o e ne => (Heap.get?_update_other _ _ (Ne.symm ne)).trans e)
end

section
variable {prog : Program} {w : World} {A : Around} {E : Value → Shared → Prop} {s : Shared}
variable {nm q : Str} {C N : Addr} {bs bm bmB : List Value} {hdct : Bool} {sn : List Str} {sub : List Value} {ab : Bool} {col : Option Bool} {dd : Option Addr} {k0 k1 k2 k3 k5 : Option Value} {B newId initId nw : String}
theorem x_init {e t : Addr} {v : Value} {Q : Value → Shared → Prop} (F : ExcBaseFacts B newId initId bmB) (T : Holds B bm) (hC : s.heap.get? C = some (excClassObj nm q C N bs bm hdct sn sub ab col dd k0 k1 k2 k3 k5 nw)) (he : s.heap.get? e = some (excObj C t none))
    (h : ∀ h' t', (∀ b o, s.heap.get? b = some o → b ≠ e → h'.get? b = some o) → h'.get? e = some (excObj C t' none) → Q .none { s with heap := h' }) :
    wpAny (model prog w) A (call (.builtin initId) [.ref e, v]) Q E s := by
  obtain ⟨hh, g, d, tk, os⟩ := s
  refine wpAny_call (codeAny_call_builtin F.init.plain F.initEntry (x_check_init F T hC he rfl ?_))
  wp_walk
  have he₁ := Heap.get?_push_of_some { cls := .type "tuple", data := .seq #[v] } he
  refine h _ hh.objs.size (fun b o ob ne => ?_) ?_
  · exact (Heap.get?_update_other _ _ (Ne.symm ne)).trans (Heap.get?_push_of_some _ ob)
  · exact Heap.get?_update_self _ he₁ rfl
end
end Mine

namespace Mine

def Frm.intoA (fr : Frm) (A : Around) (s : Shared) (hide : List Addr) (f : Addr) (fd : FuncData) (L : Addr) : Frm := ⟨A, fr.base, hideAll s.heap hide, fr.env :: fr.outer, L, f, fd.qualname, fd.scope, fd.code⟩
section
variable {B : Bs} {fr : Frm} {n n' : Nat} {s : Shared} {m : Str → Option Value}
/-- a plain def is entered, from within a call of a builtin -/
theorem enterA {R : Result → Shared → Prop} {A : Around} (O : FrB B fr n') (F : Fr fr.g fr.L s.heap m) (hide : List Addr) (hnew : ∀ a ∈ hide, fr.g.get? a = none ∧ a ≠ fr.L)
    (hst : A.frames = some (fr.env :: fr.outer)) (hh : A.handled = none) (hroom : A.depth + n + 20 ≤ recursionLimit) (hunits : A.units + 10 * (n + 20) ≤ cLine)
    {f : Addr} {fd : FuncData} {body : List Stmt} {vs : List Value} {mv : List (Str × Value)} (hf : fnAt B.K f = some fd) (hfd : fdOk B.K fd = true) (hbody : fd.body = .stmts body) (hb : BindsTo s fd ⟨vs, []⟩ mv)
    (hnd : (mv.map (·.1)).Nodup) (hloc : allLocal fd.scope (mv.map (·.1)) = true)
    (k : ∀ L s₁, s.heap.get? L = none → Kept s.heap s₁.heap → OutAs s s₁ → FrB B (fr.intoA A s hide f fd L) n → Fr (hideAll s.heap hide) L s₁.heap (fun z => find z mv) →
      wpAny (model B.prog B.w) (fr.intoA A s hide f fd L).A (execs body (fr.intoA A s hide f fd L).env) (fun fl s' => R (.ok (.ret (flowV fl))) s') (fun _ _ => False) s₁) :
    codeAny (model B.prog B.w) A (.call (.ref f) ⟨vs, []⟩) R s := by
  have X := O.X.keeps F.keep
  unfold fnAt at hf
  split at hf
  · rename_i oc od fd' osl hlk
    cases hf
    unfold fdOk at hfd
    simp only [Bool.and_eq_true, Bool.not_eq_true'] at hfd
    obtain ⟨⟨⟨⟨⟨⟨⟨⟨⟨q1, q2⟩, q3⟩, q4⟩, q5⟩, q6⟩, q7⟩, q8⟩, q9⟩, q10⟩ := hfd
    have q1 := Nat.eq_of_beq_eq_true q1
    have q2 := Nat.eq_of_beq_eq_true q2
    have q3 := isNil_iff q3
    have q7' : fd.scope.kind = .function := by
      generalize fd.scope.kind = kk at q7
      cases kk <;> first | rfl | cases q7
    have q10 := isNo_iff q10
    have henv : ∀ L', callEnv fd L' f = envOf fd.qualname fd.scope L' f fd.code := by
      intro L'
      unfold callEnv newEnv envOf
      rw [q1, q2, q3]
    obtain ⟨oL, _, _, hL, _⟩ := F.ns
    have B₁ := O.below.push (name := fr.name) (scope := fr.scope) (a := fr.a) (cd := fr.cd) F O.kind
    have st0 : fr.g.StaysIn (hideAll s.heap hide) := fun b o e => hideAll_get _ (F.keep b o e) fun q => by rw [(hnew b q).1] at e; cases e
    have B₂ : Below A fr.base (fr.env :: fr.outer) (hideAll s.heap hide) := ⟨hst, fun b o e => st0 b o (O.below.stays b o e),
      funFrames_hideAll B₁.frames fun env he b hb hf => by
        cases he with
        | head => exact (hnew b hb).2 (Option.some.inj hf).symm
        | tail _ he =>
          obtain ⟨L₁, o₁, hf₁, ho₁⟩ := funFrames_in O.below.frames env he
          rw [hf₁] at hf
          rw [Option.some.inj hf, (hnew b hb).1] at ho₁
          cases ho₁⟩
    refine codeAny_call_def (fd := fd) (body := body) (binds := mv) (by omega) (X _ _ hlk) rfl (O.T.nolimit.keeps F.keep) (codeRec_of X q9) hbody hb (noCell_ne q8) (fun y hy => ?_) (fun h₁ hns hk₁ => ?_) q6 q5 q7'
    · have := allLocal_at (cx := ⟨fd.scope, 0⟩) hloc _ (List.mem_map_of_mem hy)
      unfold isLocal at this
      split at this
      · rename_i q; rw [find_eq] at q; exact q
      · cases this
    · rw [henv]
      have hlt : ∀ b o, s.heap.get? b = some o → b ≠ s.heap.objs.size := fun b o e => Nat.ne_of_lt (Heap.lt_size e)
      have hsz : s.heap.get? s.heap.objs.size = none := by
        cases q : s.heap.get? s.heap.objs.size with
        | none => rfl
        | some o => exact (hlt _ _ q rfl).elim
      refine wpAny_mono (k s.heap.objs.size { s with heap := h₁, toks := s.toks + mv.length } hsz hk₁ ⟨rfl, rfl, rfl⟩ ⟨B₂, O.X.keeps st0, O.T.keeps st0, q7', hh, q10, hroom, hunits⟩ ⟨?_, fun b o e => hk₁ b o (of_hideAll _ e), Nat.le_of_eq (hideAll_size _ _)⟩) (fun fl s' q => ?_) fun _ _ e => e.elim
      · rw [show (fun z => find z mv) = (fun z => mv.reverse.lookup z) from funext fun z => (lookup_rev hnd z).symm]
        exact hns
      · cases fl <;> exact q
  · cases hf
end

def vExpr : Stmt → Option Expr
  | .Expr e _ => some e
  | _ => none
theorem vExpr_is {s : Stmt} {e : Expr} (h : vExpr s = some e) : ∃ p, s = .Expr e p := by
  unfold vExpr at h
  split at h <;> cases h
  exact ⟨_, rfl⟩
/-- x.a = y -/
def isSet (x a y : Str) (st : Stmt) : Bool := match st with
  | .Assign [.Attribute (.Name o _) b _] (.Name z _) _ => eqS o x && eqS b a && eqS z y
  | _ => false
theorem isSet_is {x a y : Str} {st : Stmt} (h : isSet x a y st = true) : ∃ p q r t, st = .Assign [.Attribute (.Name x p) a q] (.Name y r) t := by
  unfold isSet at h
  split at h
  · simp only [Bool.and_eq_true] at h
    rw [eqS_iff.mp h.1.1, eqS_iff.mp h.1.2, eqS_iff.mp h.2]
    exact ⟨_, _, _, _, rfl⟩
  · cases h
/-- o.m(x, y) -/
def isM2 (o mn x y : Str) (e : Expr) : Bool := match vMeth e with
  | some (o', m', [a, b]) => eqS o' o && eqS m' mn && isN x a && isN y b
  | _ => false
theorem isM2_is {o mn x y : Str} {e : Expr} (h : isM2 o mn x y e = true) : ∃ p ap pos q r, e = .Call (.Attribute (.Name o p) mn ap) [.Name x q, .Name y r] [] pos ∧ ap.endLine = pos.line := by
  unfold isM2 at h
  split at h
  · rename_i o' m' a b hv
    obtain ⟨p, q, pos, rfl, hp⟩ := vMeth_is hv
    simp only [Bool.and_eq_true] at h
    obtain ⟨r1, rfl⟩ := isN_is h.1.2
    obtain ⟨r2, rfl⟩ := isN_is h.2
    rw [eqS_iff.mp h.1.1.1, eqS_iff.mp h.1.1.2]
    exact ⟨p, q, pos, r1, r2, rfl, hp⟩
  · cases h

def okLend (K : Frag) (f : Addr) : Bool := match defOf K f ["self", "message", "spot"] with
  | some (fd, [s1, s2, s3]) => dfI K fd 0 && isLc fd "self" && isLc fd "message" && isLc fd "spot" && isGl fd "Exception" && noneK K "Exception" && (match vExpr s1 with
    | some e => isM2 "Exception" "__init__" "self" "message" e
    | none => false) && isSet "self" "message" "message" s2 && isSet "self" "spot" "spot" s3
  | _ => false

def isExcCls (C : Addr) (o : Obj) : Bool := match o with
  | ⟨.type "type", _, .cls ⟨_, _, .ref C' :: bm, _, _, _, _, _, _, _, false⟩, sl⟩ => Nat.beq C' C && bm.contains (.type "Exception") && bm.contains (.type "BaseException") && !bm.contains (.type "AttributeError") && !bm.contains (.type "NameError") && (match sl.toList with
    | [_, _, _, _, some (.builtin "Exception.__new__"), _] => true
    | _ => false)
  | _ => false
theorem isExcCls_is {C : Addr} {o : Obj} (h : isExcCls C o = true) : ∃ nm q N bs bm hdct sn sub ab col dd k0 k1 k2 k3 k5, o = excClassObj nm q C N bs bm hdct sn sub ab col dd k0 k1 k2 k3 k5 "Exception.__new__" ∧ Holds "Exception" bm := by
  unfold isExcCls at h
  split at h
  · rename_i sl
    simp only [Bool.and_eq_true, Bool.not_eq_true'] at h
    obtain ⟨⟨⟨⟨⟨h1, h2⟩, h3⟩, h4⟩, h5⟩, h6⟩ := h
    obtain rfl := Nat.eq_of_beq_eq_true h1
    split at h6
    · rename_i hs
      obtain rfl := Array.toList_inj.mp (show sl.toList = #[_, _, _, _, some (Value.builtin "Exception.__new__"), _].toList from hs)
      exact ⟨_, _, _, _, _, _, _, _, _, _, _, _, _, _, _, _, rfl, h2, h3, h4, h5⟩
    · cases h6
  · cases h

/-- the class of what is raised -/
structure FaultK (B : Bs) (fI : Addr) : Prop where
  cls : ∃ o, B.K.lookup B.GF = some o ∧ isExcCls B.GF o = true
  ini : findIn B.K (.ref B.GF) "__init__" = some (some (.ref fI))
  ity : typeIn B.K (.ref fI) = some (.type "function")
  sa : findIn B.K (.ref B.GF) "__setattr__" = some (some (.builtin "object.__setattr__"))
  po : overX B.K B.GF = true
  hd : hasDictIn B.K B.GF = true
  t1 : takerIn B.K B.GF "message" = some none
  t2 : takerIn B.K B.GF "spot" = some none
  text : okLend B.K fI = true
  ei : findCls B.K (.type "Exception") (.type "type") "__init__" = some (.val (.builtin "Exception.__init__"))
end Mine

namespace Mine
theorem ty_Exception : typeOf (.type "Exception") = pure (.type "type") := by kernel_rfl
theorem nostub_Exception : Manifest.isStub "Exception" = false := by decide +kernel

section
variable {B : Bs} {fr : Frm} {n n' : Nat} {s : Shared} {m : Str → Option Value}
theorem c_lend {fI : Addr} {R : Result → Shared → Prop} {A : Around} (FK : FaultK B fI) (O : FrB B fr n') (F : Fr fr.g fr.L s.heap m)
    (hst : A.frames = some (fr.env :: fr.outer)) (hh : A.handled = none) (hroom : A.depth + n + 20 ≤ recursionLimit) (hunits : A.units + 10 * (n + 20) ≤ cLine)
    {e t : Addr} {msg spot : Value} (he : s.heap.get? e = some (excObj B.GF t none)) (heg : fr.g.get? e = none) (heL : e ≠ fr.L)
    (h : ∀ s' t' D, (∀ b o, s.heap.get? b = some o → b ≠ e → s'.heap.get? b = some o) → s'.heap.get? e = some (excObj B.GF t' (some D)) → OutAs s s' → R (.ok (.ret .none)) s') :
    codeAny (model B.prog B.w) A (.call (.ref fI) ⟨[.ref e, msg, spot], []⟩) R s := by
  have hf := FK.text
  unfold okLend at hf
  split at hf
  · rename_i fd s1 s2 s3 hdef
    simp only [Bool.and_eq_true] at hf
    obtain ⟨⟨⟨⟨⟨⟨⟨⟨hdf, hl1⟩, hl2⟩, hl3⟩, hg⟩, hn⟩, hs1⟩, hs2⟩, hs3⟩ := hf
    split at hs1
    · rename_i ex hex
      obtain ⟨pe, rfl⟩ := vExpr_is hex
      obtain ⟨a1, a2, a3, a4, a5, rfl, hpos⟩ := isM2_is hs1
      obtain ⟨b1, b2, b3, b4, rfl⟩ := isSet_is hs2
      obtain ⟨c1, c2, c3, c4, rfl⟩ := isSet_is hs3
      obtain ⟨q1, q2, q3, q4, q5⟩ := defOf_is hdef
      have X := O.X.keeps F.keep
      refine enterA (n := n) O F [e] (by intro a h; simp only [List.mem_singleton] at h; subst h; exact ⟨heg, heL⟩) hst hh hroom hunits q1 q2 q3 (bind33 X q2 q4 hdf (by decide) (by decide) (by decide)) (show (["self", "message", "spot"] : List Str).Nodup by decide) q5 fun L s₁ hL hk ho O' F' => ?_
      have eL : e ≠ L := by rintro rfl; rw [he] at hL; cases hL
      have ge : (hideAll s.heap [e]).get? e = none := hideAll_none _ (.head _)
      obtain ⟨oc, hCl, hcls⟩ := FK.cls
      obtain ⟨nmC, q, N, bs, bm, hdct, sn, sub, ab, col, dd, k0, k1, k2, k3, k5, rfl, T⟩ := isExcCls_is hcls
      have hne : (Str.ofString "Exception") ≠ "__name__" := by decide
      have nointer : interactive (fr.intoA A s [e] fI fd L).env = false := by
        unfold interactive
        show (fd.scope.kind == .module && _) = false
        rw [show fd.scope.kind = .function from O'.kind]; rfl
      refine wpAny_execs_cons (wpAny_Expr_any ?_ nointer rfl)
      refine meth_rule rfl (show 2 ≤ 20 by decide) hpos (bnm O' F' (isGl_is hg) (noneK_is hn) PyProof.Rows.Boot.«Exception» hne ?_)
      refine method_type F' O'.X ty_Exception nostub_Exception FK.ei rfl ?_
      refine callWith_builtin rfl (evalArgs_plain (spliced_cons (Mine.nm O' F' (isLc_is hl1) rfl (spliced_cons (Mine.nm O' F' (isLc_is hl2) rfl (spliced_nil ?_))))))
      refine x_init (t := t) PySem.F.excBase_Exception T ((O'.X.keeps F'.keep) _ _ hCl) (hk _ _ he) fun h₂ t₂ hk₂ he₂ => ?_
      have F₂ : Fr (hideAll s.heap [e]) L h₂ _ := frBut F' (c := e) (fun b o ne q => hk₂ b o q ne) ge eL
      have I₂ : InstAt h₂ e (excObj B.GF t₂ none) B.GF none := ⟨he₂, rfl, rfl, trivial⟩
      refine wpAny_execs_cons (plainObj_wpAny_Assign_Attribute (nm O' F₂ (isLc_is hl2) rfl (nm O' F₂ (isLc_is hl1) rfl ?_)))
      refine set_plain (ox := excObj B.GF t₂ none) (od := none) (O'.X.keeps F₂.keep) I₂ FK.sa ?_
      refine set_first (ox := excObj B.GF t₂ none) (vs := _) (O'.X.keeps F₂.keep) he₂ rfl rfl rfl FK.po FK.t1 ?_ fun h₃ D hs tk' hk₃ hD₃ he₃ hDo => ?_
      · exact FK.hd
      · have F₃ : Fr (hideAll s.heap [e]) L h₃ _ := frBut F₂ (c := e) (fun b o ne q => hk₃ b o q ne) ge eL
        have eD : e ≠ D := by rintro rfl; rw [he₂] at hD₃; cases hD₃
        have gD : (hideAll s.heap [e]).get? D = none := by
          cases q : (hideAll s.heap [e]).get? D with
          | none => rfl
          | some o => have := F₂.keep D o q; rw [hD₃] at this; cases this
        have DL : D ≠ L := by
          rintro rfl
          obtain ⟨o, _, _, h1, _⟩ := F₂.ns
          rw [hD₃] at h1; cases h1
        have N₃ : News (hideAll s.heap [e]) L h₃ [(e, excObj B.GF t₂ (some D)), (D, dictOf [⟨hs, .str "message" tk', msg⟩] 1)] := by
          intro p hp
          simp only [List.mem_cons, List.not_mem_nil, or_false] at hp
          rcases hp with rfl | rfl
          · exact ⟨he₃, eL, ge⟩
          · exact ⟨hDo, DL, gD⟩
        have I₃ : InstAt h₃ e (excObj B.GF t₂ (some D)) B.GF (some (dictOf [⟨hs, .str "message" tk', msg⟩] 1)) := ⟨he₃, rfl, rfl, hDo⟩
        refine wpAny_execs_cons (plainObj_wpAny_Assign_Attribute (nm O' F₃ (isLc_is hl3) rfl (nm O' F₃ (isLc_is hl1) rfl ?_)))
        refine set_plain (ox := excObj B.GF t₂ (some D)) (od := some (dictOf [⟨hs, .str "message" tk', msg⟩] 1)) (O'.X.keeps F₃.keep) I₃ FK.sa ?_
        refine set_second (ox := excObj B.GF t₂ (some D)) (vs := _) (D := D) (O'.X.keeps F₃.keep) he₃ rfl rfl rfl hDo ⟨_, _, rfl⟩ FK.po FK.t2 FK.hd fun h₄ hk₄ => ?_
        refine wpAny_execs_nil (h _ t₂ D (fun b o q ne => ?_) (hk₄ _ _ he₃ eD) (ho.trans ⟨rfl, rfl, rfl⟩))
        have gb : (hideAll s.heap [e]).get? b = some o := hideAll_get _ q (by simpa using ne)
        exact hk₄ _ _ (F₃.keep b o gb) (by rintro rfl; rw [gD] at gb; cases gb)
    · cases hs1
  · cases hf
end
end Mine

namespace Mine

section
variable {M : Model} {A : Around} {E : Value → Shared → Prop} {env : Env}
variable {nm q : Str} {C N : Addr} {bs bm : List Value} {hdct : Bool} {sn : List Str} {sub : List Value} {ab : Bool} {col : Option Bool} {dd : Option Addr} {k0 k1 k2 k3 k5 : Option Value} {newId : String}
theorem x_raise {s : Shared} {x : Sem Value} {Q : Flow → Shared → Prop} {C : Addr} (hh : A.handled = none)
    (h : wpAny M A x (fun v s₁ => ∃ e t D o, v = .ref e ∧ s₁.heap.get? C = some o ∧ isExcCls C o = true ∧
      s₁.heap.get? e = some (excObj C t D) ∧ E (.ref e) s₁) E s) :
    wpAny M A (raiseStmt env (some x) none) Q E s := by
  unfold raiseStmt
  refine wpAny_bind (wpAny_mono h (fun v s₁ h₁ => ?_) fun _ _ x => x)
  obtain ⟨e, t, D, o, rfl, hC, ho, he, hE⟩ := h₁
  obtain ⟨nm, q, N, bs, bm, hdct, sn, sub, ab, col, dd, k0, k1, k2, k3, k5, rfl, T⟩ := isExcCls_is ho
  have hcB : (Value.ref C :: bm).contains (.type "BaseException") = true := by rw [List.contains_cons, T.hasBase, Bool.or_true]
  obtain ⟨hp, g, d, tk, os⟩ := s₁
  unfold excObj at he
  repeat (first | with_reducible refine wpAny_loadPart_at he ?_ | with_reducible refine wpAny_loadPart_at hC ?_ | (with_reducible refine wpAny_isSubtype_exc hC ?_; rw [hcB]) | wp_step)
  exact wpAny_raiseNew_none hh hE
end

theorem under_frames (A : Around) (a : Args) {l : List Env} (h : A.frames = some l) : (A.under (.builtin "type.__call__" a)).frames = some l := by
  unfold Around.under
  simp only
  rw [h]
  rfl
def vRaise : Stmt → Option (Str × List Expr)
  | .Raise (some (.Call (.Name f _) as [] _)) none _ => some (f, as)
  | _ => none
theorem vRaise_is {s : Stmt} {f : Str} {as : List Expr} (h : vRaise s = some (f, as)) : ∃ p q r, s = .Raise (some (.Call (.Name f p) as [] q)) none r := by
  unfold vRaise at h
  split at h <;> cases h
  exact ⟨_, _, _, rfl⟩
def isStrC : Expr → Bool
  | .Constant (.str _) _ _ => true
  | _ => false
theorem isStrC_is {e : Expr} (h : isStrC e = true) : ∃ x a p, e = .Constant (.str x) a p := by
  unfold isStrC at h
  split at h
  · exact ⟨_, _, _, rfl⟩
  · cases h
/-- raise GrammarFault(text, self.peek()[2]) -/
def isRaise (st : Stmt) : Bool := match vRaise st with
  | some (f, [a, b]) => eqS f "GrammarFault" && isStrC a && (match vSub b with
    | some (v, i) => isM0 "self" "peek" v && isI 2 i
    | none => false)
  | _ => false
theorem isRaise_is {st : Stmt} (h : isRaise st = true) : ∃ p q r x a1 p1 p2 ap pos a2 p3 p4, st = .Raise (some (.Call (.Name "GrammarFault" p) [.Constant (.str x) a1 p1, .Subscript (.Call (.Attribute (.Name "self" p2) "peek" ap) [] [] pos) (.Constant (.int 2) a2 p3) p4] [] q)) none r ∧ ap.endLine = pos.line := by
  unfold isRaise at h
  split at h
  · rename_i f a b hv
    obtain ⟨p, q, r, rfl⟩ := vRaise_is hv
    simp only [Bool.and_eq_true] at h
    obtain ⟨⟨h1, h2⟩, h3⟩ := h
    obtain ⟨x, a1, p1, rfl⟩ := isStrC_is h2
    rw [eqS_iff.mp h1]
    split at h3
    · rename_i v i hs
      obtain ⟨p4, rfl⟩ := vSub_is hs
      simp only [Bool.and_eq_true] at h3
      obtain ⟨p2, ap, pos, rfl, hp⟩ := isM0_is h3.1
      obtain ⟨a2, p3, rfl⟩ := isI_is h3.2
      exact ⟨_, _, _, _, _, _, _, _, _, _, _, _, rfl, hp⟩
    · cases h3
  · cases h

section
variable {B : Bs} {fr : Frm} {n : Nat} {s : Shared} {m : Str → Option Value} {ω : Wd} {i d : Nat} {hp : Heap}

/-- the fault is raised -/
theorem s_raise {E : Value → Shared → Prop} {Q : Flow → Shared → Prop} {fp fI : Addr} {st : Stmt} (CK : ClsK B) (FK : FaultK B fI) (hpk : okPeek B.K fp = true) (M : Mt B "peek" fp) (hg : nsIn B.K mainGlobals "GrammarFault" = some (some (.ref B.GF))) (hkeep : keepIn B.K (.ref B.GF) = true)
    (hr : isRaise st = true) (O : FrB B fr (n + 3)) (F : Fr fr.g fr.L hp m) (hC : ω.C = B.C) (W : WordsAt ω hp i d) (hl : find "self" fr.scope.names = some .local) (hm : m "self" = some (.ref ω.W)) (hgl : find "GrammarFault" fr.scope.names = some .globalImplicit)
    (h : ∀ s' e t D, Kept hp s'.heap → hp.get? e = none → s'.heap.get? e = some (excObj B.GF t D) → OutAs s s' → E (.ref e) s') (hs : s.heap = hp := by rfl) :
    wpAny (model B.prog B.w) fr.A (exec st fr.env) Q E s := by
  subst hs
  obtain ⟨p, q, r, x, a1, p1, p2, ap, pos, a2, p3, p4, rfl, hpos⟩ := isRaise_is hr
  obtain ⟨oc, hCl, hcls⟩ := FK.cls
  have hlt := W.lt
  have htok : ω.toks[i]? = some ω.toks[i] := by simp [hlt]
  obtain ⟨a, k1, k2, k3, nn, ha, hta⟩ := tok_obj W (k := ω.toks[i].1) (x := ω.toks[i].2) htok
  rw [arm_exec_Raise]
  refine wpAny_bind (wpAny_standAt (x_raise (C := B.GF) O.hh (wpAny_bind (wpAny_mono (Q := fun v s₃ => ∃ e t D o, v = .ref e ∧ s₃.heap.get? B.GF = some o ∧ isExcCls B.GF o = true ∧ s₃.heap.get? e = some (excObj B.GF t D) ∧ E (.ref e) s₃) (wpAny_Call_ofName (gnm O F hgl hg ?_)) (fun v s₃ h₃ => wpAny_bind (wpAny_standAt (wpAny_pure h₃))) fun _ _ x => x))))
  refine callWith_K (h₀ := fr.g) O.X hkeep (spliced_more (wpAny_Constant_str (spliced_more (Subscript_ ?_)))) rfl rfl
  refine self0 CK M (fun _ _ _ _ _ => rfl) O F hC W hl hm hpos ?_
  have pk := c_peek (s := { s with toks := s.toks + 1 }) (n := n + 2) CK hpk O F hC W (vs := [.ref ω.W]) (k := 0) (j := i) (.inl ⟨rfl, rfl⟩) (by omega) (by omega) (by omega) ha
  refine wpAny_mono pk (fun v s₂ h₂ => ?_) fun _ _ e => e.elim
  obtain ⟨rfl, hk, ho⟩ := h₂
  refine wpAny_Constant_int (item_tupleT (l := _) (k := ((2 : Nat) : Int)) (x := .int i k3) ⟨_, hk _ _ hta, rfl, nn, rfl⟩ (by omega) (by omega) (seqIndex_nat (show 2 < 5 by decide)) rfl (spliced_none ?_) rfl)
  have F₂ := frExt F hk
  have X₂ := O.X.keeps F₂.keep
  refine ⟨X₂, ?_⟩
  obtain ⟨hh, g, dr, tk, os⟩ := s₂
  obtain ⟨nmC, qq, N, bs, bm, hdct, sn, sub, ab, col, dd, k0, kk1, kk2, kk3, k5, rfl, T⟩ := isExcCls_is hcls
  refine wpAny_call (x_make PySem.F.excBase_Exception T (X₂ _ _ hCl) X₂ FK.ini FK.ity ?_ (show 2 ≤ sizeLine by rw [sizeLine_eq]; decide))
  have k : Kept hh ((hh.push { cls := .type "tuple", data := .seq [Value.str x s.toks, Value.int i k3].toArray }).push (excObj B.GF hh.objs.size none)) := fun b o e => Heap.get?_push_of_some _ (Heap.get?_push_of_some _ e)
  have F₃ := frExt F₂ k
  have hsz : ∀ b o, hh.get? b = some o → b ≠ hh.objs.size + 1 := fun b o e => Nat.ne_of_lt (Nat.lt_succ_of_lt (Heap.lt_size e))
  have hen : hh.get? (hh.objs.size + 1) = none := Heap.get?_none_of_le (Nat.le_succ _)
  refine c_lend (n := n) FK O F₃ (A := fr.A.under _) (under_frames _ _ (Around.frames_deeper O.below.stack)) O.hh ?_ ?_ (t := hh.objs.size) ?_ ?_ ?_ fun s' t' D hk' he' ho' => ?_
  · rw [depth_under_make]
    have := O.room
    show fr.A₀.depth + 1 + 1 + n + 20 ≤ recursionLimit
    omega
  · have := O.units
    have hu : ∀ a, Code.cUnits (.builtin "type.__call__" a) ≤ 10 := fun a => by
      show 1 + 3 * Code.frames (.builtin "type.__call__" a) ≤ 10
      rw [show Code.frames (.builtin "type.__call__" a) = 0 from by first | rfl | simp [Code.frames, Code.isFrame]]; decide
    have hu := hu ⟨Value.ref B.GF :: ([] ++ [Value.str x s.toks, Value.int i k3]), []⟩
    show fr.A₀.units + 3 + Code.cUnits (.builtin "type.__call__" ⟨Value.ref B.GF :: ([] ++ [Value.str x s.toks, Value.int i k3]), []⟩) + 10 * (n + 20) ≤ cLine
    omega
  · heap_get
  · cases q : fr.g.get? (hh.objs.size + 1) with
    | none => rfl
    | some o => have := F₂.keep _ _ q; rw [hen] at this; cases this
  · rintro q
    obtain ⟨o, _, _, h1, _⟩ := F₂.ns
    exact hsz _ _ h1 q.symm
  · refine ⟨rfl, ?_⟩
    refine ⟨hh.objs.size + 1, t', some D, _, rfl, hk' _ _ (k _ _ (X₂ _ _ hCl)) ?_, hcls, he', h s' _ t' (some D) (fun b o e => hk' b o (k _ _ (hk _ _ e)) (hsz _ _ (hk _ _ e))) ?_ he' (ho.trans ho')⟩
    · have := X₂ _ _ hCl
      exact hsz _ _ this
    · cases q : s.heap.get? (hh.objs.size + 1) with
      | none => rfl
      | some o => have := hk _ _ q; rw [hen] at this; cases this
end
end Mine

namespace Mine

def okDeeper (K : Frag) (f : Addr) : Bool := match defOf K f ["self"] with
  | some (fd, [s1, s2]) => noDf fd && isLc fd "self" && isGl fd "MOST_DEEP" && isGl fd "GrammarFault" && isAug "deep" s1 && (match vIf s2 with
    | some (t, [b], []) => (match vCmp t with
      | some (l, .Gt, r) => isA "self" "deep" l && isN "MOST_DEEP" r
      | _ => false) && isRaise b
    | _ => false)
  | _ => false

section
variable {B : Bs} {fr : Frm} {n : Nat} {s : Shared} {m : Str → Option Value} {ω : Wd} {i d : Nat} {hp : Heap}

theorem c_deeper (CK : ClsK B) {f fp fI : Addr} {tM : PySem.Tok} (FK : FaultK B fI) (hf : okDeeper B.K f = true) (hpk : okPeek B.K fp = true) (M : Mt B "peek" fp) (hg : nsIn B.K mainGlobals "GrammarFault" = some (some (.ref B.GF))) (hkeep : keepIn B.K (.ref B.GF) = true)
    (hM : nsIn B.K mainGlobals "MOST_DEEP" = some (some (.int 60 tM)))
    (O : FrB B fr (n + 4)) (F : Fr fr.g fr.L s.heap m) (hD0 : fr.g.get? ω.D = none) (hDL0 : ω.D ≠ fr.L) (hC : ω.C = B.C) (hR : ω.R ≠ ω.D) (W : WordsAt ω s.heap i d) :
    wpAny (model B.prog B.w) fr.A (call (.ref f) [.ref ω.W]) (fun v s' => v = .none ∧ d + 1 ≤ 60 ∧ KeepsBut ω.D s.heap s'.heap ∧ WordsAt ω s'.heap i (d + 1) ∧ OutAs s s') (fun x s' => 60 < d + 1 ∧ FliesTo B fr s x s') s := by
  unfold okDeeper at hf
  split at hf
  · rename_i fd s1 s2 hdef
    simp only [Bool.and_eq_true] at hf
    obtain ⟨⟨⟨⟨⟨hnd, hl1⟩, hgM⟩, hgF⟩, ha⟩, hif⟩ := hf
    split at hif
    · rename_i t b hvif
      obtain ⟨pif, rfl⟩ := vIf_is hvif
      simp only [Bool.and_eq_true] at hif
      obtain ⟨hcmp, hrs⟩ := hif
      split at hcmp
      · rename_i l r hc
        obtain ⟨pc, rfl, hmk⟩ := vCmp_is hc
        simp only [Bool.and_eq_true] at hcmp
        obtain ⟨e1, e2, rfl⟩ := isA_is hcmp.1
        obtain ⟨e3, rfl⟩ := isN_is hcmp.2
        obtain ⟨pa, qa, ra, ca, ba, rfl⟩ := isAug_is ha
        obtain ⟨q1, q2, q3, q4, q5⟩ := defOf_is hdef
        obtain ⟨ti, td, hD⟩ := W.dict
        refine enter O F [ω.D] (by intro a h; simp only [List.mem_singleton] at h; subst h; exact ⟨hD0, hDL0⟩) q1 q2 q3 (bind1 q2 q4 (noDf_is hnd)) (show (["self"] : List Str).Nodup by decide) q5 fun L s₁ hL hkk ho O' F' => ?_
        have hDL : ω.D ≠ L := by rintro rfl; rw [hD] at hL; cases hL
        have gD : (hideAll s.heap [ω.D]).get? ω.D = none := hideAll_none _ (.head _)
        refine wpAny_execs_cons (aug_deep CK O' F' hC (W.ext hkk) (isLc_is hl1) rfl gD hDL fun h₃ tk₃ t₃ td₃ F₃ hD₃ => ?_)
        have W₃ := W_now W hR F₃ hD₃ W.lt
        refine wpAny_execs_cons (wpAny_If (wpAny_isTrue_Compare1 (rd_deep CK O' F₃ hC W₃ (isLc_is hl1) rfl fun t4 => gnm O' F₃ (isGl_is hgM) hM (PyProof.Rows.gt_int (wpAny_truthy_bool ?_))) hmk))
        by_cases hdd : 60 < d + 1
        · rw [show decide ((60 : Int) < ((d + 1 : Nat) : Int)) = true by simp; omega]
          simp only [if_true]
          refine wpAny_execs_cons (s_raise CK FK hpk M hg hkeep hrs O' F₃ hC W₃ (isLc_is hl1) rfl (isGl_is hgF) fun s₅ e t D hk₅ hen he₅ ho₅ => ?_)
          have F₅ := frExt F₃ hk₅
          have B₅ := O'.below.push (name := fd.qualname) (scope := fd.scope) (a := f) (cd := fd.code) F₅ O'.kind
          have hbs : fr.base.StaysIn h₃ := fun b o q => F₃.keep b o (O'.below.stays b o q)
          refine wpAny_leaving_firstW (base := fr.base) (outer := fr.env :: fr.outer) (a0 := .ref t) (Around.frames_deeper O'.below.stack) B₅.frames rfl he₅ (fun b o q => hk₅ b o (hbs b o q)) (fresh_of_stays hbs hen) rfl rfl rfl fun h' hL' => ?_
          obtain ⟨k1, ⟨_, _, k2⟩, k3, k4⟩ := hL'
          refine ⟨hdd, e, .ref t, rfl, .inl ⟨k1, fresh_of_stays hbs hen, k2, k3⟩, ?_, ho.trans (OutAs.trans ⟨rfl, rfl, rfl⟩ (ho₅.trans ⟨rfl, rfl, rfl⟩))⟩
          have keep : Kept fr.g s₅.heap := fun b o q => hk₅ b o (F₃.keep b o (hideAll_get _ (F.keep b o q) (by intro z; simp only [List.mem_singleton] at z; subst z; rw [hD0] at q; cases q)))
          exact (Heap.UpToSlots.of_keeps keep).trans k4
        · rw [show decide ((60 : Int) < ((d + 1 : Nat) : Int)) = false by simp; omega]
          simp only [Bool.false_eq_true, if_false]
          refine wpAny_execs_nil (wpAny_execs_nil ?_)
          exact ⟨rfl, by omega, K_now F₃, W₃, ho.trans ⟨rfl, rfl, rfl⟩⟩
      · cases hcmp
    · cases hif
  · cases hf
end
end Mine

namespace Mine

structure MethK (B : Bs) : Prop where
  CK : ClsK B
  FK : ∃ fI, FaultK B fI
  peek : ∃ f, Mt B "peek" f ∧ okPeek B.K f = true
  looks : ∃ f, Mt B "looks" f ∧ okLooks B.K f = true
  take : ∃ f, Mt B "take" f ∧ okTake B.K f = true
  expect : ∃ f, Mt B "expect" f ∧ okExpect B.K f = true
  name : ∃ f, Mt B "name" f ∧ okName B.K f = true
  deeper : ∃ f, Mt B "deeper" f ∧ okDeeper B.K f = true
  shallower : ∃ f, Mt B "shallower" f ∧ okShallower B.K f = true
  gf : nsIn B.K mainGlobals "GrammarFault" = some (some (.ref B.GF))
  gk : keepIn B.K (.ref B.GF) = true
  md : ∃ t, nsIn B.K mainGlobals "MOST_DEEP" = some (some (.int 60 t))
  lev : ∀ d, nsIn B.K mainGlobals "LEVELS" = some (some (.ref d)) → ∃ es n, B.K.lookup d = some ⟨.type "dict", none, .dict es n, #[]⟩ ∧ KeysLit B.w.params es.toList ∧ (d == sysModules) = false

theorem nthTok_at {ρ : Rho} {t : Wo} : ∀ {rest : List TK} {n : Nat} {l : List (Str × Str)}, Match ρ rest l → nthTok rest n = some t → ∃ x, l[n]? = some (t.kind, x) ∧ x ∈ t.texts := by
  intro rest
  induction rest with
  | nil => intro n l _ h; cases n <;> cases h
  | cons c r ih =>
    intro n l M h
    cases n with
    | zero =>
      cases M with
      | tok hx M => cases h; exact ⟨_, rfl, hx⟩
      | hole hi hx M =>
        cases h
        exact ⟨_, by rw [hi]; rfl, hx⟩
    | succ n =>
      cases M with
      | tok hx M =>
        obtain ⟨x, e, hx⟩ := ih M (show nthTok r n = some t from h)
        exact ⟨x, by simpa using e, hx⟩
      | hole hi hx M => cases h
theorem drop_at {α : Type} {l : List α} {i j : Nat} {a : α} (h : (l.drop i)[j]? = some a) : l[i + j]? = some a := by rwa [List.getElem?_drop] at h
theorem drop_cons {α : Type} {l r : List α} {i : Nat} {a : α} (h : l.drop i = a :: r) : l[i]? = some a ∧ l.drop (i + 1) = r := by
  constructor
  · have := drop_at (l := l) (i := i) (j := 0) (a := a) (by rw [h]; rfl)
    simpa using this
  · rw [← List.drop_drop, h]; rfl
theorem tok_end {ρ : Rho} {t : Wo} {r : List TK} {l : List (Str × Str)} (M : Match ρ (.tok t :: r) l) : ∃ x l', l = (t.kind, x) :: l' ∧ x ∈ t.texts ∧ Match ρ r l' := by
  cases M with
  | tok hx M => exact ⟨_, _, rfl, hx, M⟩

section
variable {G : Gl} {fr : Frm} {kp : Kp} {cx : Cx} {st : St} {s s' : Shared} {ads : List Addr} {ω : Wd} {i : Nat} {m : Str → Option Value}

theorem Core.keeps {ρ : Rho} (x : Core ρ kp st s ads) (k : Kept s.heap s'.heap) (o : OutAs s s') : Core ρ kp st s' ads := by
  refine ⟨x.lists.mono (Later.ext k) fun a _ o e => k a o e, fun ω e => ?_, fun S e => (x.src S e).mono fun o q => k _ _ q,
    fun b o hp => ⟨k _ _ (x.kept b o hp).1, (x.kept b o hp).2⟩, x.apart, x.lv, o.1.trans x.out.1, o.2.1.trans x.out.2.1, o.2.2.trans x.out.2.2⟩
  obtain ⟨i, W, r⟩ := x.words ω e
  exact ⟨i, W.ext k, r⟩

theorem tok_rep {ρ : Rho} {d : Nat} {h : Heap} {j : Nat} {t : Wo} {x : Str} {a : Addr} (W : WordsAt ω h i d) (ht : ω.toks[j]? = some (t.kind, x)) (hx : x ∈ t.texts) (ha : ω.tvs[j]? = some a) : RepV ρ ads h (.ref a) (tokAV t) := by
  obtain ⟨k1, k2, k3, n, e⟩ := W.tok j _ a ht ha
  refine .tup e rfl fun i v y h1 h2 => ?_
  match i, h1, h2 with
  | 0, h1, h2 => cases h1; cases h2; exact .str _ (by simp)
  | 1, h1, h2 => cases h1; cases h2; exact .str _ hx
  | 2, h1, h2 => cases h1; cases h2; exact .num _ _
  | 3, h1, h2 => cases h1; cases h2; exact .none
  | 4, h1, h2 => cases h1; cases h2; exact .none

/-- one word is gone past -/
theorem Core.step {ρ : Rho} (C : Core ρ (AllBut ρ s ads) st s ads) (hω : ρ.wd = some ω) {t : Wo} {r : List TK} {x : Str} {l' : List (Str × Str)} (hd : ω.toks.drop i = (t.kind, x) :: l') (hx : x ∈ t.texts) (M : Match ρ r l') (nR : ω.R ∉ muts ρ ads) {o₀ : Obj} (h₀ : s.heap.get? ω.D = some o₀) (hT : o₀.cls ≠ .type "tuple")
    (hk : KeepsBut ω.D s.heap s'.heap) (W' : WordsAt ω s'.heap (i + 1) (ρ.d0 + st.ws.lvl)) (ho : OutAs s s') :
    Core ρ (AllBut ρ s ads) ⟨st.loc, st.lists, { st.ws with prev := some t, rest := r }⟩ s' ads ∧ Later ads s.heap ads s'.heap := by
  refine C.but1 (st' := ⟨st.loc, st.lists, { st.ws with prev := some t, rest := r }⟩) (mem_wd hω) (wd_out C.apart hω) h₀ hT hk rfl (fun ω' e => ?_) (fun S e => (C.src S e).mono fun o q => hk S o q (wd_src C.apart hω e)) C.lv ⟨ho.1.trans C.out.1, ho.2.1.trans C.out.2.1, ho.2.2.trans C.out.2.2⟩
  rw [hω] at e; cases e
  obtain ⟨h1, h2⟩ := drop_cons hd
  refine ⟨i + 1, W', by rw [h2]; exact M, fun t' e => ?_, nR⟩
  cases e
  exact ⟨x, by omega, by simpa using h1, hx⟩
theorem dict_notT {ω : Wd} {i d : Nat} {ti td : PySem.Tok} : (ω.dict i ti d td).cls ≠ .type "tuple" := by intro q; injection q with q; revert q; decide

theorem took_is {ws ws' : WS} {t : Wo} (h : took ws = some (t, ws')) : ∃ r, ws.rest = .tok t :: r ∧ t.kind ≠ Str.ofString "end" ∧ ws' = { ws with prev := some t, rest := r } := by
  unfold took at h
  split at h
  · rename_i t' r hr
    split at h
    · cases h
    · rename_i hk
      cases h
      exact ⟨r, hr, eqS_false.mp hk, rfl⟩
  · cases h

theorem looksA_is {rest : List TK} {y : Str} {n : Nat} {b : Bool} (h : looksA rest y n = some b) : ∃ t, nthTok rest n = some t ∧ ((inS t.kind kinds = true ∧ sameOne t.texts [y] = some b) ∨ (inS t.kind kinds = false ∧ b = false)) := by
  unfold looksA at h
  split at h
  · rename_i t ht
    split at h
    · rename_i hk; exact ⟨t, ht, .inl ⟨hk, h⟩⟩
    · rename_i hk; cases h; exact ⟨t, ht, .inr ⟨hk, rfl⟩⟩
  · cases h
theorem looksA_val {rest : List TK} {y x : Str} {n : Nat} {b : Bool} {t : Wo} (h : (inS t.kind kinds = true ∧ sameOne t.texts [y] = some b) ∨ (inS t.kind kinds = false ∧ b = false)) (hx : x ∈ t.texts) : (inS t.kind kinds && (x == y)) = b := by
  rcases h with ⟨h1, h2⟩ | ⟨h1, rfl⟩
  · rw [h1, Bool.true_and]; exact (sameOne_is h2 x hx y (by simp))
  · rw [h1]; rfl

theorem m_peek (MK : MethK G.bs) (h4 : 4 ≤ G.ρ.sz) (O : FrmOk G fr cx) (F : Fr fr.g fr.L s.heap m) (C : Core G.ρ (AllBut G.ρ s ads) st s ads) (hω : G.ρ.wd = some ω) (hC : ω.C = G.cf.C) {f : Addr} (hf : okPeek G.cf.K f = true)
    {vs : List Value} {xs : List AV} {k : KV} (r : RepVs G.ρ ads s.heap vs xs) (h : mPeek xs st k = true) :
    wpAny (model G.prog G.w) fr.A (call (.ref f) (.ref ω.W :: vs)) (PostC G.ρ st.loc s ads k) (Exc G fr) s := by
  obtain ⟨i, W, M, hp, nR⟩ := C.words ω hω
  obtain ⟨z, hz⟩ : ∃ z, G.ρ.sz = z + 1 := ⟨G.ρ.sz - 1, by omega⟩
  have OB : FrB G.bs fr (z + 1) := hz ▸ O.frB
  unfold mPeek at h
  split at h
  · cases r
    split at h
    · rename_i t ht
      obtain ⟨x, hx, hxt⟩ := nthTok_at M ht
      have hx := drop_at hx
      have hlen := (List.getElem?_eq_some_iff.mp hx).1
      obtain ⟨a, k1, k2, k3, nn, ha, hta⟩ := tok_obj W hx
      refine wpAny_mono (c_peek MK.CK hf OB F hC W (k := 0) (j := i) (.inl ⟨rfl, rfl⟩) (by omega) (by omega) (by omega) ha) (fun v s' q => ?_) fun _ _ e => e.elim
      obtain ⟨rfl, hk, ho⟩ := q
      exact ⟨tokAV t, st, ads, tok_rep (W.ext hk) hx hxt ha, C.keeps hk ho, Later.ext hk, rfl, h⟩
    · cases h
  · cases r with
    | cons r0 r =>
      cases r
      cases r0 with
      | int _ tk =>
        split at h
        · rename_i t ht
          obtain ⟨x, hi, hx, hxt⟩ := hp t ht
          have hlen := (List.getElem?_eq_some_iff.mp hx).1
          obtain ⟨a, k1, k2, k3, nn, ha, hta⟩ := tok_obj W hx
          refine wpAny_mono (c_peek MK.CK hf OB F hC W (k := Int.negSucc 0) (j := i - 1) (.inr ⟨tk, rfl⟩) (by omega) (by omega) (by omega) ha) (fun v s' q => ?_) fun _ _ e => e.elim
          obtain ⟨rfl, hk, ho⟩ := q
          exact ⟨tokAV t, st, ads, tok_rep (W.ext hk) hx hxt ha, C.keeps hk ho, Later.ext hk, rfl, h⟩
        · cases h
  · cases h

theorem m_looks (MK : MethK G.bs) (h4 : 4 ≤ G.ρ.sz) (O : FrmOk G fr cx) (F : Fr fr.g fr.L s.heap m) (C : Core G.ρ (AllBut G.ρ s ads) st s ads) (hω : G.ρ.wd = some ω) (hC : ω.C = G.cf.C) {f : Addr} (hf : okLooks G.cf.K f = true)
    {vs : List Value} {xs : List AV} {k : KV} (r : RepVs G.ρ ads s.heap vs xs) (h : mLooks xs st k = true) :
    wpAny (model G.prog G.w) fr.A (call (.ref f) (.ref ω.W :: vs)) (PostC G.ρ st.loc s ads k) (Exc G fr) s := by
  obtain ⟨i, W, M, hp, nR⟩ := C.words ω hω
  obtain ⟨z, hz⟩ : ∃ z, G.ρ.sz = z + 2 := ⟨G.ρ.sz - 2, by omega⟩
  have OB : FrB G.bs fr (z + 2) := hz ▸ O.frB
  obtain ⟨fp, Mp, hpk⟩ := MK.peek
  unfold mLooks at h
  split at h
  · rename_i y
    cases r with
    | cons r0 r =>
      cases r
      cases r0 with
      | str ty hy =>
        simp only [List.mem_singleton] at hy
        subst hy
        split at h
        · rename_i b hb
          obtain ⟨t, ht, hv⟩ := looksA_is hb
          obtain ⟨x, hx, hxt⟩ := nthTok_at M ht
          refine wpAny_mono (c_looks MK.CK hf hpk Mp OB F hC W (a := 0) (.inl ⟨rfl, rfl⟩) (by decide) (drop_at hx)) (fun v s' q => ?_) fun _ _ e => e.elim
          obtain ⟨rfl, hk, ho⟩ := q
          rw [looksA_val (rest := st.ws.rest) (n := 0) hv hxt]
          exact ⟨.bool b, st, ads, .bool b, C.keeps hk ho, Later.ext hk, rfl, h⟩
        · cases h
  · rename_i y n
    cases r with
    | cons r0 r =>
      cases r with
      | cons r1 r =>
        cases r
        cases r0 with
        | str ty hy =>
          simp only [List.mem_singleton] at hy
          subst hy
          cases r1 with
          | int _ tk =>
            split at h
            · rename_i b hb
              obtain ⟨t, ht, hv⟩ := looksA_is hb
              obtain ⟨x, hx, hxt⟩ := nthTok_at M ht
              have hlen := (List.getElem?_eq_some_iff.mp (drop_at hx)).1
              have hn : n ≤ 1000000 := by have := W.small.1; omega
              · refine wpAny_mono (c_looks MK.CK hf hpk Mp OB F hC W (a := n) (.inr ⟨tk, rfl⟩) hn (drop_at hx)) (fun v s' q => ?_) fun _ _ e => e.elim
                obtain ⟨rfl, hk, ho⟩ := q
                rw [looksA_val (rest := st.ws.rest) (n := 0) hv hxt]
                exact ⟨.bool b, st, ads, .bool b, C.keeps hk ho, Later.ext hk, rfl, h⟩
            · cases h
  · cases h
end
end Mine

namespace Mine
section
variable {G : Gl} {fr : Frm} {kp : Kp} {cx : Cx} {st : St} {s s' : Shared} {ads : List Addr} {ω : Wd} {i : Nat} {m : Str → Option Value}

theorem R_ne {ρ : Rho} (hω : ρ.wd = some ω) (nR : ω.R ∉ muts ρ ads) : ω.R ≠ ω.D := by rintro q; rw [q] at nR; exact nR (mem_wd hω)

theorem m_take (MK : MethK G.bs) (h4 : 4 ≤ G.ρ.sz) (O : FrmOk G fr cx) (F : Fr fr.g fr.L s.heap m) (new : ∀ a ∈ muts G.ρ ads, fr.g.get? a = none ∧ a ≠ fr.L) (C : Core G.ρ (AllBut G.ρ s ads) st s ads) (hω : G.ρ.wd = some ω) (hC : ω.C = G.cf.C) {f : Addr} (hf : okTake G.cf.K f = true)
    {vs : List Value} {xs : List AV} {k : KV} (r : RepVs G.ρ ads s.heap vs xs) (h : mTake xs st k = true) :
    wpAny (model G.prog G.w) fr.A (call (.ref f) (.ref ω.W :: vs)) (PostC G.ρ st.loc s ads k) (Exc G fr) s := by
  obtain ⟨i, W, M, hp, nR⟩ := C.words ω hω
  obtain ⟨z, hz⟩ : ∃ z, G.ρ.sz = z + 2 := ⟨G.ρ.sz - 2, by omega⟩
  have OB : FrB G.bs fr (z + 2) := hz ▸ O.frB
  obtain ⟨fp, Mp, hpk⟩ := MK.peek
  unfold mTake at h
  split at h
  · cases r
    split at h
    · rename_i t ws' ht
      obtain ⟨rr, hr, hk, rfl⟩ := took_is ht
      rw [hr] at M
      obtain ⟨x, l', hd, hx, M'⟩ := tok_end M
      obtain ⟨hti, _⟩ := drop_cons hd
      obtain ⟨ti, td, hD⟩ := W.dict
      refine wpAny_mono (c_take MK.CK hf hpk Mp OB F (new _ (mem_wd hω)).1 (new _ (mem_wd hω)).2 hC (R_ne hω nR) W hti hk) (fun v s' q => ?_) fun _ _ e => e.elim
      obtain ⟨⟨a, ha, rfl⟩, hkb, W', ho⟩ := q
      obtain ⟨C', l⟩ := C.step hω hd hx M' nR hD dict_notT hkb W' ho
      exact ⟨tokAV t, _, ads, tok_rep W' hti hx ha, C', l, rfl, h⟩
    · cases h
  · cases h

theorem m_expect (MK : MethK G.bs) (h4 : 4 ≤ G.ρ.sz) (O : FrmOk G fr cx) (F : Fr fr.g fr.L s.heap m) (new : ∀ a ∈ muts G.ρ ads, fr.g.get? a = none ∧ a ≠ fr.L) (C : Core G.ρ (AllBut G.ρ s ads) st s ads) (hω : G.ρ.wd = some ω) (hC : ω.C = G.cf.C) {f : Addr} (hf : okExpect G.cf.K f = true)
    {vs : List Value} {xs : List AV} {k : KV} (r : RepVs G.ρ ads s.heap vs xs) (h : mExpect xs st k = true) :
    wpAny (model G.prog G.w) fr.A (call (.ref f) (.ref ω.W :: vs)) (PostC G.ρ st.loc s ads k) (Exc G fr) s := by
  obtain ⟨i, W, M, hp, nR⟩ := C.words ω hω
  obtain ⟨z, hz⟩ : ∃ z, G.ρ.sz = z + 3 := ⟨G.ρ.sz - 3, by omega⟩
  have OB : FrB G.bs fr (z + 3) := hz ▸ O.frB
  obtain ⟨fp, Mp, hpk⟩ := MK.peek
  obtain ⟨fl, Ml, hlk⟩ := MK.looks
  obtain ⟨ft, Mt', htk⟩ := MK.take
  unfold mExpect at h
  split at h
  · rename_i y
    cases r with
    | cons r0 r =>
      cases r
      cases r0 with
      | @str yv _ ty hy =>
        simp only [List.mem_singleton] at hy
        subst hy
        split at h
        · rename_i hb
          obtain ⟨t, ht, hv⟩ := looksA_is hb
          split at h
          · rename_i t' ws' htk'
            obtain ⟨rr, hr, hk, rfl⟩ := took_is htk'
            rw [hr] at M ht
            cases ht
            obtain ⟨x, l', hd, hx, M'⟩ := tok_end M
            obtain ⟨hti, _⟩ := drop_cons hd
            obtain ⟨ti, td, hD⟩ := W.dict
            rcases hv with ⟨h1, h2⟩ | ⟨_, h2⟩
            · have := sameOne_is h2 x hx yv (by simp)
              have hxy : x = yv := by simpa using this
              subst hxy
              refine wpAny_mono (c_expect MK.CK hf hlk htk hpk Ml Mt' Mp OB F (new _ (mem_wd hω)).1 (new _ (mem_wd hω)).2 hC (R_ne hω nR) W hti h1) (fun v s' q => ?_) fun _ _ e => e.elim
              obtain ⟨⟨a, ha, rfl⟩, hkb, W', ho⟩ := q
              obtain ⟨C', l⟩ := C.step hω hd hx M' nR hD dict_notT hkb W' ho
              exact ⟨tokAV t, _, ads, tok_rep W' hti hx ha, C', l, rfl, h⟩
            · cases h2
          · cases h
        · cases h
  · cases h

theorem m_name (MK : MethK G.bs) (h4 : 4 ≤ G.ρ.sz) (O : FrmOk G fr cx) (F : Fr fr.g fr.L s.heap m) (new : ∀ a ∈ muts G.ρ ads, fr.g.get? a = none ∧ a ≠ fr.L) (C : Core G.ρ (AllBut G.ρ s ads) st s ads) (hω : G.ρ.wd = some ω) (hC : ω.C = G.cf.C) {f : Addr} (hf : okName G.cf.K f = true)
    {vs : List Value} {xs : List AV} {k : KV} (r : RepVs G.ρ ads s.heap vs xs) (h : mName G.cf xs st k = true) :
    wpAny (model G.prog G.w) fr.A (call (.ref f) (.ref ω.W :: vs)) (PostC G.ρ st.loc s ads k) (Exc G fr) s := by
  obtain ⟨i, W, M, hp, nR⟩ := C.words ω hω
  obtain ⟨z, hz⟩ : ∃ z, G.ρ.sz = z + 2 := ⟨G.ρ.sz - 2, by omega⟩
  have OB : FrB G.bs fr (z + 2) := hz ▸ O.frB
  obtain ⟨fp, Mp, hpk⟩ := MK.peek
  unfold mName at h
  split at h
  · cases r
    split at h
    · rename_i t ws' kw ht hkw
      obtain ⟨rr, hr, hk, rfl⟩ := took_is ht
      rw [hr] at M
      obtain ⟨x, l', hd, hx, M'⟩ := tok_end M
      obtain ⟨hti, _⟩ := drop_cons hd
      obtain ⟨ti, td, hD⟩ := W.dict
      split at h
      · rename_i hn ha
        have hn := eqS_iff.mp hn
        have hin := amid_true ha x hx
        unfold kwds at hkw
        split at hkw
        · rename_i kl hg
          unfold globA at hg
          split at hg
          · rename_i Kw hK
            refine wpAny_mono (c_name (x := x) MK.CK hf hpk Mp OB F (new _ (mem_wd hω)).1 (new _ (mem_wd hω)).2 hC (R_ne hω nR) W (hn ▸ hti) hK hg hkw hin) (fun v s' q => ?_) fun _ _ e => e.elim
            obtain ⟨⟨T, t1, t2, rfl, hT⟩, hkb, W', ho⟩ := q
            obtain ⟨C', l⟩ := C.step hω hd hx M' nR hD dict_notT hkb W' ho
            refine ⟨_, _, ads, .tup hT rfl fun i v y h1 h2 => ?_, C', l, rfl, h⟩
            match i, h1, h2 with
            | 0, h1, h2 => cases h1; cases h2; exact .str _ hx
            | 1, h1, h2 => cases h1; cases h2; exact .num _ _
          · cases hg
        · cases hkw
      · cases h
    · cases h
  · cases h

/-- the levels are changed -/
theorem Core.lvl {ρ : Rho} (C : Core ρ (AllBut ρ s ads) st s ads) (hω : ρ.wd = some ω) {l mp : Nat} {d : Nat} (W : WordsAt ω s.heap i d) (M : Match ρ st.ws.rest (ω.toks.drop i)) (hp : ∀ t, st.ws.prev = some t → ∃ x, 0 < i ∧ ω.toks[i - 1]? = some (t.kind, x) ∧ x ∈ t.texts) (nR : ω.R ∉ muts ρ ads)
    (hk : KeepsBut ω.D s.heap s'.heap) (W' : WordsAt ω s'.heap i (ρ.d0 + l)) (ho : OutAs s s') (hl : ρ.d0 + l ≤ 60) (hmp : ρ.d0 + mp ≤ 60) :
    Core ρ (AllBut ρ s ads) ⟨st.loc, st.lists, ⟨st.ws.prev, st.ws.rest, l, mp, st.ws.mh⟩⟩ s' ads ∧ Later ads s.heap ads s'.heap := by
  obtain ⟨ti, td, hD⟩ := W.dict
  refine C.but1 (st' := ⟨st.loc, st.lists, ⟨st.ws.prev, st.ws.rest, l, mp, st.ws.mh⟩⟩) (mem_wd hω) (wd_out C.apart hω) hD dict_notT hk rfl (fun ω' e => ?_) (fun S e => (C.src S e).mono fun o q => hk S o q (wd_src C.apart hω e)) ⟨hl, hmp, C.lv.2.2⟩ ⟨ho.1.trans C.out.1, ho.2.1.trans C.out.2.1, ho.2.2.trans C.out.2.2⟩
  rw [hω] at e; cases e
  exact ⟨i, W', M, hp, nR⟩

theorem m_deeper (MK : MethK G.bs) (h4 : 4 ≤ G.ρ.sz) (O : FrmOk G fr cx) (F : Fr fr.g fr.L s.heap m) (new : ∀ a ∈ muts G.ρ ads, fr.g.get? a = none ∧ a ≠ fr.L) (C : Core G.ρ (AllBut G.ρ s ads) st s ads) (hω : G.ρ.wd = some ω) (hC : ω.C = G.cf.C) {f : Addr} (hf : okDeeper G.cf.K f = true)
    {vs : List Value} {xs : List AV} {k : KV} (r : RepVs G.ρ ads s.heap vs xs) (h : mDeeper G.cf xs st k = true) :
    wpAny (model G.prog G.w) fr.A (call (.ref f) (.ref ω.W :: vs)) (PostC G.ρ st.loc s ads k) (Exc G fr) s := by
  obtain ⟨i, W, M, hp, nR⟩ := C.words ω hω
  obtain ⟨z, hz⟩ : ∃ z, G.ρ.sz = z + 4 := ⟨G.ρ.sz - 4, by omega⟩
  have OB : FrB G.bs fr (z + 4) := hz ▸ O.frB
  obtain ⟨fp, Mp, hpk⟩ := MK.peek
  obtain ⟨fI, FK⟩ := MK.FK
  obtain ⟨tM, hM⟩ := MK.md
  unfold mDeeper at h
  split at h
  · cases r
    split at h
    · rename_i hb
      have hb := Nat.le_of_ble_eq_true hb
      refine wpAny_mono (c_deeper MK.CK FK hf hpk Mp MK.gf MK.gk hM OB F (new _ (mem_wd hω)).1 (new _ (mem_wd hω)).2 hC (R_ne hω nR) W) (fun v s' q => ?_) fun x s' q => ?_
      · obtain ⟨rfl, hd, hkb, W', ho⟩ := q
        have hmp : G.ρ.d0 + maxN st.ws.mp (st.ws.lvl + 1) ≤ 60 := by
          have : maxN st.ws.mp (st.ws.lvl + 1) = st.ws.mp ∨ maxN st.ws.mp (st.ws.lvl + 1) = st.ws.lvl + 1 := by unfold maxN; split <;> simp
          rcases this with e | e
          · rw [e]; exact C.lv.2.1
          · rw [e]; omega
        obtain ⟨C', l⟩ := C.lvl hω (l := st.ws.lvl + 1) W M hp nR hkb W' ho (by omega) hmp
        exact ⟨.none, _, ads, .none, C', l, rfl, h⟩
      · obtain ⟨hd, e, a0, rfl, hfl, hu, ho⟩ := q
        exact ⟨.inl (by omega), e, a0, rfl, hfl, hu, ho.1.trans C.out.1, ho.2.1.trans C.out.2.1, ho.2.2.trans C.out.2.2⟩
    · cases h
  · cases h

theorem m_shallower (MK : MethK G.bs) (h4 : 4 ≤ G.ρ.sz) (O : FrmOk G fr cx) (F : Fr fr.g fr.L s.heap m) (new : ∀ a ∈ muts G.ρ ads, fr.g.get? a = none ∧ a ≠ fr.L) (C : Core G.ρ (AllBut G.ρ s ads) st s ads) (hω : G.ρ.wd = some ω) (hC : ω.C = G.cf.C) {f : Addr} (hf : okShallower G.cf.K f = true)
    {vs : List Value} {xs : List AV} {k : KV} (r : RepVs G.ρ ads s.heap vs xs) (h : mShallower xs st k = true) :
    wpAny (model G.prog G.w) fr.A (call (.ref f) (.ref ω.W :: vs)) (PostC G.ρ st.loc s ads k) (Exc G fr) s := by
  obtain ⟨i, W, M, hp, nR⟩ := C.words ω hω
  obtain ⟨z, hz⟩ : ∃ z, G.ρ.sz = z + 1 := ⟨G.ρ.sz - 1, by omega⟩
  have OB : FrB G.bs fr (z + 1) := hz ▸ O.frB
  unfold mShallower at h
  split at h
  · cases r
    split at h
    · cases h
    · rename_i l hl
      have W1 : WordsAt ω s.heap i (G.ρ.d0 + l + 1) := by have := W; rw [hl] at this; exact this
      refine wpAny_mono (c_shallower MK.CK hf OB F (new _ (mem_wd hω)).1 (new _ (mem_wd hω)).2 hC (R_ne hω nR) W1) (fun v s' q => ?_) fun _ _ e => e.elim
      obtain ⟨rfl, hkb, W', ho⟩ := q
      have := C.lv.1
      obtain ⟨C', l'⟩ := C.lvl hω (l := l) W M hp nR hkb W' ho (by omega) C.lv.2.1
      exact ⟨.none, _, ads, .none, C', l', rfl, h⟩
  · cases h

theorem which_is (x : Str) : (whichMe x = .looks → x = "looks") ∧ (whichMe x = .peek → x = "peek") ∧ (whichMe x = .take → x = "take") ∧ (whichMe x = .expect → x = "expect") ∧ (whichMe x = .name → x = "name") ∧ (whichMe x = .deeper → x = "deeper") ∧ (whichMe x = .shallower → x = "shallower") := by
  unfold whichMe
  split
  · rename_i h; rw [eqS_iff.mp h]; refine ⟨?_, ?_, ?_, ?_, ?_, ?_, ?_⟩ <;> intro q <;> first | rfl | cases q
  · split
    · rename_i h; rw [eqS_iff.mp h]; refine ⟨?_, ?_, ?_, ?_, ?_, ?_, ?_⟩ <;> intro q <;> first | rfl | cases q
    · split
      · rename_i h; rw [eqS_iff.mp h]; refine ⟨?_, ?_, ?_, ?_, ?_, ?_, ?_⟩ <;> intro q <;> first | rfl | cases q
      · split
        · rename_i h; rw [eqS_iff.mp h]; refine ⟨?_, ?_, ?_, ?_, ?_, ?_, ?_⟩ <;> intro q <;> first | rfl | cases q
        · split
          · rename_i h; rw [eqS_iff.mp h]; refine ⟨?_, ?_, ?_, ?_, ?_, ?_, ?_⟩ <;> intro q <;> first | rfl | cases q
          · split
            · rename_i h; rw [eqS_iff.mp h]; refine ⟨?_, ?_, ?_, ?_, ?_, ?_, ?_⟩ <;> intro q <;> first | rfl | cases q
            · split
              · rename_i h; rw [eqS_iff.mp h]; refine ⟨?_, ?_, ?_, ?_, ?_, ?_, ?_⟩ <;> intro q <;> first | rfl | cases q
              · refine ⟨?_, ?_, ?_, ?_, ?_, ?_, ?_⟩ <;> intro q <;> cases q

theorem methHyp (MK : MethK G.bs) (h4 : 4 ≤ G.ρ.sz) (hcls : ∀ ω, G.ρ.wd = some ω → ω.C = G.cf.C) : MethHyp G := by
  refine ⟨fun ω hω => by rw [hcls ω hω]; exact ⟨MK.CK.ga, MK.CK.gb⟩, fun ω x hω hx => ?_, fun d hd => ?_⟩
  · have hC := hcls ω hω
    obtain ⟨w1, w2, w3, w4, w5, w6, w7⟩ := which_is x
    cases hw : whichMe x with
    | looks =>
      obtain rfl := w1 hw
      obtain ⟨f, M, hf⟩ := MK.looks
      refine ⟨f, hC ▸ M.find, M.type, M.keep, fun _ _ _ _ => rfl, fun {fr cx st s ads vs xs k mm} h O F new C r => ?_⟩
      exact m_looks MK h4 O F C hω hC hf r (by unfold meth at h; rw [hw] at h; exact h)
    | peek =>
      obtain rfl := w2 hw
      obtain ⟨f, M, hf⟩ := MK.peek
      refine ⟨f, hC ▸ M.find, M.type, M.keep, fun _ _ _ _ => rfl, fun {fr cx st s ads vs xs k mm} h O F new C r => ?_⟩
      exact m_peek MK h4 O F C hω hC hf r (by unfold meth at h; rw [hw] at h; exact h)
    | take =>
      obtain rfl := w3 hw
      obtain ⟨f, M, hf⟩ := MK.take
      refine ⟨f, hC ▸ M.find, M.type, M.keep, fun _ _ _ _ => rfl, fun {fr cx st s ads vs xs k mm} h O F new C r => ?_⟩
      exact m_take MK h4 O F new C hω hC hf r (by unfold meth at h; rw [hw] at h; exact h)
    | expect =>
      obtain rfl := w4 hw
      obtain ⟨f, M, hf⟩ := MK.expect
      refine ⟨f, hC ▸ M.find, M.type, M.keep, fun _ _ _ _ => rfl, fun {fr cx st s ads vs xs k mm} h O F new C r => ?_⟩
      exact m_expect MK h4 O F new C hω hC hf r (by unfold meth at h; rw [hw] at h; exact h)
    | name =>
      obtain rfl := w5 hw
      obtain ⟨f, M, hf⟩ := MK.name
      refine ⟨f, hC ▸ M.find, M.type, M.keep, fun _ _ _ _ => rfl, fun {fr cx st s ads vs xs k mm} h O F new C r => ?_⟩
      exact m_name MK h4 O F new C hω hC hf r (by unfold meth at h; rw [hw] at h; exact h)
    | deeper =>
      obtain rfl := w6 hw
      obtain ⟨f, M, hf⟩ := MK.deeper
      refine ⟨f, hC ▸ M.find, M.type, M.keep, fun _ _ _ _ => rfl, fun {fr cx st s ads vs xs k mm} h O F new C r => ?_⟩
      exact m_deeper MK h4 O F new C hω hC hf r (by unfold meth at h; rw [hw] at h; exact h)
    | shallower =>
      obtain rfl := w7 hw
      obtain ⟨f, M, hf⟩ := MK.shallower
      refine ⟨f, hC ▸ M.find, M.type, M.keep, fun _ _ _ _ => rfl, fun {fr cx st s ads vs xs k mm} h O F new C r => ?_⟩
      exact m_shallower MK h4 O F new C hω hC hf r (by unfold meth at h; rw [hw] at h; exact h)
    | other => exact (hx hw).elim
  · refine MK.lev d ?_
    unfold globRef at hd
    split at hd
    · rename_i a ha; cases hd; exact ha
    · cases hd
end
end Mine

namespace Mine

def Bs.cf (B : Bs) (top holeTop : Nat) (blk : Bool) : Cf := ⟨B.K, B.C, B.fExpr, B.fBlock, B.fTake, top, holeTop, blk⟩
/-- what is asked where a def has read -/
def endsAt (mp mh : Nat) (_ : AV) (st : St) : Bool := match st.ws.rest with
  | [.tok _] => Nat.beq st.ws.lvl 0 && Nat.beq st.ws.mh mh && Nat.ble mp st.ws.mp
  | _ => false
def st0 (items : List TK) : St := ⟨[], [], ⟨none, items, 0, 0, 0⟩⟩
def sc0 : Scope := ⟨.function, [], false, false, []⟩
def follows : List Wo := [⟨Str.ofString "sign", followS⟩, ⟨Str.ofString "end", [Str.ofString ""]⟩]

theorem run_scope {cf : Cf} {n cb : Nat} {sc sc' : Scope} {f : Addr} {vs : List AV} {k : KV} {st : St} (h : run cf n (.call f vs k) ⟨sc, cb⟩ st = true) : run cf n (.call f vs k) ⟨sc', cb⟩ st = true := by
  cases n with
  | zero => cases h
  | succ n => exact h

structure HoleOk (B : Bs) (inner : List (Str × Str)) (blk : Bool) (e sz : Nat) : Prop where
  ex : inner ≠ [] → ReadsBy B B.fExpr true inner e sz
  bl : inner ≠ [] → blk = true → 1 ≤ e ∧ ReadsBy B B.fBlock false inner (e - 1) sz

theorem follows_at {k x : Str} (h : FollW k x) : ∃ fo ∈ follows, fo.kind = k ∧ x ∈ fo.texts := by
  rcases h with ⟨rfl, h⟩ | ⟨rfl, rfl⟩
  · exact ⟨_, .head _, rfl, h⟩
  · exact ⟨_, .tail _ (.head _), rfl, .head _⟩

theorem reads_of_run {B : Bs} (MK : MethK B) {f : Addr} {flag : Bool} {inner full : List (Str × Str)} {items : List TK} {blk : Bool} {e sz top holeTop mp mh n e' : Nat} (HO : HoleOk B inner blk e sz) (h4 : 4 ≤ sz)
    (hM : ∀ ρ : Rho, ρ.inner = inner → ρ.blk = blk → ∀ r l, Match ρ r l → Match ρ (items ++ r) (full ++ l))
    (hr : ∀ fo ∈ follows, run (B.cf top holeTop blk) n (.call f [.words] (endsAt mp mh)) ⟨sc0, 40⟩ (st0 (items ++ [.tok fo])) = true ∧
      (flag = true → run (B.cf top holeTop blk) n (.call f [.words, .bool false] (endsAt mp mh)) ⟨sc0, 40⟩ (st0 (items ++ [.tok fo])) = true))
    (hN : ∀ d0, d0 + mp ≤ 60 → (mh = 0 ∨ d0 + (mh - 1) + e ≤ 60) → d0 + e' ≤ 60) (hX : ∀ d0, d0 ≤ 60 → 60 < d0 + top ∨ 60 < d0 + holeTop + e → 60 < d0 + e') :
    ReadsBy B f flag full e' (40 + sz) := by
  intro fr ω s i d m vs O F hD0 hDL hRD hC W hfo hd hvs
  obtain ⟨k, x, post, hdrop, hfw⟩ := hfo
  obtain ⟨fo, hfo, rfl, hxf⟩ := follows_at hfw
  obtain ⟨hr1, hr2⟩ := hr fo hfo
  let ρ : Rho := ⟨some ω, none, inner, [], d, 0, blk, e, sz, s, post⟩
  let G : Gl := ⟨B.prog, B.w, B.p, B.loose, B.mg, B.mb, B.cf top holeTop blk, ρ, B.GF⟩
  have hG : G.bs = B := rfl
  have MH : MethHyp G := methHyp (G := G) (hG ▸ MK) h4 fun ω' e => by cases e; exact hC
  have HH : HoleHyp G := ⟨fun ω' e => by cases e; exact hC, fun hi => hG ▸ HO.ex hi, fun hi hb => hG ▸ HO.bl hi hb, fun S e => by cases e⟩
  have O' : FrmOk G fr ⟨fr.scope, 40⟩ := ⟨rfl, O.below, O.X, O.T, O.kind, O.hh, O.dbg, by have := O.room; show fr.A₀.depth + 40 + sz + 20 ≤ recursionLimit; omega, by have := O.units; show fr.A₀.units + 10 * (40 + sz + 20) ≤ cLine; omega, Nat.zero_le _⟩
  have hm : muts ρ [] = [ω.D] := rfl
  have hML : Match ρ (items ++ [.tok fo]) (ω.toks.drop i) := by
    rw [hdrop]
    exact hM ρ rfl rfl _ _ (.tok hxf .nil)
  have C : Core ρ (AllBut ρ s []) (st0 (items ++ [.tok fo])) s [] := by
    refine ⟨⟨rfl, fun i a xs h => by simp at h⟩, fun ω' e => ?_, fun S e => (by cases e), fun b o e => e, by rw [hm]; simp, ⟨hd, hd, .inl rfl⟩, rfl, rfl, rfl⟩
    cases e
    exact ⟨i, W, hML, fun t e => (by cases e), by rw [hm]; simpa using hRD⟩
  have new : ∀ a ∈ muts ρ [], fr.g.get? a = none ∧ a ≠ fr.L := fun a ha => by
    rw [hm] at ha
    simp only [List.mem_singleton] at ha
    subst ha
    exact ⟨hD0, hDL⟩
  have go : ∀ xs, RepVs ρ [] s.heap vs xs → run (B.cf top holeTop blk) n (.call f xs (endsAt mp mh)) ⟨sc0, 40⟩ (st0 (items ++ [.tok fo])) = true →
      wpAny (model B.prog B.w) fr.A (call (.ref f) vs) (fun _ s' => d + e' ≤ 60 ∧ (∀ b o, s.heap.get? b = some o → b ≠ ω.D → s'.heap.get? b = some o) ∧ WordsAt ω s'.heap (i + full.length) d ∧ OutAs s s')
      (fun x s' => 60 < d + e' ∧ FliesTo B fr s x s') s := by
    intro xs r hrun
    refine wpAny_mono ((snd_all MH HH n).call (run_scope hrun) O' F new C r) (fun v s' q => ?_) fun x s' q => ?_
    · obtain ⟨y, st', ads', _, C', l, _, hk⟩ := q
      unfold endsAt at hk
      split at hk
      · rename_i t hrest
        simp only [Bool.and_eq_true] at hk
        obtain ⟨⟨h1, h2⟩, h3⟩ := hk
        have h1 := Nat.eq_of_beq_eq_true h1
        have h2 := Nat.eq_of_beq_eq_true h2
        have h3 := Nat.le_of_ble_eq_true h3
        obtain ⟨i', W', M', _, _⟩ := C'.words ω rfl
        have lv := C'.lv
        rw [h1] at W'
        rw [h2] at lv
        rw [hrest] at M'
        obtain ⟨x', l', hd', _, M''⟩ := tok_end M'
        have hlt := W.lt
        have hlt' := W'.lt
        have e1 : (ω.toks.drop i').length = 1 + post.length := by
          rw [hd']
          generalize hz : l' = z at M''
          cases M''
          show post.length + 1 = 1 + post.length
          omega
        have e2 : (ω.toks.drop i).length = full.length + 1 + post.length := by rw [hdrop]; simp; omega
        rw [List.length_drop] at e1 e2
        have ei : i' = i + full.length := by omega
        subst ei
        refine ⟨hN d (by have : d + st'.ws.mp ≤ 60 := lv.2.1; omega) lv.2.2, fun b o e ne => (C'.kept b o ⟨e, by rw [hm]; simpa using ne⟩).1, W', C'.out⟩
      · cases hk
    · obtain ⟨ho, e1, a0, rfl, hfl, hu, hout⟩ := q
      exact ⟨hX d hd ho, e1, a0, rfl, hfl, hu, hout⟩
  rcases hvs with rfl | ⟨hf, rfl⟩
  · exact go [.words] (.cons (.words rfl) .nil) hr1
  · exact go [.words, .bool false] (.cons (.words rfl) (.cons (.bool false) .nil)) (hr2 hf)
end Mine

namespace Mine

theorem run_two {cf : Cf} {n : Nat} {f : Addr} {k : KV} {cx : Cx} {st : St} {fd : FuncData} {a b : Arg} (hf : fnAt cf.K f = some fd) (ha : fd.params.args = [a, b]) (hd : dflts cf.K fd.defaults = some [.bool false]) (hne : Nat.beq f cf.fTake = false)
    (hh : ∀ blk t r, st.ws.rest ≠ .hole blk t :: r) (h : run cf n (.call f [.words] k) cx st = true) : run cf n (.call f [.words, .bool false] k) cx st = true := by
  cases n with
  | zero => cases h
  | succ n =>
    have hl : ∀ vs, leaps cf f vs st = none := by
      intro vs
      unfold leaps
      split
      · rename_i q; exact (hh _ _ _ q).elim
      · rfl
    replace h : stCall cf (run cf n) f [.words] k cx st = true := h
    show stCall cf (run cf n) f [.words, .bool false] k cx st = true
    unfold stCall at h ⊢
    rw [hl, hne] at h
    rw [hl, hne]
    dsimp only at h ⊢
    unfold cPlain at h ⊢
    split at h
    · rename_i cb fd' hcb hfd'
      rw [hf] at hfd'
      cases hfd'
      unfold cFd at h ⊢
      rw [hd, ha] at h
      rw [hd, ha]
      revert h
      cases fdOk cf.K fd <;> cases fd.body <;> exact fun h => h
    · cases h

def refOf (K : Frag) (x : Str) : Addr := match nsIn K mainGlobals x with
  | some (some (.ref a)) => a
  | _ => 0
def cfOf (K : Frag) (top holeTop : Nat) (blk : Bool) : Cf := ⟨K, refOf K "Words", refOf K "read_expr", refOf K "read_block_like", refOf K "_law_take", top, holeTop, blk⟩
def fuel : Nat := 400
def signC : List Nat := [40, 41, 91, 93, 123, 125, 44, 59, 58, 61, 43, 45, 42, 33, 38, 46]
def memN (a : Nat) : List Nat → Bool
  | [] => false
  | b :: r => match Nat.beq a b with
    | true => true
    | false => memN a r
def kindOf (x : Str) : Str := match x.cps.toList with
  | c :: _ => match memN c signC with
    | true => Str.ofString "sign"
    | false => Str.ofString "name"
  | [] => Str.ofString "name"
def wordsOf (l : List Str) : List (Str × Str) := l.map fun x => (kindOf x, x)
def tksOf (blk : Bool) (first : Wo) : List AV → Option (List TK)
  | [] => some []
  | .str [x] :: r => match tksOf blk first r with
    | some l => some (.tok ⟨kindOf x, [x]⟩ :: l)
    | none => none
  | .inner :: r => match tksOf blk first r with
    | some l => some (.hole blk first :: l)
    | none => none
  | _ => none
/-- the texts that items stand for -/
def spell (inner : List Str) : List AV → List Str
  | [] => []
  | .str [x] :: r => x :: spell inner r
  | .inner :: r => inner ++ spell inner r
  | _ :: r => spell inner r
def firsts (blk : Bool) : List Wo := match blk with
  | false => [⟨Str.ofString "name", [Str.ofString "a", Str.ofString "f", Str.ofString "S", Str.ofString "return", Str.ofString "break"]⟩, ⟨Str.ofString "sign", [Str.ofString "[", Str.ofString "-", Str.ofString "!", Str.ofString "*"]⟩]
  | true => [⟨Str.ofString "name", [Str.ofString "match", Str.ofString "loop", Str.ofString "if", Str.ofString "while", Str.ofString "for"]⟩, ⟨Str.ofString "sign", [Str.ofString "{"]⟩]
def all2 {α : Type} (p : α → Bool) : List α → Bool
  | [] => true
  | x :: r => match p x with
    | true => all2 p r
    | false => false
theorem all2_is {α : Type} {p : α → Bool} : ∀ {l : List α}, all2 p l = true → ∀ x ∈ l, p x = true
  | [], _, x, hx => by cases hx
  | y :: r, h, x, hx => by
    unfold all2 at h
    split at h
    · rcases List.mem_cons.mp hx with rfl | hx
      · assumption
      · exact all2_is h x hx
    · cases h
def least (blk : Bool) : Nat := match blk with
  | true => 3
  | false => 1
def startsAt : List AV → Option Str
  | .str [x] :: _ => some x
  | _ => none
/-- a word that stands first is one of those that are looked for -/
def firstOk (b : Bool) (its : List AV) : Bool := match startsAt its with
  | some x => inS x (((firsts b).filter fun t => eqS t.kind (kindOf x)).flatMap Wo.texts)
  | none => false
def noHole : List TK → Bool
  | .hole _ _ :: _ => false
  | _ => true
def reads (K : Frag) (f : Addr) (blk : Bool) (top holeTop mp mh : Nat) (items : List TK) : Bool :=
  all2 (fun fo => run (cfOf K top holeTop blk) fuel (.call f [.words] (endsAt mp mh)) ⟨sc0, 40⟩ (st0 (items ++ [.tok fo]))) follows
def others : List AV → Nat
  | [] => 0
  | .inner :: r => others r
  | _ :: r => others r + 1
def inners : List AV → Nat
  | [] => 0
  | .inner :: r => inners r + 1
  | _ :: r => inners r
/-- a form with a hole: it is read c levels deeper than what stands in the hole -/
def formFine (K : Frag) (blk : Bool) (first : Wo) (its : List AV) (c : Nat) (b : Bool) : Bool := match tksOf blk first its with
  | some tks => noHole tks && firstOk b its && Nat.ble (least b) (c + least blk) && Nat.ble (others its) 20 && Nat.ble (inners its) 1 && reads K (refOf K "read_expr") blk (c + least blk) c 0 (c + 1) tks && (match b with
    | true => Nat.ble 1 c && reads K (refOf K "read_block_like") blk (c + least blk - 1) (c - 1) 0 c tks
    | false => true)
  | none => false
/-- an expression without a hole, c levels deep -/
def baseFine (K : Frag) (its : List AV) (c : Nat) (b : Bool) : Bool := match tksOf false ⟨Str.ofString "", []⟩ its with
  | some tks => noHole tks && firstOk b its && Nat.ble (least b) c && Nat.ble (others its) 20 && Nat.beq (inners its) 0 && reads K (refOf K "read_expr") false c 0 c 0 tks && (match b with
    | true => reads K (refOf K "read_block_like") false (c - 1) 0 (c - 1) 0 tks
    | false => true)
  | none => false

structure PartOk (B : Bs) (told : List Str) (e : Nat) (b : Bool) (sz : Nat) : Prop where
  start : ∃ t ∈ firsts b, ∃ x r, told = x :: r ∧ t.kind = kindOf x ∧ x ∈ t.texts
  deep : least b ≤ e
  read : HoleOk B (wordsOf told) b e sz

/-- the names of the text that are called by hand -/
structure BsOk (B : Bs) : Prop where
  C : B.C = refOf B.K "Words"
  ex : B.fExpr = refOf B.K "read_expr"
  bl : B.fBlock = refOf B.K "read_block_like"
  tk : B.fTake = refOf B.K "_law_take"
  two : ∃ fd a b, fnAt B.K B.fExpr = some fd ∧ fd.params.args = [a, b] ∧ dflts B.K fd.defaults = some [.bool false]
  ne : Nat.beq B.fExpr B.fTake = false
theorem cf_is {B : Bs} (H : BsOk B) (top holeTop : Nat) (blk : Bool) : B.cf top holeTop blk = cfOf B.K top holeTop blk := by
  unfold Bs.cf cfOf
  rw [H.C, H.ex, H.bl, H.tk]

theorem match_items {ρ : Rho} {inner : List Str} {blk : Bool} {first : Wo} (hi : ρ.inner = wordsOf inner) (hb : ρ.blk = blk) (hf : ∃ x r, inner = x :: r ∧ first.kind = kindOf x ∧ x ∈ first.texts) : ∀ {its : List AV} {tks r : List TK} {l : List (Str × Str)},
    tksOf blk first its = some tks → Match ρ r l → Match ρ (tks ++ r) (wordsOf (spell inner its) ++ l) := by
  intro its
  induction its with
  | nil => intro tks r l h M; cases h; exact M
  | cons y its ih =>
    intro tks r l h M
    unfold tksOf at h
    split at h
    · rename_i e; cases e
    · rename_i x r' e
      cases e
      split at h
      · rename_i l' hl
        cases h
        show Match ρ (.tok ⟨kindOf x, [x]⟩ :: (l' ++ r)) ((kindOf x, x) :: (wordsOf (spell inner its) ++ l))
        exact .tok (t := ⟨kindOf x, [x]⟩) (.head _) (ih hl M)
      · cases h
    · rename_i r' e
      cases e
      split at h
      · rename_i l' hl
        cases h
        obtain ⟨x, r0, rfl, hk, hx⟩ := hf
        show Match ρ (.hole blk first :: (l' ++ r)) (wordsOf ((x :: r0) ++ spell (x :: r0) its) ++ l)
        have : wordsOf ((x :: r0) ++ spell (x :: r0) its) ++ l = ρ.inner ++ (wordsOf (spell (x :: r0) its) ++ l) := by rw [hi]; simp [wordsOf]
        rw [this, ← hb]
        exact .hole (i := wordsOf r0) (by rw [hi, hk]; rfl) hx (ih hl M)
      · cases h
    · cases h
theorem match_plain {ρ : Rho} {blk : Bool} {first : Wo} : ∀ {its : List AV} {tks r : List TK} {l : List (Str × Str)}, inners its = 0 →
    tksOf blk first its = some tks → Match ρ r l → Match ρ (tks ++ r) (wordsOf (spell [] its) ++ l) := by
  intro its
  induction its with
  | nil => intro tks r l _ h M; cases h; exact M
  | cons y its ih =>
    intro tks r l hn h M
    unfold tksOf at h
    split at h
    · rename_i e; cases e
    · rename_i x r' e
      cases e
      split at h
      · rename_i l' hl
        cases h
        show Match ρ (.tok ⟨kindOf x, [x]⟩ :: (l' ++ r)) ((kindOf x, x) :: (wordsOf (spell [] its) ++ l))
        exact .tok (t := ⟨kindOf x, [x]⟩) (.head _) (ih hn hl M)
      · cases h
    · rename_i r' e
      cases e
      cases hn
    · cases h

theorem firstOk_is {b : Bool} {its : List AV} {inner : List Str} (h : firstOk b its = true) : ∃ t ∈ firsts b, ∃ x r, spell inner its = x :: r ∧ t.kind = kindOf x ∧ x ∈ t.texts := by
  unfold firstOk at h
  split at h
  · rename_i x hx
    have h := inS_iff.mp h
    simp only [List.mem_flatMap, List.mem_filter] at h
    obtain ⟨t, ⟨ht, hk⟩, hxt⟩ := h
    unfold startsAt at hx
    split at hx
    · cases hx
      exact ⟨t, ht, x, _, rfl, eqS_iff.mp hk, hxt⟩
    · cases hx
  · cases h

theorem noHole_is {tks : List TK} {fo : Wo} (h : noHole tks = true) : ∀ blk t r, (st0 (tks ++ [.tok fo])).ws.rest ≠ .hole blk t :: r := by
  intro blk t r q
  cases tks with
  | nil => cases q
  | cons y l =>
    have : y = .hole blk t := by
      have := congrArg List.head? (show (y :: l) ++ [.tok fo] = .hole blk t :: r from q)
      simpa using this
    subst this
    cases h

/-- a form makes of a part a part -/
theorem form_step {B : Bs} (MK : MethK B) (H : BsOk B) {inner : List Str} {e sz : Nat} {blk b : Bool} {its : List AV} {c : Nat} (P : PartOk B inner e blk sz) (h4 : 4 ≤ sz) (hf : ∀ first ∈ firsts blk, formFine B.K blk first its c b = true) :
    PartOk B (spell inner its) (c + e) b (40 + sz) := by
  obtain ⟨first, hfirst, x, r, hx, hk, hxt⟩ := P.start
  have h := hf first hfirst
  unfold formFine at h
  split at h
  · rename_i tks htks
    simp only [Bool.and_eq_true] at h
    obtain ⟨⟨⟨⟨⟨⟨h1, h2⟩, h3⟩, h5⟩, h6⟩, h7⟩, h8⟩ := h
    have h3 := Nat.le_of_ble_eq_true h3
    have hd := P.deep
    obtain ⟨fd, a1, a2, f1, f2, f3⟩ := H.two
    have hM : ∀ ρ : Rho, ρ.inner = wordsOf inner → ρ.blk = blk → ∀ r l, Match ρ r l → Match ρ (tks ++ r) (wordsOf (spell inner its) ++ l) := fun ρ hi hb r' l M => match_items hi hb ⟨x, r, hx, hk, hxt⟩ htks M
    refine ⟨firstOk_is h2, by omega, fun _ => ?_, fun _ hbt => ?_⟩
    · refine reads_of_run (n := fuel) (top := c + least blk) (holeTop := c) (mp := 0) (mh := c + 1) MK P.read h4 hM (fun fo hfo => ?_) (fun d0 _ hm => ?_) (fun d0 _ ho => ?_)
      · have := all2_is h7 fo hfo
        rw [← cf_is H, ← H.ex] at this
        exact ⟨this, fun _ => run_two f1 f2 f3 H.ne (noHole_is h1) this⟩
      · rcases hm with hm | hm <;> omega
      · rcases ho with ho | ho <;> omega
    · subst hbt
      simp only [Bool.and_eq_true] at h8
      have h9 := Nat.le_of_ble_eq_true h8.1
      refine ⟨by omega, ?_⟩
      refine reads_of_run (n := fuel) (top := c + least blk - 1) (holeTop := c - 1) (mp := 0) (mh := c) MK P.read h4 hM (fun fo hfo => ?_) (fun d0 _ hm => ?_) (fun d0 _ ho => ?_)
      · have := all2_is h8.2 fo hfo
        rw [← cf_is H, ← H.bl] at this
        exact ⟨this, fun q => by cases q⟩
      · rcases hm with hm | hm <;> omega
      · rcases ho with ho | ho <;> omega
  · cases h

theorem base_step {B : Bs} (MK : MethK B) (H : BsOk B) {b : Bool} {its : List AV} {c : Nat} (hf : baseFine B.K its c b = true) : PartOk B (spell [] its) c b 44 := by
  unfold baseFine at hf
  split at hf
  · rename_i tks htks
    simp only [Bool.and_eq_true] at hf
    obtain ⟨⟨⟨⟨⟨⟨h1, h2⟩, h3⟩, h5⟩, h6⟩, h7⟩, h8⟩ := hf
    have h3 := Nat.le_of_ble_eq_true h3
    have h6 := Nat.eq_of_beq_eq_true h6
    obtain ⟨fd, a1, a2, f1, f2, f3⟩ := H.two
    have hM : ∀ ρ : Rho, ρ.inner = [] → ρ.blk = false → ∀ r l, Match ρ r l → Match ρ (tks ++ r) (wordsOf (spell [] its) ++ l) := fun ρ _ _ r' l M => match_plain h6 htks M
    have HO : HoleOk B [] false 0 4 := ⟨fun q => (q rfl).elim, fun q => (q rfl).elim⟩
    refine ⟨firstOk_is h2, h3, fun _ => ?_, fun _ hbt => ?_⟩
    · refine reads_of_run (n := fuel) (top := c) (holeTop := 0) (mp := c) (mh := 0) (sz := 4) MK HO (Nat.le_refl _) hM (fun fo hfo => ?_) (fun d0 hm _ => hm) (fun d0 _ ho => ?_)
      · have := all2_is h7 fo hfo
        rw [← cf_is H, ← H.ex] at this
        exact ⟨this, fun _ => run_two f1 f2 f3 H.ne (noHole_is h1) this⟩
      · rcases ho with ho | ho <;> omega
    · subst hbt
      have h9 : 3 ≤ c := h3
      refine ⟨by omega, ?_⟩
      refine reads_of_run (n := fuel) (top := c - 1) (holeTop := 0) (mp := c - 1) (mh := 0) (sz := 4) MK HO (Nat.le_refl _) hM (fun fo hfo => ?_) (fun d0 hm _ => hm) (fun d0 _ ho => ?_)
      · have := all2_is h8 fo hfo
        rw [← cf_is H, ← H.bl] at this
        exact ⟨this, fun q => by cases q⟩
      · rcases ho with ho | ho <;> omega
  · cases hf
end Mine

namespace Mine

def sg (x : Str) : AV := .str [x]
abbrev Ent := List AV × Nat × Bool
/-- the forms around a hole; the levels that they add -/
def formsP : List Ent := [
  ([sg "f", sg "(", sg "a", sg ",", .inner, sg ")"], 1, false), ([sg "[", sg "a", sg ",", .inner, sg "]"], 1, false), ([sg "S", sg "{", sg "x", sg ":", sg "a", sg ",", sg "y", sg ":", .inner, sg "}"], 1, false), ([sg "a", sg "[", .inner, sg "]"], 1, false),
  ([sg "a", sg "=", .inner], 1, false), ([sg "a", sg "+=", .inner], 1, false), ([sg "return", .inner], 1, false), ([sg "break", .inner], 1, false)]
def formsQ : List Ent := [
  ([sg "-", sg "(", .inner, sg ")"], 2, false), ([sg "!", sg "(", .inner, sg ")"], 2, false), ([sg "*", sg "(", .inner, sg ")"], 2, false),
  ([sg "a", sg "+", sg "(", .inner, sg ")"], 2, false), ([sg "a", sg "==", sg "(", .inner, sg ")"], 2, false), ([sg "a", sg "&&", sg "(", .inner, sg ")"], 2, false)]
def formsR (c : Nat) : List Ent := [
  ([sg "{", .inner, sg "}"], c, true), ([sg "loop", sg "{", .inner, sg "}"], c, true), ([sg "if", sg "a", sg "{", sg "a", sg "}", sg "else", sg "{", .inner, sg "}"], c, true), ([sg "match", sg "a", sg "{", sg "_", sg "=>", .inner, sg ",", sg "}"], c, true)]
def formsS : List Ent := [
  ([sg "{", sg "let", sg "x", sg "=", .inner, sg ";", sg "a", sg "}"], 2, true), ([sg "match", sg "a", sg "{", sg "_", sg "if", .inner, sg "=>", sg "a", sg ",", sg "}"], 2, true)]
def formsT : List Ent := [
  ([sg "if", sg "a", sg "{", sg "}", sg "else", sg "if", sg "(", .inner, sg ")", sg "{", sg "}"], 3, true), ([sg "while", sg "(", .inner, sg ")", sg "{", sg "}"], 3, true),
  ([sg "for", sg "x", sg "in", sg "a", sg "..", sg "(", .inner, sg ")", sg "{", sg "}"], 3, true), ([sg "match", sg "(", .inner, sg ")", sg "{", sg "}"], 3, true)]
def rowC (blk : Bool) : Nat := match blk with
  | true => 1
  | false => 2
def forms (blk : Bool) : List Ent := formsP ++ formsQ ++ formsR (rowC blk) ++ formsS ++ formsT
def castB (k : Nat) : Ent := ([sg "a", sg "as"] ++ List.replicate k (sg "&") ++ [sg "u8"], k + 2, false)
def matchB (k : Nat) : Ent := ([sg "match", sg "a", sg "{"] ++ List.replicate k (sg "&") ++ [sg "_", sg "=>", sg "a", sg ",", sg "}"], k + 3, true)
def bases : List Ent := ([sg "a"], 1, false) :: ([0, 1, 2, 3, 4, 5, 6, 7, 8].map castB ++ [0, 1, 2, 3, 4, 5, 6, 7, 8].map matchB)

def eqIts : List AV → List AV → Bool
  | [], [] => true
  | .str [x] :: r, .str [y] :: l => match eqS x y with
    | true => eqIts r l
    | false => false
  | .inner :: r, .inner :: l => eqIts r l
  | _, _ => false
def eqB : Bool → Bool → Bool
  | true, true => true
  | false, false => true
  | _, _ => false
def hasEnt (its : List AV) (c : Nat) (b : Bool) : List Ent → Bool
  | [] => false
  | (i, c', b') :: r => match Nat.beq c c', eqB b b' with
    | true, true => match eqIts its i with
      | true => true
      | false => hasEnt its c b r
    | _, _ => hasEnt its c b r
theorem eqIts_is : ∀ {a b : List AV}, eqIts a b = true → a = b
  | [], [], _ => rfl
  | x :: r, [], h => by
    exfalso
    cases x with
    | str ss =>
      cases ss with
      | nil => cases h
      | cons a t => cases t <;> cases h
    | _ => cases h
  | [], y :: l, h => by cases h
  | x :: r, y :: l, h => by
    unfold eqIts at h
    split at h
    · rename_i e; cases e
    · rename_i e1 e2
      cases e1; cases e2
      split at h
      · rename_i q; rw [eqS_iff.mp q, eqIts_is h]
      · cases h
    · rename_i e1 e2
      cases e1; cases e2
      rw [eqIts_is h]
    · cases h
theorem hasEnt_is {its : List AV} {c : Nat} {b : Bool} : ∀ {l : List Ent}, hasEnt its c b l = true → (its, c, b) ∈ l
  | [], h => by cases h
  | (i, c', b') :: r, h => by
    unfold hasEnt at h
    split at h
    · rename_i q1 q2
      have q1 := Nat.eq_of_beq_eq_true q1
      have q2 : b = b' := by cases b <;> cases b' <;> first | rfl | cases q2
      subst q1; subst q2
      split at h
      · rename_i q; rw [eqIts_is q]; exact .head _
      · exact .tail _ (hasEnt_is h)
    · exact .tail _ (hasEnt_is h)

def kForm (blk : Bool) (v : AV) (st : St) : Bool := match v with
  | .tup [.lst i, .sym (.ofNat c), .bool b] => match nth st.lists i with
    | some its => hasEnt its c b (forms blk)
    | none => false
  | _ => false
def formsRun (K : Frag) (blk : Bool) : Bool :=
  run (cfOf K 0 0 blk) fuel (.call (refOf K "_law_form") [.src, .tup [.lst 0, .sym 0, .bool blk]] (kForm blk)) ⟨sc0, 40⟩ ⟨[], [[.inner]], ⟨none, [], 0, 0, 0⟩⟩
def kBase (v : AV) (st : St) : Bool := match v with
  | .tup [.lst i, .int (.ofNat c), .bool b] => match nth st.lists i with
    | some its => hasEnt its c b bases
    | none => false
  | _ => false
def baseRun (K : Frag) : Bool :=
  run (cfOf K 0 0 false) fuel (.call (refOf K "_law_base") [.src] kBase) ⟨sc0, 40⟩ ⟨[], [], ⟨none, [], 0, 0, 0⟩⟩
def fineAll (K : Frag) (blk : Bool) (l : List Ent) : Bool := all2 (fun x => all2 (fun first => formFine K blk first x.1 x.2.1 x.2.2) (firsts blk)) l
def baseAll (K : Frag) (l : List Ent) : Bool := all2 (fun x => baseFine K x.1 x.2.1 x.2.2) l
end Mine

namespace Mine

/-- values that are texts -/
def StrsAre (vs : List Value) (l : List Str) : Prop := vs.length = l.length ∧ ∀ (i : Nat) v, vs[i]? = some v → ∃ x t, l[i]? = some x ∧ v = .str x t
theorem StrsAre.nil : StrsAre [] [] := ⟨rfl, fun i v h => by simp at h⟩
theorem StrsAre.cons {v : Value} {vs : List Value} {x : Str} {l : List Str} {t : PySem.Tok} (hv : v = .str x t) (h : StrsAre vs l) : StrsAre (v :: vs) (x :: l) := by
  refine ⟨by simp [h.1], fun i w hw => ?_⟩
  cases i with
  | zero => simp at hw; subst hw; exact ⟨x, t, rfl, hv⟩
  | succ i => exact h.2 i w (by simpa using hw)
theorem StrsAre.app {vs us : List Value} {l r : List Str} (h : StrsAre vs l) (k : StrsAre us r) : StrsAre (vs ++ us) (l ++ r) := by
  refine ⟨by simp [h.1, k.1], fun i w hw => ?_⟩
  by_cases hi : i < vs.length
  · rw [List.getElem?_append_left hi] at hw
    obtain ⟨x, t, h1, h2⟩ := h.2 i w hw
    exact ⟨x, t, nth_app h1, h2⟩
  · have hi := Nat.le_of_not_lt hi
    rw [List.getElem?_append_right hi] at hw
    obtain ⟨x, t, h1, h2⟩ := k.2 _ w hw
    exact ⟨x, t, by rw [List.getElem?_append_right (by rw [← h.1]; exact hi), ← h.1]; exact h1, h2⟩

/-- items that are texts or the hole -/
def textual : List AV → Bool
  | [] => true
  | .str [_] :: r => textual r
  | .inner :: r => textual r
  | _ => false
theorem Items.spelt {ρ : Rho} {ads : List Addr} {h : Heap} {inner : List Str} (hi : StrsAre ρ.ivs inner) {vs : List Value} {its : List AV} (r : Items ρ ads h vs its) : textual its = true → StrsAre vs (spell inner its) := by
  induction r with
  | nil => intro _; exact .nil
  | cons q _ ih =>
    intro ht
    cases q with
    | @str x ss t hx =>
      cases ss with
      | nil => cases hx
      | cons y l =>
        cases l with
        | nil =>
          simp only [List.mem_singleton] at hx
          subst hx
          exact .cons rfl (ih ht)
        | cons _ _ => cases ht
    | _ => cases ht
  | inner _ ih => intro ht; exact hi.app (ih ht)

theorem textual_forms : ∀ x ∈ formsP ++ formsQ ++ formsR 0 ++ formsS ++ formsT, textual x.1 = true := by decide
theorem textual_ent (blk : Bool) : ∀ x ∈ forms blk, textual x.1 = true := by cases blk <;> decide
theorem deep_base : ∀ x ∈ bases, x.2.1 ≤ 11 := by decide
theorem deep_form (blk : Bool) : ∀ x ∈ forms blk, x.2.1 ≤ 3 := by cases blk <;> decide
theorem textual_base : ∀ x ∈ bases, textual x.1 = true := by decide

/-- a text that is no void one, and whose first sign tells its kind -/
def signS : Str := Str.ofString "()[]{},;:=+-*!&."
def goodT (x : Str) : Bool := match x.cps.toList with
  | c :: _ => (!(Builtin.Str.occurrences signS ⟨#[c]⟩ 0 signS.length 1).isEmpty) == memN c signC
  | [] => false
def textsGood : List AV → Bool
  | [] => true
  | .str [x] :: r => match goodT x with
    | true => textsGood r
    | false => false
  | _ :: r => textsGood r
theorem spell_good {inner : List Str} (hi : ∀ x ∈ inner, goodT x = true) : ∀ {its : List AV}, textsGood its = true → ∀ x ∈ spell inner its, goodT x = true
  | [], _, x, hx => by cases hx
  | y :: r, h, x, hx => by
    unfold textsGood at h
    split at h
    · rename_i e; cases e
    · rename_i z r' e
      cases e
      split at h
      · rename_i hz
        rcases List.mem_cons.mp (show x ∈ z :: spell inner r from hx) with rfl | hx
        · exact hz
        · exact spell_good hi h x hx
      · cases h
    · rename_i z r' h1 e
      cases e
      cases y with
      | inner =>
        rcases List.mem_append.mp (show x ∈ inner ++ spell inner r from hx) with hx | hx
        · exact hi x hx
        · exact spell_good hi h x hx
      | str l => match l, hx, h1 with
        | [], hx, _ => exact spell_good hi h x hx
        | [z], _, h1 => exact (h1 z rfl).elim
        | _ :: _ :: _, hx, _ => exact spell_good hi h x hx
      | _ => exact spell_good hi h x hx
theorem good_base : ∀ x ∈ bases, textsGood x.1 = true := all2_is (p := fun (x : List AV × Nat × Bool) => textsGood x.1) (by decide +kernel)
theorem good_form (blk : Bool) : ∀ x ∈ forms blk, textsGood x.1 = true := all2_is (p := fun (x : List AV × Nat × Bool) => textsGood x.1) (by cases blk <;> decide +kernel)

structure PartAt (h : Heap) (S P L : Addr) (told : List Str) (e : Nat) (b : Bool) : Prop where
  tup : ∃ t n, h.get? P = some (tupObj [.ref L, .int e t, .bool b] n)
  lst : ∃ us n, h.get? L = some (listObj us n) ∧ StrsAre us told
  ne : L ≠ S
  good : ∀ x ∈ told, goodT x = true

section
variable {B : Bs} {fr : Frm} {s : Shared} {m : Str → Option Value} {S : Addr}

/-- what a drawn part is -/
def Drawn (B : Bs) (fr : Frm) (s : Shared) (S : Addr) (sz : Nat) (len dm : Nat) (off : List Addr) (v : Value) (s' : Shared) : Prop :=
  ∃ P L told e b, v = .ref P ∧ PartAt s'.heap S P L told e b ∧ PartOk B told e b sz ∧ told.length ≤ len ∧ e ≤ dm ∧ fr.g.get? L = none ∧ L ≠ fr.L ∧ SrcAt s'.heap S ∧ (∀ b o, s.heap.get? b = some o → b ≠ S → b ∉ off → s'.heap.get? b = some o) ∧ OutAs s s'

theorem spell_len (inner : List Str) : ∀ its : List AV, (spell inner its).length ≤ others its + inners its * inner.length
  | [] => Nat.zero_le _
  | y :: r => by
    have ih := spell_len inner r
    unfold spell
    split
    · rename_i e; cases e
    · rename_i x r' e
      cases e
      simp only [List.length_cons, others, inners]
      omega
    · rename_i r' e
      cases e
      have hm : (inners r + 1) * inner.length = inners r * inner.length + inner.length := by rw [Nat.add_mul, Nat.one_mul]
      simp only [List.length_append, others, inners]
      omega
    · rename_i r' h1 h2 e
      cases e
      cases y with
      | inner => first | exact (h2 rfl).elim | exact (h1 rfl).elim
      | _ => simp only [others, inners]; omega

theorem off_S {ρ : Rho} (h : ρ.wd = none) (hs : ρ.src = some S) (ads : List Addr) : muts ρ ads = S :: ads := by unfold muts; rw [h, hs]; rfl

theorem new_of {ρ : Rho} {kp : Kp} {st : St} {s s' : Shared} {ads ads' : List Addr} (C : Core ρ (AllBut ρ s ads) st s' ads') (l : Later ads s.heap ads' s'.heap) {a : Addr} (ha : a ∈ ads') (hn : a ∉ ads) : s.heap.get? a = none := by
  obtain ⟨⟨r, rfl⟩, _⟩ := l
  have ha : a ∈ r := (List.mem_append.mp ha).resolve_left hn
  cases q : s.heap.get? a with
  | none => rfl
  | some o =>
    exfalso
    by_cases hm : a ∈ muts ρ ads
    · have := C.apart
      rw [muts_app] at this
      exact (List.nodup_append.mp this).2.2 a hm a ha rfl
    · have := (C.kept a o ⟨q, hm⟩).2
      rw [muts_app] at this
      exact this (List.mem_append.mpr (.inr ha))

theorem c_base {n : Nat} (MK : MethK B) (H : BsOk B) (TB : TakesBy B 20) (hrun : baseRun B.K = true) (hall : baseAll B.K bases = true) (O : FrB B fr 60) (F : Fr fr.g fr.L s.heap m) (hg : fr.g.get? S = none) (hL : S ≠ fr.L) (hS : SrcAt s.heap S) :
    wpAny (model B.prog B.w) fr.A (call (.ref (refOf B.K "_law_base")) [.ref S]) (Drawn B fr s S 44 40 11 []) (fun _ _ => False) s := by
  let ρ : Rho := ⟨none, some S, [], [], 0, 0, false, 0, 20, s, []⟩
  let G : Gl := ⟨B.prog, B.w, B.p, B.loose, B.mg, B.mb, B.cf 0 0 false, ρ, B.GF⟩
  have hG : G.bs = B := rfl
  have hm : ∀ ads, muts ρ ads = S :: ads := fun ads => rfl
  have MH : MethHyp G := methHyp (G := G) (hG ▸ MK) (show 4 ≤ 20 by decide) fun ω' e => by cases e
  have HH : HoleHyp G := ⟨fun ω' e => (by cases e), fun hi => (hi rfl).elim, fun hi => (hi rfl).elim, fun S' e => hG ▸ TB⟩
  have O' : FrmOk G fr ⟨fr.scope, 40⟩ := ⟨rfl, O.below, O.X, O.T, O.kind, O.hh, O.dbg, by have := O.room; show fr.A₀.depth + 40 + 20 + 20 ≤ recursionLimit; omega, by have := O.units; show fr.A₀.units + 10 * (40 + 20 + 20) ≤ cLine; omega, Nat.zero_le _⟩
  have C : Core ρ (AllBut ρ s []) ⟨[], [], ⟨none, [], 0, 0, 0⟩⟩ s [] := by
    refine ⟨⟨rfl, fun i a xs h => by simp at h⟩, fun ω' e => (by cases e), fun S' e => by cases e; exact hS, fun b o e => e, by rw [hm]; simp, ⟨by show 0 ≤ 60; omega, by show 0 ≤ 60; omega, .inl rfl⟩, rfl, rfl, rfl⟩
  have new : ∀ a ∈ muts ρ [], fr.g.get? a = none ∧ a ≠ fr.L := fun a ha => by
    rw [hm] at ha
    simp only [List.mem_singleton] at ha
    subst ha
    exact ⟨hg, hL⟩
  have hrun' : run (B.cf 0 0 false) fuel (.call (refOf B.K "_law_base") [.src] kBase) ⟨fr.scope, 40⟩ ⟨[], [], ⟨none, [], 0, 0, 0⟩⟩ = true := by rw [cf_is H]; exact run_scope hrun
  refine wpAny_mono ((snd_all MH HH fuel).call hrun' O' F new C (.cons (.src rfl) .nil)) (fun v s' q => ?_) fun x s' q => ?_
  · obtain ⟨y, st', ads', r, C', l, _, hk⟩ := q
    unfold kBase at hk
    split at hk
    · rename_i i c b
      split at hk
      · rename_i its hits
        have hent := hasEnt_is hk
        have hfine := all2_is hall _ hent
        cases r with
        | tup hT hlen hat =>
          rename_i P vs nn
          match vs, hlen, hat, hT with
          | [v0, v1, v2], _, hat, hT =>
            have r0 := hat 0 _ _ rfl rfl
            have r1 := hat 1 _ _ rfl rfl
            have r2 := hat 2 _ _ rfl rfl
            cases r0 with
            | @lst _ L ha =>
              cases r1 with
              | int _ t =>
                cases r2 with
                | bool _ =>
                  rw [nth_eq] at hits
                  obtain ⟨us, ep, hLo, it⟩ := C'.lists.2 _ _ _ ha hits
                  have hmem : L ∈ ads' := List.mem_of_getElem? ha
                  have hnew := new_of (kp := AllBut ρ s []) C' l hmem (by simp)
                  have hLS : L ≠ S := by
                    have := C'.apart
                    rw [hm] at this
                    rintro rfl
                    exact (List.nodup_cons.mp this).1 hmem
                  have hsp := it.spelt (inner := []) .nil (textual_base _ hent)
                  have hb := base_step MK H hfine
                  refine ⟨P, L, spell [] its, c, b, rfl, ⟨⟨t, nn, hT⟩, ⟨us, ep, hLo, hsp⟩, hLS, spell_good (fun _ q => (by cases q)) (good_base _ hent)⟩, hb, ?_, deep_base _ hent, ?_, ?_, C'.src S rfl, fun b o e ne _ => (C'.kept b o ⟨e, by rw [hm]; simpa using ne⟩).1, C'.out⟩
                  · have := spell_len [] its
                    unfold baseFine at hfine
                    split at hfine
                    · simp only [Bool.and_eq_true] at hfine
                      have h5 := Nat.le_of_ble_eq_true hfine.1.1.1.2
                      simp only [List.length_nil, Nat.mul_zero] at this
                      omega
                    · cases hfine
                  · cases q : fr.g.get? L with
                    | none => rfl
                    | some o => have := F.keep _ _ q; rw [hnew] at this; cases this
                  · rintro rfl
                    obtain ⟨o, _, _, h1, _⟩ := F.ns
                    rw [hnew] at h1; cases h1
      · cases hk
    · cases hk
  · obtain ⟨ho, _⟩ := q
    have ho : 60 < 0 + 0 ∨ 60 < 0 + 0 + 0 := ho
    omega
end
end Mine

namespace Mine
section
variable {B : Bs} {fr : Frm} {s : Shared} {m : Str → Option Value} {S : Addr}
theorem c_form (MK : MethK B) (H : BsOk B) (TB : TakesBy B 20) (hrun : ∀ b, formsRun B.K b = true) (hall : ∀ b, fineAll B.K b (forms b) = true) (O : FrB B fr 60) (F : Fr fr.g fr.L s.heap m) (hg : fr.g.get? S = none) (hL : S ≠ fr.L) (hS : SrcAt s.heap S)
    {P L : Addr} {told : List Str} {e sz : Nat} {b : Bool} (hP : PartAt s.heap S P L told e b) (hok : PartOk B told e b sz) (h4 : 4 ≤ sz) (hlen : told.length ≤ 1000) (hLg : fr.g.get? L = none) (hLL : L ≠ fr.L) :
    wpAny (model B.prog B.w) fr.A (call (.ref (refOf B.K "_law_form")) [.ref S, .ref P]) (Drawn B fr s S (40 + sz) (told.length + 20) (3 + e) [L]) (fun _ _ => False) s := by
  obtain ⟨⟨te, np, hT0⟩, ⟨us0, n0, hL0, hstr⟩, hne, hgood⟩ := hP
  let ρ : Rho := ⟨none, some S, [], us0, 0, e, b, 0, 20, s, []⟩
  let G : Gl := ⟨B.prog, B.w, B.p, B.loose, B.mg, B.mb, B.cf 0 0 b, ρ, B.GF⟩
  have hG : G.bs = B := rfl
  have hm : ∀ ads, muts ρ ads = S :: ads := fun ads => rfl
  have MH : MethHyp G := methHyp (G := G) (hG ▸ MK) (show 4 ≤ 20 by decide) fun ω' e => by cases e
  have HH : HoleHyp G := ⟨fun ω' e => (by cases e), fun hi => (hi rfl).elim, fun hi => (hi rfl).elim, fun S' e => hG ▸ TB⟩
  have O' : FrmOk G fr ⟨fr.scope, 40⟩ := ⟨rfl, O.below, O.X, O.T, O.kind, O.hh, O.dbg, by have := O.room; show fr.A₀.depth + 40 + 20 + 20 ≤ recursionLimit; omega, by have := O.units; show fr.A₀.units + 10 * (40 + 20 + 20) ≤ cLine; omega, by show us0.length ≤ 1000; rw [hstr.1]; exact hlen⟩
  have hit : Items ρ [L] s.heap us0 [.inner] := by
    have : Items ρ [L] s.heap (ρ.ivs ++ []) [.inner] := .inner .nil
    rwa [List.append_nil] at this
  have C : Core ρ (AllBut ρ s [L]) ⟨[], [[.inner]], ⟨none, [], 0, 0, 0⟩⟩ s [L] := by
    refine ⟨⟨rfl, fun i a xs h1 h2 => ?_⟩, fun ω' e => (by cases e), fun S' e => by cases e; exact hS, fun b o e => e, by rw [hm]; simpa using Ne.symm hne, ⟨by show 0 ≤ 60; omega, by show 0 ≤ 60; omega, .inl rfl⟩, rfl, rfl, rfl⟩
    match i, h1, h2 with
    | 0, h1, h2 => cases h1; cases h2; exact ⟨us0, n0, hL0, hit⟩
  have new : ∀ a ∈ muts ρ [L], fr.g.get? a = none ∧ a ≠ fr.L := fun a ha => by
    rw [hm] at ha
    simp only [List.mem_cons, List.not_mem_nil, or_false] at ha
    rcases ha with rfl | rfl
    · exact ⟨hg, hL⟩
    · exact ⟨hLg, hLL⟩
  have rP : RepV ρ [L] s.heap (.ref P) (.tup [.lst 0, .sym 0, .bool b]) := by
    refine .tup hT0 rfl fun i v x h1 h2 => ?_
    match i, h1, h2 with
    | 0, h1, h2 => cases h1; cases h2; exact .lst rfl
    | 1, h1, h2 =>
      cases h1; cases h2
      have : RepV ρ [L] s.heap (.int (ρ.dsym + 0) te) (.sym 0) := .sym 0 te
      rwa [Int.add_zero] at this
    | 2, h1, h2 => cases h1; cases h2; exact .bool b
  have hrun' : run (B.cf 0 0 b) fuel (.call (refOf B.K "_law_form") [.src, .tup [.lst 0, .sym 0, .bool b]] (kForm b)) ⟨fr.scope, 40⟩ ⟨[], [[.inner]], ⟨none, [], 0, 0, 0⟩⟩ = true := by rw [cf_is H]; exact run_scope (hrun b)
  refine wpAny_mono ((snd_all MH HH fuel).call hrun' O' F new C (.cons (.src rfl) (.cons rP .nil))) (fun v s' q => ?_) fun x s' q => ?_
  · obtain ⟨y, st', ads', r, C', l, _, hk⟩ := q
    unfold kForm at hk
    split at hk
    · rename_i i c b'
      split at hk
      · rename_i its hits
        have hent := hasEnt_is hk
        have hfine : ∀ first ∈ firsts b, formFine B.K b first its c b' = true := all2_is (all2_is (hall b) _ hent)
        cases r with
        | tup hT hlen' hat =>
          rename_i P' vs nn
          match vs, hlen', hat, hT with
          | [v0, v1, v2], _, hat, hT =>
            have r0 := hat 0 _ _ rfl rfl
            have r1 := hat 1 _ _ rfl rfl
            have r2 := hat 2 _ _ rfl rfl
            cases r0 with
            | @lst _ L' ha =>
              cases r1 with
              | sym _ t =>
                cases r2 with
                | bool _ =>
                  rw [nth_eq] at hits
                  obtain ⟨us, ep, hLo, it⟩ := C'.lists.2 _ _ _ ha hits
                  have hmem : L' ∈ ads' := List.mem_of_getElem? ha
                  have hLS : L' ≠ S := by
                    have := C'.apart
                    rw [hm] at this
                    rintro rfl
                    exact (List.nodup_cons.mp this).1 hmem
                  have hsp := it.spelt (inner := told) hstr (textual_ent b _ hent)
                  have hb := form_step MK H hok h4 hfine
                  have hT' : s'.heap.get? P' = some (tupObj [.ref L', .int ((c + e : Nat) : Int) t, .bool b'] nn) := by
                    have hz : (ρ.dsym + Int.ofNat c) = ((c + e : Nat) : Int) := by
                      show (e : Int) + (c : Int) = _
                      omega
                    rw [← hz]; exact hT
                  have hnew : L' ≠ L → s.heap.get? L' = none := fun q => new_of (kp := AllBut ρ s [L]) C' l hmem (by simpa using q)
                  refine ⟨P', L', spell told its, c + e, b', rfl, ⟨⟨t, nn, hT'⟩, ⟨us, ep, hLo, hsp⟩, hLS, spell_good hgood (good_form b _ hent)⟩, hb, ?_, Nat.add_le_add_right (deep_form b _ hent) e, ?_, ?_, C'.src S rfl, fun b o e ne ne' => (C'.kept b o ⟨e, by rw [hm]; simp only [List.mem_cons, List.not_mem_nil, or_false, not_or]; exact ⟨ne, by simpa using ne'⟩⟩).1, C'.out⟩
                  · have hl := spell_len told its
                    obtain ⟨first, hfirst, _⟩ := hok.start
                    have hff := hfine first hfirst
                    unfold formFine at hff
                    split at hff
                    · simp only [Bool.and_eq_true] at hff
                      have h5 := Nat.le_of_ble_eq_true hff.1.1.1.2
                      have h6 := Nat.le_of_ble_eq_true hff.1.1.2
                      have : inners its * told.length ≤ 1 * told.length := Nat.mul_le_mul_right _ h6
                      omega
                    · cases hff
                  · by_cases q : L' = L
                    · rw [q]; exact hLg
                    · cases q' : fr.g.get? L' with
                      | none => rfl
                      | some o => have := F.keep _ _ q'; rw [hnew q] at this; cases this
                  · by_cases q : L' = L
                    · rw [q]; exact hLL
                    · rintro rfl
                      obtain ⟨o, _, _, h1, _⟩ := F.ns
                      rw [hnew q] at h1; cases h1
      · cases hk
    · cases hk
  · obtain ⟨ho, _⟩ := q
    have ho : 60 < 0 + 0 ∨ 60 < 0 + 0 + 0 := ho
    omega
end
end Mine

namespace Mine

def vBin : Expr → Option (Expr × Operator × Expr)
  | .BinOp l op r _ => some (l, op, r)
  | _ => none
theorem vBin_is {e l r : Expr} {op : Operator} (h : vBin e = some (l, op, r)) : ∃ p, e = .BinOp l op r p := by
  unfold vBin at h
  split at h <;> cases h
  exact ⟨_, rfl⟩
/-- a number that stands in the text -/
def numE : Expr → Option Nat
  | .Constant (.int (.ofNat k)) _ _ => some k
  | _ => none
theorem numE_is {e : Expr} {k : Nat} (h : numE e = some k) : ∃ a p, e = .Constant (.int k) a p := by
  unfold numE at h
  split at h <;> cases h
  exact ⟨_, _, rfl⟩
/-- x[j] = e -/
def vPut (x : Str) (j : Nat) : Stmt → Option Expr
  | .Assign [t] e _ => match isIt x j t, isComp e with
    | true, false => some e
    | _, _ => none
  | _ => none
theorem vPut_is {x : Str} {j : Nat} {st : Stmt} {e : Expr} (h : vPut x j st = some e) : ∃ p c b q r, st = .Assign [.Subscript (.Name x p) (.Constant (.int j) c b) q] e r ∧ isComp e = false := by
  unfold vPut at h
  split at h
  · split at h
    · rename_i h1 h2
      cases h
      obtain ⟨p, c, b, q, rfl⟩ := isIt_is h1
      exact ⟨p, c, b, q, _, rfl, h2⟩
    · cases h
  · cases h

/-- source[j] op y -/
def isItOp (x : Str) (j : Nat) (op : Operator) (y : Str) (e : Expr) : Bool := match vBin e with
  | some (l, o, r) => isIt x j l && decide (o = op) && isN y r
  | none => false
theorem isItOp_is {x : Str} {j : Nat} {op : Operator} {y : Str} {e : Expr} (h : isItOp x j op y e = true) : ∃ p c b q r t, e = .BinOp (.Subscript (.Name x p) (.Constant (.int j) c b) q) op (.Name y r) t := by
  unfold isItOp at h
  split at h
  · rename_i l o r hv
    obtain ⟨t, rfl⟩ := vBin_is hv
    simp only [Bool.and_eq_true, decide_eq_true_eq] at h
    obtain ⟨⟨h1, rfl⟩, h3⟩ := h
    obtain ⟨p, c, b, q, rfl⟩ := isIt_is h1
    obtain ⟨r, rfl⟩ := isN_is h3
    exact ⟨_, _, _, _, _, _, rfl⟩
  · cases h
/-- (source[1] * a + c) % 2147483647 -/
def nextE (e : Expr) : Bool := match vBin e with
  | some (l, .Mod, r) => isI 2147483647 r && (match vBin l with
    | some (l, .Add, r) => (match numE r with
      | some k => Nat.ble k 1000000
      | none => false) && (match vBin l with
      | some (l, .Mult, r) => isIt "source" 1 l && (match numE r with
        | some k => Nat.ble k 1000000
        | none => false)
      | _ => false)
    | _ => false)
  | _ => false
theorem nextE_is {e : Expr} (h : nextE e = true) : ∃ p c b q k1 a1 p1 t1 k2 a2 p2 t2 a3 p3 t3, e = .BinOp (.BinOp (.BinOp (.Subscript (.Name "source" p) (.Constant (.int (1 : Nat)) c b) q) .Mult (.Constant (.int (k1 : Nat)) a1 p1) t1) .Add (.Constant (.int (k2 : Nat)) a2 p2) t2) .Mod (.Constant (.int (2147483647 : Nat)) a3 p3) t3 ∧ k1 ≤ 1000000 ∧ k2 ≤ 1000000 := by
  unfold nextE at h
  split at h
  · rename_i l r hv
    obtain ⟨t3, rfl⟩ := vBin_is hv
    simp only [Bool.and_eq_true] at h
    obtain ⟨a3, p3, rfl⟩ := isI_is h.1
    replace h := h.2
    split at h
    · rename_i l r hv
      obtain ⟨t2, rfl⟩ := vBin_is hv
      simp only [Bool.and_eq_true] at h
      obtain ⟨h1, h2⟩ := h
      split at h1
      · rename_i k2 hk2
        obtain ⟨a2, p2, rfl⟩ := numE_is hk2
        split at h2
        · rename_i l r hv
          obtain ⟨t1, rfl⟩ := vBin_is hv
          simp only [Bool.and_eq_true] at h2
          obtain ⟨p, c, b, q, rfl⟩ := isIt_is h2.1
          have h3 := h2.2
          split at h3
          · rename_i k1 hk1
            obtain ⟨a1, p1, rfl⟩ := numE_is hk1
            exact ⟨_, _, _, _, _, _, _, _, _, _, _, _, _, _, _, rfl, Nat.le_of_ble_eq_true h3, Nat.le_of_ble_eq_true h1⟩
          · cases h3
        · cases h2
      · cases h1
    · cases h
  · cases h
/-- source[1] * source[1] % m // k % top -/
def drawE (e : Expr) : Bool := match vBin e with
  | some (l, .Mod, r) => isN "top" r && (match vBin l with
    | some (l, .FloorDiv, r) => isI 32 r && (match vBin l with
      | some (l, .Mod, r) => isI 2147483629 r && (match vBin l with
        | some (l, .Mult, r) => isIt "source" 1 l && isIt "source" 1 r
        | _ => false)
      | _ => false)
    | _ => false)
  | _ => false
theorem drawE_is {e : Expr} (h : drawE e = true) : ∃ p c b q p' c' b' q' t1 a2 p2 t2 a3 p3 t3 p4 t4, e = .BinOp (.BinOp (.BinOp (.BinOp (.Subscript (.Name "source" p) (.Constant (.int (1 : Nat)) c b) q) .Mult (.Subscript (.Name "source" p') (.Constant (.int (1 : Nat)) c' b') q') t1) .Mod (.Constant (.int (2147483629 : Nat)) a2 p2) t2) .FloorDiv (.Constant (.int (32 : Nat)) a3 p3) t3) .Mod (.Name "top" p4) t4 := by
  unfold drawE at h
  split at h
  · rename_i l r hv
    obtain ⟨t4, rfl⟩ := vBin_is hv
    simp only [Bool.and_eq_true] at h
    obtain ⟨p4, rfl⟩ := isN_is h.1
    replace h := h.2
    split at h
    · rename_i l r hv
      obtain ⟨t3, rfl⟩ := vBin_is hv
      simp only [Bool.and_eq_true] at h
      obtain ⟨a3, p3, rfl⟩ := isI_is h.1
      replace h := h.2
      split at h
      · rename_i l r hv
        obtain ⟨t2, rfl⟩ := vBin_is hv
        simp only [Bool.and_eq_true] at h
        obtain ⟨a2, p2, rfl⟩ := isI_is h.1
        replace h := h.2
        split at h
        · rename_i l r hv
          obtain ⟨t1, rfl⟩ := vBin_is hv
          simp only [Bool.and_eq_true] at h
          obtain ⟨p, c, b, q, rfl⟩ := isIt_is h.1
          obtain ⟨p', c', b', q', rfl⟩ := isIt_is h.2
          exact ⟨_, _, _, _, _, _, _, _, _, _, _, _, _, _, _, _, _, rfl⟩
        · cases h
      · cases h
    · cases h
  · cases h

def okTakeL (K : Frag) (f : Addr) : Bool := match defOf K f ["source", "top"] with
  | some (fd, [s1, s2, s3]) => noDf fd && isLc fd "source" && isLc fd "top" && isLc fd "drawn" && (match vIf s1 with
    | some (t, [b1, b2, b3], []) => (match vCmp t with
      | some (l, .Gt, r) => isIt "source" 0 l && isI 0 r
      | _ => false) && (match asgOf "drawn" b1 with
      | some e => isItOp "source" 0 .Mod "top" e
      | none => false) && (match vPut "source" 0 b2 with
      | some e => isItOp "source" 0 .FloorDiv "top" e
      | none => false) && isRetN "drawn" b3
    | _ => false) && (match vPut "source" 1 s2 with
    | some e => nextE e
    | none => false) && (match vRet s3 with
    | some e => drawE e
    | none => false)
  | _ => false
end Mine
namespace Mine
theorem bits_small {j : Int} (h0 : 0 ≤ j) (h : j < 2147483647) : Builtin.Int.intBits j ≤ 64 := by
  unfold Builtin.Int.intBits
  split
  · omega
  · have : j.natAbs < 2 ^ 31 := by omega
    have hne : j.natAbs ≠ 0 := by rename_i q; simp at q; omega
    have := (Nat.log2_lt hne).mpr this
    omega
theorem bits_nat {k : Nat} (h : k ≤ 1000000) : Builtin.Int.intBits (k : Int) ≤ 64 := bits_small (by omega) (by omega)

section
variable {B : Bs} {fr : Frm} {n : Nat} {s : Shared} {m : Str → Option Value} {hp : Heap}
theorem it_list {Q : Value → Shared → Prop} {E : Value → Shared → Prop} {x : Str} {p b q : Pos} {c : Nat} {a : Addr} {vs : List Value} {j : Nat} {v : Value} (O : FrB B fr n) (F : Fr fr.g fr.L hp m) (hl : find x fr.scope.names = some .local) (hm : m x = some (.ref a))
    (ht : hp.IsList a vs.toArray) (hv : vs[j]? = some v) (hj : j < 100) (h : ∀ tk, Q v { s with toks := tk }) (hs : s.heap = hp := by rfl) :
    wpAny (model B.prog B.w) fr.A (eval (.Subscript (.Name x p) (.Constant (.int j) c b) q) fr.env) Q E s := by
  subst hs
  refine Subscript_ (nm O F hl hm (wpAny_Constant_int ?_))
  exact tail_any ht.typeIs PySem.slot_list_getitem.lookup (wpAny_getItem_list (k := (j : Int)) (x := v) ht (by omega) (by omega) (by simp [hv]) (h _)) rfl

theorem put_list {Q : Flow → Shared → Prop} {E : Value → Shared → Prop} {x : Str} {p b q r : Pos} {c : Nat} {a : Addr} {e : Expr} {j : Nat} (O : FrB B fr n) (hc : isComp e = false) (hl : find x fr.scope.names = some .local) (hj : j < 100)
    (h : wpAny (model B.prog B.w) fr.A (eval e fr.env) (fun v s₁ => ∃ (m : Str → Option Value) (vs : List Value), Fr fr.g fr.L s₁.heap m ∧ m x = some (.ref a) ∧ s₁.heap.IsList a vs.toArray ∧ j < vs.length ∧
      ∀ h' tk, h'.IsList a (vs.set j v).toArray → Heap.SameBut a s₁.heap h' → Q .next { s₁ with heap := h', toks := tk }) E s) :
    wpAny (model B.prog B.w) fr.A (exec (.Assign [.Subscript (.Name x p) (.Constant (.int j) c b) q] e r) fr.env) Q E s := by
  refine wpAny_Assign_Subscript (wpAny_mono h (fun v s₁ h₁ => ?_) fun _ _ e => e) (no_swap hc)
  obtain ⟨m, vs, F, hm, hil, hjl, hQ⟩ := h₁
  refine nm O F hl hm (wpAny_Constant_int ?_)
  refine wpAny_setItem_list hil (by omega) (by omega) (by simp; omega) fun h' hl' hsb => ?_
  refine hQ h' _ ?_ hsb
  have : (vs.set j v).toArray = vs.toArray.setIfInBounds (j : Int).toNat v := by simp
  rw [this]; exact hl'
end
end Mine

namespace Mine
theorem fmod_range {x : Int} {n : Nat} (hn : 1 ≤ n) : ∃ i : Nat, x.fmod n = (i : Int) ∧ i < n := by
  have h1 : 0 ≤ x.fmod n := Int.fmod_nonneg_of_pos x (by omega)
  have h2 : x.fmod n < n := Int.fmod_lt_of_pos x (by omega)
  exact ⟨(x.fmod n).toNat, by omega, by omega⟩

theorem drawn_of {x : Int} {n : Nat} {t : PySem.Tok} {R : Prop} (h1 : 1 ≤ n) (r : R) : ∃ (i : Nat) (t' : PySem.Tok), Value.int (x.fmod n) t = .int (Int.ofNat i) t' ∧ i < n ∧ R := by
  obtain ⟨i, hi, hlt⟩ := fmod_range (x := x) h1
  exact ⟨i, t, by rw [hi]; rfl, hlt, r⟩
set_option maxHeartbeats 1000000 in
theorem takesBy {B : Bs} {sz : Nat} (hsz : 1 ≤ sz) (hf : okTakeL B.K B.fTake = true) : TakesBy B sz := by
  intro fr S s n t m O F hg hL hS h1 h2
  obtain ⟨z, hz⟩ : ∃ z, sz = z + 1 := ⟨sz - 1, by omega⟩
  have O1 : FrB B fr (z + 1) := hz ▸ O
  unfold okTakeL at hf
  split at hf
  · rename_i fd s1 s2 s3 hdef
    simp only [Bool.and_eq_true] at hf
    obtain ⟨⟨⟨⟨⟨⟨hnd, hl1⟩, hl2⟩, hl3⟩, hif⟩, hput⟩, hret⟩ := hf
    split at hif
    · rename_i tt b1 b2 b3 hvif
      obtain ⟨pif, rfl⟩ := vIf_is hvif
      simp only [Bool.and_eq_true] at hif
      obtain ⟨⟨⟨hc, ha⟩, hp⟩, hr⟩ := hif
      split at hc
      · rename_i l r hcmp
        obtain ⟨pc, rfl, hmk⟩ := vCmp_is hcmp
        simp only [Bool.and_eq_true] at hc
        obtain ⟨e1, e2, e3, e4, rfl⟩ := isIt_is hc.1
        obtain ⟨e5, e6, rfl⟩ := isI_is hc.2
        split at ha
        · rename_i ea hea
          obtain ⟨f1, f2, rfl⟩ := asgOf_is hea
          obtain ⟨g1, g2, g3, g4, g5, g6, rfl⟩ := isItOp_is ha
          split at hp
          · rename_i ep hep
            obtain ⟨i1, i2, i3, i4, i5, rfl, hcomp⟩ := vPut_is hep
            obtain ⟨j1, j2, j3, j4, j5, j6, rfl⟩ := isItOp_is hp
            obtain ⟨k1, k2, rfl⟩ := isRetN_is hr
            split at hput
            · rename_i en hen
              obtain ⟨u1, u2, u3, u4, u5, rfl, hcomp2⟩ := vPut_is hen
              obtain ⟨v1, v2, v3, v4, n1, v5, v6, v7, n2, v8, v9, w1, w2, w3, w4, rfl, hn1, hn2⟩ := nextE_is hput
              split at hret
              · rename_i er her
                obtain ⟨pr, rfl⟩ := vRet_is her
                obtain ⟨x1, x2, x3, x4, x5, x6, x7, x8, y1, y2, y3, y4, y5, y6, y7, y8, y9, rfl⟩ := drawE_is hret
                obtain ⟨q1, q2, q3, q4, q5⟩ := defOf_is hdef
                obtain ⟨i, j, ti, tj, oS, nS, hSo, hSc, hSd, hi, hj, hj2⟩ := hS
                have hSl : s.heap.IsList S [Value.int i ti, .int j tj].toArray := ⟨oS, hSo, hSc, nS, hSd⟩
                refine enterQ O1 F [S] (by intro a h; simp only [List.mem_singleton] at h; subst h; exact ⟨hg, hL⟩) q1 q2 q3 (bind2 q2 q4 (noDf_is hnd) (by decide)) (show (["source", "top"] : List Str).Nodup by decide) q5 fun L s₁ hL' hkk ho O' F' => ?_
                have hSL : S ≠ L := by rintro rfl; rw [hSo] at hL'; cases hL'
                have gS : (hideAll s.heap [S]).get? S = none := hideAll_none _ (.head _)
                have hl₁ : s₁.heap.IsList S [Value.int i ti, .int j tj].toArray := ⟨oS, hkk _ _ hSo, hSc, nS, hSd⟩
                refine wpAny_execs_cons (wpAny_If (wpAny_isTrue_Compare1 (it_list (j := 0) O' F' (isLc_is hl1) rfl hl₁ rfl (by decide) fun tk => wpAny_Constant_int (PyProof.Rows.gt_int (wpAny_truthy_bool ?_))) hmk))
                by_cases hpos : 0 < i
                · rw [show decide (((0 : Nat) : Int) < i) = true by simpa using hpos]
                  simp only [if_true]
                  obtain ⟨dd, hdd, hdlt⟩ := fmod_range (x := i) h1
                  refine wpAny_execs_cons (wpAny_Assign_Name (wpAny_BinOp (it_list (j := 0) O' F' (isLc_is hl1) rfl hl₁ rfl (by decide) fun tk => nm O' F' (isLc_is hl2) rfl (PyProof.Rows.mod_int (by omega) ?_))))
                  refine stN' O' F' (isLc_is hl3) fun h₂ tk₂ F₂ hsb => ?_
                  have hl₂ : h₂.IsList S [Value.int i ti, .int j tj].toArray := ⟨oS, (hsb.2 S hSL).trans (hkk _ _ hSo), hSc, nS, hSd⟩
                  refine wpAny_execs_cons (put_list (a := S) O' hcomp (isLc_is hl1) (by decide) (wpAny_BinOp (it_list (j := 0) O' F₂ (isLc_is hl1) rfl hl₂ rfl (by decide) fun tk => nm O' F₂ (isLc_is hl2) rfl (PyProof.Rows.floordiv_int (by omega) ?_ (.inl (PyProof.noPylong_small (by omega)))))))
                  refine ⟨_, _, F₂, rfl, hl₂, (show 0 < 2 by decide), fun h₃ tk₃ hl₃ hsb₃ => ?_⟩
                  have F₃ : Fr (hideAll s.heap [S]) L h₃ _ := frBut F₂ (c := S) (fun b o ne q => (hsb₃.2 b ne).trans q) gS hSL
                  refine wpAny_execs_cons (wpAny_Return_some (nm O' F₃ (isLc_is hl3) rfl ?_))
                  obtain ⟨o3, ho3, hc3, n3, hd3⟩ := hl₃
                  refine ⟨dd, _, by show Value.int (i.fmod n) _ = _; rw [hdd]; rfl, hdlt, ⟨i.fdiv n, j, _, tj, o3, n3, ho3, hc3, hd3, Int.fdiv_nonneg hi (by omega), hj, hj2⟩, fun b o e ne => F₃.keep b o (hideAll_get _ e (by simpa using ne)), ho.trans ⟨rfl, rfl, rfl⟩⟩
                · rw [show decide (((0 : Nat) : Int) < i) = false by simpa using hpos]
                  simp only [Bool.false_eq_true, if_false]
                  refine wpAny_execs_nil ?_
                  refine wpAny_execs_cons (put_list (a := S) O' hcomp2 (isLc_is hl1) (by decide) (wpAny_BinOp (wpAny_BinOp (wpAny_BinOp (it_list (j := 1) O' F' (isLc_is hl1) rfl hl₁ rfl (by decide) fun tk => wpAny_Constant_int (PyProof.Rows.mul_int ?_ (IntMulOk.of_right (bits_nat hn1))))))))
                  refine wpAny_Constant_int (PyProof.Rows.add_int (wpAny_Constant_int (PyProof.Rows.mod_int (by omega) ?_)))
                  obtain ⟨jj, hjj, hjlt⟩ := fmod_range (x := j * n1 + n2) (n := 2147483647) (by omega)
                  refine ⟨_, _, F', rfl, hl₁, (show 1 < 2 by decide), fun h₃ tk₃ hl₃ hsb₃ => ?_⟩
                  have F₃ : Fr (hideAll s.heap [S]) L h₃ _ := frBut F' (c := S) (fun b o ne q => (hsb₃.2 b ne).trans q) gS hSL
                  have hl₃' : h₃.IsList S [Value.int i ti, .int ((j * n1 + n2).fmod (2147483647 : Nat)) _].toArray := hl₃
                  rw [hjj] at hl₃'
                  have hb : Builtin.Int.intBits (jj : Int) ≤ 64 := bits_small (by omega) (by omega)
                  refine wpAny_execs_cons (wpAny_Return_some (wpAny_BinOp (wpAny_BinOp (wpAny_BinOp (wpAny_BinOp ?_)))))
                  refine it_list (j := 1) O' F₃ (isLc_is hl1) rfl hl₃' rfl (by decide) fun tk => ?_
                  refine it_list (j := 1) O' F₃ (isLc_is hl1) rfl hl₃' rfl (by decide) fun tk => ?_
                  refine PyProof.Rows.mul_int ?_ (IntMulOk.of_right hb)
                  refine wpAny_Constant_int (PyProof.Rows.mod_int (by omega) (wpAny_Constant_int (PyProof.Rows.floordiv_int (by omega) ?_ (.inl (PyProof.noPylong_small (by omega))))))
                  refine nm O' F₃ (isLc_is hl2) rfl (PyProof.Rows.mod_int (by omega) ?_)
                  obtain ⟨o3, ho3, hc3, n3, hd3⟩ := hl₃'
                  clear hjj hb
                  refine drawn_of h1 ⟨?_, ?_, ?_⟩
                  · exact ⟨i, jj, ti, _, o3, n3, ho3, hc3, hd3, hi, Int.natCast_nonneg _, Int.ofNat_lt.mpr hjlt⟩
                  · exact fun b o e ne => F₃.keep b o (hideAll_get _ e (by simpa using ne))
                  · exact ho.trans ⟨rfl, rfl, rfl⟩
              · cases hret
            · cases hput
          · cases hp
        · cases ha
      · cases hc
    · cases hif
  · cases hf
end Mine

namespace Mine

def mAddr (K : Frag) (C : Addr) (x : Str) : Addr := match findIn K (.ref C) x with
  | some (some (.ref f)) => f
  | _ => 0
def isBuiltinAt (K : Frag) (C : Addr) (x : Str) (i : String) : Bool := match findIn K (.ref C) x with
  | some (some (.builtin j)) => decide (j = i)
  | _ => false
theorem isBuiltinAt_is {K : Frag} {C : Addr} {x : Str} {i : String} (h : isBuiltinAt K C x i = true) : findIn K (.ref C) x = some (some (.builtin i)) := by
  unfold isBuiltinAt at h
  split at h
  · rename_i q; rw [q, of_decide_eq_true h]
  · cases h
def isNoneAt (K : Frag) (C : Addr) (x : Str) : Bool := match findIn K (.ref C) x with
  | some none => true
  | _ => false
theorem isNoneAt_is {K : Frag} {C : Addr} {x : Str} (h : isNoneAt K C x = true) : findIn K (.ref C) x = some none := by
  unfold isNoneAt at h
  split at h <;> first | assumption | cases h
def isTakerNone (K : Frag) (C : Addr) (x : Str) : Bool := match takerIn K C x with
  | some none => true
  | _ => false
theorem isTakerNone_is {K : Frag} {C : Addr} {x : Str} (h : isTakerNone K C x = true) : takerIn K C x = some none := by
  unfold isTakerNone at h
  split at h <;> first | assumption | cases h
def isFnT (K : Frag) (f : Addr) : Bool := match typeIn K (.ref f) with
  | some (.type t) => decide (t = "function")
  | _ => false
theorem isFnT_is {K : Frag} {f : Addr} (h : isFnT K f = true) : typeIn K (.ref f) = some (.type "function") := by
  unfold isFnT at h
  split at h
  · rename_i q; rw [q, of_decide_eq_true h]
  · cases h
def hasM (K : Frag) (C : Addr) (x : Str) : Bool := match findIn K (.ref C) x with
  | some (some (.ref f)) => isFnT K f && keepIn K (.ref f)
  | _ => false
theorem hasM_is {K : Frag} {C : Addr} {x : Str} (h : hasM K C x = true) : findIn K (.ref C) x = some (some (.ref (mAddr K C x))) ∧ typeIn K (.ref (mAddr K C x)) = some (.type "function") ∧ keepIn K (.ref (mAddr K C x)) = true := by
  unfold hasM at h
  split at h
  · rename_i f q
    simp only [Bool.and_eq_true] at h
    have : mAddr K C x = f := by unfold mAddr; rw [q]
    rw [this]
    exact ⟨q, isFnT_is h.1, h.2⟩
  · cases h
def refIs (K : Frag) (x : Str) : Bool := match nsIn K mainGlobals x with
  | some (some (.ref _)) => true
  | _ => false
theorem refIs_is {K : Frag} {x : Str} (h : refIs K x = true) : nsIn K mainGlobals x = some (some (.ref (refOf K x))) := by
  unfold refIs at h
  split at h
  · rename_i a q
    have : refOf K x = a := by unfold refOf; rw [q]
    rw [this]; exact q
  · cases h
def clsOk (K : Frag) (C : Addr) : Bool := isBuiltinAt K C "__getattribute__" "object.__getattribute__" && isNoneAt K C "__getattr__" && isBuiltinAt K C "__setattr__" "object.__setattr__" && hasDictIn K C && plainOver K C &&
  isNoneAt K C "rows" && isNoneAt K C "at" && isNoneAt K C "deep" && isTakerNone K C "at" && isTakerNone K C "deep"
theorem clsOk_is {B : Bs} (h : clsOk B.K B.C = true) : ClsK B := by
  unfold clsOk at h
  simp only [Bool.and_eq_true] at h
  obtain ⟨⟨⟨⟨⟨⟨⟨⟨⟨h1, h2⟩, h3⟩, h4⟩, h5⟩, h6⟩, h7⟩, h8⟩, h9⟩, h10⟩ := h
  exact ⟨isBuiltinAt_is h1, isNoneAt_is h2, isBuiltinAt_is h3, h4, h5, isNoneAt_is h6, isNoneAt_is h7, isNoneAt_is h8, isTakerNone_is h9, isTakerNone_is h10⟩
def eiOk (K : Frag) : Bool := match findCls K (.type "Exception") (.type "type") "__init__" with
  | some (.val (.builtin i)) => decide (i = "Exception.__init__")
  | _ => false
def faultOk (K : Frag) (C : Addr) : Bool := (match K.lookup C with
  | some o => isExcCls C o
  | none => false) && hasM K C "__init__" && isBuiltinAt K C "__setattr__" "object.__setattr__" && overX K C && hasDictIn K C && isTakerNone K C "message" && isTakerNone K C "spot" && okLend K (mAddr K C "__init__") && eiOk K
theorem faultOk_is {B : Bs} (h : faultOk B.K B.GF = true) : FaultK B (mAddr B.K B.GF "__init__") := by
  unfold faultOk at h
  simp only [Bool.and_eq_true] at h
  obtain ⟨⟨⟨⟨⟨⟨⟨⟨h1, h2⟩, h3⟩, h4⟩, h5⟩, h6⟩, h7⟩, h8⟩, h9⟩ := h
  obtain ⟨m1, m2, _⟩ := hasM_is h2
  refine ⟨?_, m1, m2, isBuiltinAt_is h3, h4, h5, isTakerNone_is h6, isTakerNone_is h7, h8, ?_⟩
  · split at h1
    · rename_i o q; exact ⟨o, q, h1⟩
    · cases h1
  · unfold eiOk at h9
    split at h9
    · rename_i q; rw [q, of_decide_eq_true h9]
    · cases h9
def methsOk (K : Frag) (C : Addr) : Bool := hasM K C "peek" && okPeek K (mAddr K C "peek") && hasM K C "looks" && okLooks K (mAddr K C "looks") && hasM K C "take" && okTake K (mAddr K C "take") && hasM K C "expect" && okExpect K (mAddr K C "expect") &&
  hasM K C "name" && okName K (mAddr K C "name") && hasM K C "deeper" && okDeeper K (mAddr K C "deeper") && hasM K C "shallower" && okShallower K (mAddr K C "shallower")
def mdOk (K : Frag) : Bool := match nsIn K mainGlobals "MOST_DEEP" with
  | some (some (.int (.ofNat k) _)) => Nat.beq k 60
  | _ => false
def keysStr : List DictEntry → Bool
  | [] => true
  | e :: r => match e.key with
    | .str _ _ => keysStr r
    | _ => false
def keyH (P : Params) (e : DictEntry) : Int := match e.key with
  | .str x _ => PyData.keyHash P x
  | _ => e.hash
theorem keysLit_of {P : Params} : ∀ {l : List DictEntry}, keysStr l = true → l.map (·.hash) = l.map (keyH P) → KeysLit P l
  | [], _, _ => trivial
  | e :: r, h, hh => by
    simp only [List.map_cons, List.cons.injEq] at hh
    unfold keysStr at h
    split at h
    · rename_i x t hk
      refine ⟨⟨x, t, hk, ?_⟩, keysLit_of h hh.2⟩
      have := hh.1
      unfold keyH at this
      rw [hk] at this
      exact this
    · cases h
def levEs (K : Frag) : List DictEntry := match K.lookup (refOf K "LEVELS") with
  | some ⟨_, _, .dict es _, _⟩ => es.toList
  | _ => []
def levOk (K : Frag) : Bool := match K.lookup (refOf K "LEVELS") with
  | some ⟨.type t, none, .dict es _, sl⟩ => decide (t = "dict") && isNil sl.toList && keysStr es.toList && !(refOf K "LEVELS" == sysModules)
  | _ => false
theorem methK_of {B : Bs} (hG : B.GF = refOf B.K "GrammarFault") (h1 : clsOk B.K B.C = true) (h2 : faultOk B.K B.GF = true) (h3 : methsOk B.K B.C = true) (h4 : refIs B.K "GrammarFault" = true) (h5 : keepIn B.K (.ref B.GF) = true) (h6 : mdOk B.K = true) (h7 : levOk B.K = true)
    (h8 : (levEs B.K).map (·.hash) = (levEs B.K).map (keyH B.w.params)) : MethK B := by
  unfold methsOk at h3
  simp only [Bool.and_eq_true] at h3
  obtain ⟨⟨⟨⟨⟨⟨⟨⟨⟨⟨⟨⟨⟨a1, b1⟩, a2⟩, b2⟩, a3⟩, b3⟩, a4⟩, b4⟩, a5⟩, b5⟩, a6⟩, b6⟩, a7⟩, b7⟩ := h3
  have mk : ∀ {x : Str}, hasM B.K B.C x = true → Mt B x (mAddr B.K B.C x) := fun h => let ⟨p, q, r⟩ := hasM_is h; ⟨p, q, r⟩
  refine ⟨clsOk_is h1, ⟨_, faultOk_is h2⟩, ⟨_, mk a1, b1⟩, ⟨_, mk a2, b2⟩, ⟨_, mk a3, b3⟩, ⟨_, mk a4, b4⟩, ⟨_, mk a5, b5⟩, ⟨_, mk a6, b6⟩, ⟨_, mk a7, b7⟩, hG ▸ refIs_is h4, h5, ?_, fun d hd => ?_⟩
  · unfold mdOk at h6
    split at h6
    · rename_i k t q
      rw [Nat.eq_of_beq_eq_true h6] at q
      exact ⟨t, q⟩
    · cases h6
  · have hd' : refOf B.K "LEVELS" = d := by unfold refOf; rw [hd]
    unfold levOk at h7
    unfold levEs at h8
    rw [hd'] at h7 h8
    split at h7
    · rename_i t es n sl q
      rw [q] at h8
      simp only [Bool.and_eq_true, Bool.not_eq_true', decide_eq_true_eq] at h7
      obtain ⟨⟨⟨rfl, c2⟩, c3⟩, c4⟩ := h7
      obtain rfl : sl = #[] := Array.toList_inj.mp (isNil_iff c2)
      exact ⟨es, n, q, keysLit_of c3 h8, c4⟩
    · cases h7
def twoOk (K : Frag) (f : Addr) : Bool := match fnAt K f with
  | some fd => match fd.params.args, dflts K fd.defaults with
    | [_, _], some [.bool false] => true
    | _, _ => false
  | none => false
theorem bsOk_of {B : Bs} (C : B.C = refOf B.K "Words") (ex : B.fExpr = refOf B.K "read_expr") (bl : B.fBlock = refOf B.K "read_block_like") (tk : B.fTake = refOf B.K "_law_take") (h : twoOk B.K B.fExpr = true) (ne : Nat.beq B.fExpr B.fTake = false) : BsOk B := by
  refine ⟨C, ex, bl, tk, ?_, ne⟩
  unfold twoOk at h
  split at h
  · rename_i fd q
    split at h
    · rename_i q1 q2; exact ⟨fd, _, _, q, q1, q2⟩
    · cases h
  · cases h
end Mine

namespace Mine
def vIfE : Expr → Option (Expr × Expr × Expr)
  | .IfExp t b o _ => some (t, b, o)
  | _ => none
theorem vIfE_is {e t b o : Expr} (h : vIfE e = some (t, b, o)) : ∃ p, e = .IfExp t b o p := by
  unfold vIfE at h
  split at h <;> cases h
  exact ⟨_, rfl⟩
def vList2 : Expr → Option (Expr × Expr)
  | .List [a, b] _ => some (a, b)
  | _ => none
theorem vList2_is {e a b : Expr} (h : vList2 e = some (a, b)) : ∃ p, e = .List [a, b] p := by
  unfold vList2 at h
  split at h <;> cases h
  exact ⟨_, rfl⟩
def isNilL : Expr → Bool
  | .List [] _ => true
  | _ => false
theorem isNilL_is {e : Expr} (h : isNilL e = true) : ∃ p, e = .List [] p := by
  unfold isNilL at h
  split at h
  · exact ⟨_, rfl⟩
  · cases h
/-- script[0] if script != [] else 0 -/
def cellE (e : Expr) : Bool := match vIfE e with
  | some (t, b, o) => isIt "script" 0 b && isI 0 o && (match vCmp t with
    | some (l, .NotEq, r) => isN "script" l && isNilL r
    | _ => false)
  | none => false
theorem cellE_is {e : Expr} (h : cellE e = true) : ∃ p1 p2 p3 p4 p5 c b q a1 p6 p7, e = .IfExp (.Compare (.Name "script" p1) [.NotEq] [.List [] p2] p3) (.Subscript (.Name "script" p4) (.Constant (.int (0 : Nat)) c b) q) (.Constant (.int (0 : Nat)) a1 p6) p7 ∧ p5 = p3 := by
  unfold cellE at h
  split at h
  · rename_i t b o hv
    obtain ⟨p7, rfl⟩ := vIfE_is hv
    simp only [Bool.and_eq_true] at h
    obtain ⟨⟨h1, h2⟩, h3⟩ := h
    obtain ⟨p4, c, b, q, rfl⟩ := isIt_is h1
    obtain ⟨a1, p6, rfl⟩ := isI_is h2
    split at h3
    · rename_i l r hv
      obtain ⟨p3, rfl, _⟩ := vCmp_is hv
      simp only [Bool.and_eq_true] at h3
      obtain ⟨p1, rfl⟩ := isN_is h3.1
      obtain ⟨p2, rfl⟩ := isNilL_is h3.2
      exact ⟨_, _, _, _, _, _, _, _, _, _, _, rfl, rfl⟩
    · cases h3
  · cases h
/-- max(cell, -1 - cell) -/
def greatE (e : Expr) : Bool := match vCall e with
  | some (f, [a, b]) => eqS f "max" && isN "cell" a && (match vLess b with
    | some (.UnaryOp .USub x _, y) => isI 1 x && isN "cell" y
    | _ => false)
  | _ => false
theorem greatE_is {e : Expr} (h : greatE e = true) : ∃ p1 q p2 a1 p3 p4 p5 p6, e = .Call (.Name "max" p1) [.Name "cell" p2, .BinOp (.UnaryOp .USub (.Constant (.int (1 : Nat)) a1 p3) p4) .Sub (.Name "cell" p5) p6] [] q := by
  unfold greatE at h
  split at h
  · rename_i f a b hv
    obtain ⟨p1, q, rfl⟩ := vCall_is hv
    simp only [Bool.and_eq_true] at h
    obtain ⟨⟨h1, h2⟩, h3⟩ := h
    obtain ⟨p2, rfl⟩ := isN_is h2
    rw [eqS_iff.mp h1]
    split at h3
    · rename_i x p4 y hl
      obtain ⟨p6, rfl⟩ := vLess_is hl
      simp only [Bool.and_eq_true] at h3
      obtain ⟨a1, p3, rfl⟩ := isI_is h3.1
      obtain ⟨p5, rfl⟩ := isN_is h3.2
      exact ⟨_, _, _, _, _, _, _, _, rfl⟩
    · cases h3
  · cases h

section
variable {B : Bs} {fr : Frm} {n : Nat} {s : Shared} {m : Str → Option Value} {hp : Heap}
/-- the cell is read: an int -/
theorem x_cell {Q : Value → Shared → Prop} {E : Value → Shared → Prop} {e : Expr} {l : Addr} {vs : List Value} {ns : List Int} (h : cellE e = true) (O : FrB B fr n) (F : Fr fr.g fr.L s.heap m) (hl : find "script" fr.scope.names = some .local) (hm : m "script" = some (.ref l))
    (hL : fr.g.IsList l vs.toArray) (hi : IntsAre vs ns) (hQ : ∀ i t h' tk, Kept s.heap h' → Q (.int i t) { s with heap := h', toks := tk }) :
    wpAny (model B.prog B.w) fr.A (eval e fr.env) Q E s := by
  obtain ⟨p1, p2, p3, p4, p5, c, b, q, a1, p6, p7, rfl, _⟩ := cellE_is h
  refine IfExp_ (wpAny_isTrue_Compare1 (nm O F hl hm (List_ (spliced_none ?_))) rfl)
  refine wpAny_newObj_type (T := "list") (data := .seq #[]) (dict := none) ?_ (show 0 ≤ sizeLine from Nat.zero_le _)
  have k : Kept s.heap (s.heap.push (listObj [] 0)) := fun b o e => Heap.get?_push_of_some _ e
  have F₁ := frExt F k
  obtain ⟨o, ho, hc, ep, hd⟩ := hL
  have hl₁ : (s.heap.push (listObj [] 0)).IsList l vs.toArray := ⟨o, F₁.keep _ _ ho, hc, ep, hd⟩
  have hl₂ : (s.heap.push (listObj [] 0)).IsList s.heap.objs.size ([] : List Value).toArray := ⟨_, Heap.get?_push_size _ rfl, rfl, 0, rfl⟩
  refine ne_intsK hl₁ hi hl₂ .nil (by have := O.units; show fr.A₀.units + 3 + 64 < cLine; omega) (wpAny_truthy_bool ?_)
  cases hi with
  | nil =>
    simp only [decide_true, Bool.not_true, Bool.false_eq_true, if_false]
    exact wpAny_Constant_int (hQ _ _ _ _ k)
  | cons i t r =>
    rename_i vs' ns'
    rw [show (!decide (i :: ns' = [])) = true by simp]
    simp only [if_true]
    exact it_list (j := 0) O F₁ hl hm hl₁ rfl (by decide) fun tk => hQ _ _ _ _ k

/-- great if great >= a ** b else 0 -/
def bigE (e : Expr) : Bool := match vIfE e with
  | some (t, b, o) => isN "great" b && isI 0 o && (match vCmp t with
    | some (l, .GtE, r) => isN "great" l && (match vBin r with
      | some (x, .Pow, y) => isI 10 x && isI 18 y
      | _ => false)
    | _ => false)
  | none => false
theorem bigE_is {e : Expr} (h : bigE e = true) : ∃ p1 a1 p2 a2 p3 p4 p5 p6 a3 p7 p8, e = .IfExp (.Compare (.Name "great" p1) [.GtE] [.BinOp (.Constant (.int (10 : Nat)) a1 p2) .Pow (.Constant (.int (18 : Nat)) a2 p3) p4] p5) (.Name "great" p6) (.Constant (.int (0 : Nat)) a3 p7) p8 := by
  unfold bigE at h
  split at h
  · rename_i t b o hv
    obtain ⟨p8, rfl⟩ := vIfE_is hv
    simp only [Bool.and_eq_true] at h
    obtain ⟨⟨h1, h2⟩, h3⟩ := h
    obtain ⟨p6, rfl⟩ := isN_is h1
    obtain ⟨a3, p7, rfl⟩ := isI_is h2
    split at h3
    · rename_i l r hv
      obtain ⟨p5, rfl, _⟩ := vCmp_is hv
      simp only [Bool.and_eq_true] at h3
      obtain ⟨p1, rfl⟩ := isN_is h3.1
      have h4 := h3.2
      split at h4
      · rename_i x y hv
        obtain ⟨p4, rfl⟩ := vBin_is hv
        simp only [Bool.and_eq_true] at h4
        obtain ⟨a1, p2, rfl⟩ := isI_is h4.1
        obtain ⟨a2, p3, rfl⟩ := isI_is h4.2
        exact ⟨_, _, _, _, _, _, _, _, _, _, _, rfl⟩
      · cases h4
    · cases h3
  · cases h
/-- (great % m + k) * j % 2147483647 -/
def seedE (e : Expr) : Bool := match vBin e with
  | some (l, .Mod, r) => isI 2147483647 r && (match vBin l with
    | some (l, .Mult, r) => (match numE r with
      | some k => Nat.ble k 1000000
      | none => false) && (match vBin l with
      | some (l, .Add, r) => (match numE r with
        | some k => Nat.ble k 1000000
        | none => false) && (match vBin l with
        | some (l, .Mod, r) => isN "great" l && isI 2147483629 r
        | _ => false)
      | _ => false)
    | _ => false)
  | _ => false
theorem seedE_is {e : Expr} (h : seedE e = true) : ∃ p1 a1 p2 p3 k2 a2 p4 p5 k3 a3 p6 p7 a4 p8 p9, e = .BinOp (.BinOp (.BinOp (.BinOp (.Name "great" p1) .Mod (.Constant (.int (2147483629 : Nat)) a1 p2) p3) .Add (.Constant (.int (k2 : Nat)) a2 p4) p5) .Mult (.Constant (.int (k3 : Nat)) a3 p6) p7) .Mod (.Constant (.int (2147483647 : Nat)) a4 p8) p9 ∧ k3 ≤ 1000000 := by
  unfold seedE at h
  split at h
  · rename_i l r hv
    obtain ⟨p9, rfl⟩ := vBin_is hv
    simp only [Bool.and_eq_true] at h
    obtain ⟨a4, p8, rfl⟩ := isI_is h.1
    replace h := h.2
    split at h
    · rename_i l r hv
      obtain ⟨p7, rfl⟩ := vBin_is hv
      simp only [Bool.and_eq_true] at h
      obtain ⟨h1, h2⟩ := h
      split at h1
      · rename_i k3 hk3
        obtain ⟨a3, p6, rfl⟩ := numE_is hk3
        split at h2
        · rename_i l r hv
          obtain ⟨p5, rfl⟩ := vBin_is hv
          simp only [Bool.and_eq_true] at h2
          obtain ⟨h3, h4⟩ := h2
          split at h3
          · rename_i k2 hk2
            obtain ⟨a2, p4, rfl⟩ := numE_is hk2
            split at h4
            · rename_i l r hv
              obtain ⟨p3, rfl⟩ := vBin_is hv
              simp only [Bool.and_eq_true] at h4
              obtain ⟨p1, rfl⟩ := isN_is h4.1
              obtain ⟨a1, p2, rfl⟩ := isI_is h4.2
              exact ⟨_, _, _, _, _, _, _, _, _, _, _, _, _, _, _, rfl, Nat.le_of_ble_eq_true h1⟩
            · cases h4
          · cases h3
        · cases h2
      · cases h1
    · cases h
  · cases h
def okPool (K : Frag) (f : Addr) : Bool := match defOf K f ["script"] with
  | some (fd, [s1, s2, s3]) => noDf fd && isLc fd "script" && isLc fd "cell" && isLc fd "great" && isGl fd "max" && noneK K "max" && (match asgOf "cell" s1 with
    | some e => cellE e
    | none => false) && (match asgOf "great" s2 with
    | some e => greatE e
    | none => false) && (match vRet s3 with
    | some e => (match vList2 e with
      | some (a, b) => bigE a && seedE b
      | none => false)
    | none => false)
  | _ => false
end
end Mine

namespace Mine
theorem seed_range (x : Int) : 0 ≤ x.fmod (2147483647 : Nat) ∧ x.fmod (2147483647 : Nat) < 2147483647 :=
  ⟨Int.fmod_nonneg_of_pos x (by omega), Int.fmod_lt_of_pos x (by omega)⟩
theorem great_nonneg (c : Int) : 0 ≤ (if -1 - c > c then -1 - c else c) := by split <;> omega
theorem max_two' {prog : Program} {w : World} {A : Around} {E : Value → Shared → Prop} {s : Shared} {a b : Int} {t u : PySem.Tok} {Q : Value → Shared → Prop} (hh : A.handled = none)
    (h : ∀ h' tk v, Kept s.heap h' → Q (.int (if b > a then b else a) v) { s with heap := h', toks := tk }) : wpAny (model prog w) A (call (.builtin "max") [.int a t, .int b u]) Q E s := by
  refine max_two_ints hh fun h' tk hk => ?_
  by_cases hc : b > a
  · rw [if_pos hc]; have := h h' tk u hk; rwa [if_pos hc] at this
  · rw [if_neg hc]; have := h h' tk t hk; rwa [if_neg hc] at this

section
variable {B : Bs} {fr : Frm} {n : Nat} {s : Shared} {m : Str → Option Value}
theorem c_pool {f : Addr} (hf : okPool B.K f = true) (O : FrB B fr (n + 1)) (F : Fr fr.g fr.L s.heap m) {l : Addr} {vs : List Value} {ns : List Int} (hL : s.heap.IsList l vs.toArray) (hi : IntsAre vs ns) :
    wpAny (model B.prog B.w) fr.A (call (.ref f) [.ref l]) (fun v s' => ∃ S, v = .ref S ∧ s.heap.get? S = none ∧ SrcAt s'.heap S ∧ Kept s.heap s'.heap ∧ OutAs s s') (fun _ _ => False) s := by
  unfold okPool at hf
  split at hf
  · rename_i fd s1 s2 s3 hdef
    simp only [Bool.and_eq_true] at hf
    obtain ⟨⟨⟨⟨⟨⟨⟨⟨hnd, hl1⟩, hl2⟩, hl3⟩, hg⟩, hn⟩, hs1⟩, hs2⟩, hs3⟩ := hf
    split at hs1
    · rename_i e1 he1
      obtain ⟨a1, a2, rfl⟩ := asgOf_is he1
      split at hs2
      · rename_i e2 he2
        obtain ⟨b1, b2, rfl⟩ := asgOf_is he2
        obtain ⟨c1, c2, c3, c4, c5, c6, c7, c8, rfl⟩ := greatE_is hs2
        split at hs3
        · rename_i e3 he3
          obtain ⟨d1, rfl⟩ := vRet_is he3
          split at hs3
          · rename_i x1 x2 hx
            obtain ⟨d2, rfl⟩ := vList2_is hx
            simp only [Bool.and_eq_true] at hs3
            obtain ⟨g1, g2, g3, g4, g5, g6, g7, g8, g9, g10, g11, rfl⟩ := bigE_is hs3.1
            obtain ⟨j1, j2, j3, j4, k2, j5, j6, j7, k3, j8, j9, j10, j11, j12, j13, rfl, hk3⟩ := seedE_is hs3.2
            obtain ⟨q1, q2, q3, q4, q5⟩ := defOf_is hdef
            have hne : (Str.ofString "max") ≠ "__name__" := by decide
            refine enterQ O F [] (by intro a h; cases h) q1 q2 q3 (bind1 q2 q4 (noDf_is hnd)) (show (["script"] : List Str).Nodup by decide) q5 fun L s₁ hL' hkk ho O' F' => ?_
            have hLg : (hideAll s.heap []).IsList l vs.toArray := hL
            have nsw : isComp e1 = false := by obtain ⟨_, _, _, _, _, _, _, _, _, _, _, rfl, _⟩ := cellE_is hs1; rfl
            refine wpAny_execs_cons (wpAny_Assign_Name (x_cell hs1 O' F' (isLc_is hl1) rfl hLg hi fun cv ct h₂ tk₂ hk₂ => ?_) (no_swap nsw))
            refine stN' O' (frExt F' hk₂) (isLc_is hl2) fun h₃ tk₃ F₃ _ => ?_
            refine wpAny_execs_cons (wpAny_Assign_Name (Call_ (bnm O' F₃ (isGl_is hg) (noneK_is hn) PyProof.Rows.boot_max hne ?_)))
            refine callWith_builtin rfl (evalArgs_plain (spliced_cons (nm O' F₃ (isLc_is hl2) rfl (spliced_cons (wpAny_BinOp (UnaryOp_ (wpAny_Constant_int (PyProof.Rows.neg_int ?_))))))))
            refine nm O' F₃ (isLc_is hl2) rfl (PyProof.Rows.sub_int (spliced_nil ?_))
            refine max_two' O'.hh fun h₄ tk₄ v₄ hk₄ => ?_
            have hgr : 0 ≤ (if -((1 : Nat) : Int) - cv > cv then -((1 : Nat) : Int) - cv else cv) := great_nonneg cv
            generalize (if -((1 : Nat) : Int) - cv > cv then -((1 : Nat) : Int) - cv else cv) = gv at hgr
            refine stN' O' (frExt F₃ hk₄) (isLc_is hl3) fun h₅ tk₅ F₅ _ => ?_
            refine wpAny_execs_cons (wpAny_Return_some (List_ (spliced_more (IfExp_ (wpAny_isTrue_Compare1 (nm O' F₅ (isLc_is hl3) rfl (wpAny_BinOp (wpAny_Constant_int (wpAny_Constant_int (PyProof.Rows.pow_int (by omega) (by decide +kernel) ?_))))) rfl)))))
            refine PyProof.Rows.ge_int (wpAny_truthy_bool ?_)
            have fin : ∀ (iv : Int) (it : PySem.Tok) (tk : Nat), 0 ≤ iv → wpAny (model B.prog B.w) (fr.into s [] f fd L).A (spliced (backTo d2 (starEach [.BinOp (.BinOp (.BinOp (.BinOp (.Name "great" j1) .Mod (.Constant (.int (2147483629 : Nat)) j2 j3) j4) .Add (.Constant (.int (k2 : Nat)) j5 j6) j7) .Mult (.Constant (.int (k3 : Nat)) j8 j9) j10) .Mod (.Constant (.int (2147483647 : Nat)) j11 j12) j13] (fr.into s [] f fd L).env)))
                (fun vs' s₂ => wpAny (model B.prog B.w) (fr.into s [] f fd L).A (newList (.int iv it :: vs')) (fun v s' => ∃ S, flowV (.ret v) = .ref S ∧ s.heap.get? S = none ∧ SrcAt s'.heap S ∧ Kept s.heap s'.heap ∧ OutAs s s') (fun _ _ => False) s₂) (fun _ _ => False)
                { heap := h₅, gens := s₁.gens, drawn := s₁.drawn, toks := tk, os := s₁.os } := by
              intro iv it tk hiv
              refine spliced_more (wpAny_BinOp (wpAny_BinOp (wpAny_BinOp (wpAny_BinOp (nm O' F₅ (isLc_is hl3) rfl (wpAny_Constant_int (PyProof.Rows.mod_int (by omega) ?_)))))))
              refine wpAny_Constant_int (PyProof.Rows.add_int (wpAny_Constant_int (PyProof.Rows.mul_int ?_ (IntMulOk.of_right (bits_nat hk3)))))
              refine wpAny_Constant_int (PyProof.Rows.mod_int (by omega) (spliced_none ?_))
              generalize hz : Int.fmod _ ((2147483647 : Nat) : Int) = z
              have hr := seed_range ((gv.fmod (2147483629 : Nat) + k2) * k3)
              rw [hz] at hr
              refine wpAny_newObj_type (T := "list") (data := .seq #[.int iv it, .int z _]) (dict := none) ?_ (show 2 ≤ sizeLine by rw [sizeLine_eq]; decide)
              have hnew : s.heap.get? h₅.objs.size = none := by
                cases q : s.heap.get? h₅.objs.size with
                | none => rfl
                | some o => exact (Nat.lt_irrefl _ (Heap.lt_size (F₅.keep _ o q))).elim
              exact ⟨_, rfl, hnew, ⟨iv, z, it, _, _, 0, Heap.get?_push_size _ rfl, rfl, rfl, hiv, hr.1, hr.2⟩, fun b o e => Heap.get?_push_of_some _ (F₅.keep b o e), ho.trans ⟨rfl, rfl, rfl⟩⟩
            cases decide (((10 : Nat) : Int) ^ ((18 : Nat) : Int).toNat ≤ gv) with
            | true =>
              simp only [if_true]
              exact nm O' F₅ (isLc_is hl3) rfl (fin gv _ _ hgr)
            | false =>
              simp only [Bool.false_eq_true, if_false]
              exact wpAny_Constant_int (fin _ _ _ (Int.natCast_nonneg _))
          · cases hs3
        · cases hs3
      · cases hs2
    · cases hs1
  · cases hf
end
end Mine

namespace Mine
/-- self.a = list(y) -/
def isSetL (x a y : Str) (st : Stmt) : Bool := match st with
  | .Assign [.Attribute (.Name o _) b _] e _ => eqS o x && eqS b a && (match vCall e with
    | some (f, [z]) => eqS f "list" && isN y z
    | _ => false)
  | _ => false
theorem isSetL_is {x a y : Str} {st : Stmt} (h : isSetL x a y st = true) : ∃ p q t p1 p2 p3, st = .Assign [.Attribute (.Name x p) a q] (.Call (.Name "list" p1) [.Name y p2] [] p3) t := by
  unfold isSetL at h
  split at h
  · simp only [Bool.and_eq_true] at h
    obtain ⟨⟨h1, h2⟩, h3⟩ := h
    rw [eqS_iff.mp h1, eqS_iff.mp h2]
    split at h3
    · rename_i f z hv
      obtain ⟨p1, p3, rfl⟩ := vCall_is hv
      simp only [Bool.and_eq_true] at h3
      obtain ⟨p2, rfl⟩ := isN_is h3.2
      rw [eqS_iff.mp h3.1]
      exact ⟨_, _, _, _, _, _, rfl⟩
    · cases h3
  · cases h
/-- self.a = 0 -/
def isSet0 (x a : Str) (st : Stmt) : Bool := match st with
  | .Assign [.Attribute (.Name o _) b _] e _ => eqS o x && eqS b a && isI 0 e
  | _ => false
theorem isSet0_is {x a : Str} {st : Stmt} (h : isSet0 x a st = true) : ∃ p q t c p1, st = .Assign [.Attribute (.Name x p) a q] (.Constant (.int (0 : Nat)) c p1) t := by
  unfold isSet0 at h
  split at h
  · simp only [Bool.and_eq_true] at h
    obtain ⟨c, p1, rfl⟩ := isI_is h.2
    rw [eqS_iff.mp h.1.1, eqS_iff.mp h.1.2]
    exact ⟨_, _, _, _, _, rfl⟩
  · cases h
def okInit (K : Frag) (f : Addr) : Bool := match defOf K f ["self", "rows"] with
  | some (fd, [s1, s2, s3]) => noDf fd && isLc fd "self" && isLc fd "rows" && isGl fd "list" && noneK K "list" && isSetL "self" "rows" "rows" s1 && isSet0 "self" "at" s2 && isSet0 "self" "deep" s3
  | _ => false
end Mine

namespace Mine
section
variable {B : Bs} {fr : Frm} {n n' : Nat} {s : Shared} {m : Str → Option Value}
/-- Words.__init__, from within the call of the class -/
theorem c_init {f : Addr} {R : Result → Shared → Prop} {A : Around} (CK : ClsK B) (t1 : takerIn B.K B.C "rows" = some none) (hf : okInit B.K f = true) (O : FrB B fr n') (F : Fr fr.g fr.L s.heap m)
    (hst : A.frames = some (fr.env :: fr.outer)) (hh : A.handled = none) (hroom : A.depth + n + 20 ≤ recursionLimit) (hunits : A.units + 10 * (n + 20) ≤ cLine)
    {x dx l : Addr} {vs : List Value} (hx : s.heap.get? x = some (instObj B.C dx)) (hdx : s.heap.get? dx = some emptyDict) (xg : fr.g.get? x = none) (xL : x ≠ fr.L) (dg : fr.g.get? dx = none) (dL : dx ≠ fr.L) (hxd : x ≠ dx)
    (hl : s.heap.IsList l vs.toArray) (hsz : vs.length ≤ 1000000)
    (h : ∀ s' R' h1 h2 h3 k1 k2 k3 ta td np c', (∀ b o, s.heap.get? b = some o → b ≠ dx → s'.heap.get? b = some o) → s.heap.get? R' = none → s'.heap.get? R' = some (listObj vs c') →
      s'.heap.get? dx = some (dictOf [⟨h1, .str "rows" k1, .ref R'⟩, ⟨h2, .str "at" k2, .int (0 : Nat) ta⟩, ⟨h3, .str "deep" k3, .int (0 : Nat) td⟩] np) → OutAs s s' → R (.ok (.ret .none)) s') :
    codeAny (model B.prog B.w) A (.call (.ref f) ⟨[.ref x, .ref l], []⟩) R s := by
  unfold okInit at hf
  split at hf
  · rename_i fd s1 s2 s3 hdef
    simp only [Bool.and_eq_true] at hf
    obtain ⟨⟨⟨⟨⟨⟨⟨hnd, hl1⟩, hl2⟩, hg⟩, hn⟩, hs1⟩, hs2⟩, hs3⟩ := hf
    obtain ⟨a1, a2, a3, a4, a5, a6, rfl⟩ := isSetL_is hs1
    obtain ⟨b1, b2, b3, b4, b5, rfl⟩ := isSet0_is hs2
    obtain ⟨c1, c2, c3, c4, c5, rfl⟩ := isSet0_is hs3
    obtain ⟨q1, q2, q3, q4, q5⟩ := defOf_is hdef
    have X := O.X.keeps F.keep
    refine enterA (n := n) O F [dx] (by intro a h; simp only [List.mem_singleton] at h; subst h; exact ⟨dg, dL⟩) hst hh hroom hunits q1 q2 q3 (bind2 q2 q4 (noDf_is hnd) (by decide)) (show (["self", "rows"] : List Str).Nodup by decide) q5 fun L s₁ hL hk ho O' F' => ?_
    have dLL : dx ≠ L := by rintro rfl; rw [hdx] at hL; cases hL
    have gd : (hideAll s.heap [dx]).get? dx = none := hideAll_none _ (.head _)
    have gx : (hideAll s.heap [dx]).get? x = some (instObj B.C dx) := hideAll_get _ hx (by simpa using hxd)
    obtain ⟨ol, hol, hcl, ep, hdl⟩ := hl
    have hne : (Str.ofString "list") ≠ "__name__" := by decide
    refine wpAny_execs_cons (plainObj_wpAny_Assign_Attribute (Call_ (bnm O' F' (isGl_is hg) (noneK_is hn) PyProof.Rows.Boot.«list» hne ?_)))
    refine PyProof.Rows.callWith_type rfl (evalArgs_plain (spliced_cons (nm O' F' (isLc_is hl2) rfl (spliced_nil ?_))))
    refine call_list_seq l (.inl rfl) (hk _ _ hol) hcl hdl (fun h₂ c' hk₂ hR => ?_) (by rw [List.size_toArray]; exact line_of hsz)
    have F₂ := frExt F' hk₂
    have hRn : s.heap.get? s₁.heap.objs.size = none := by
      cases q : s.heap.get? s₁.heap.objs.size with
      | none => rfl
      | some o => exact (Nat.lt_irrefl _ (Heap.lt_size (hk _ o q))).elim
    have gR : (hideAll s.heap [dx]).get? s₁.heap.objs.size = none := by
      cases q : (hideAll s.heap [dx]).get? s₁.heap.objs.size with
      | none => rfl
      | some o => have := of_hideAll _ q; rw [hRn] at this; cases this
    have RL : s₁.heap.objs.size ≠ L := by
      rintro q
      obtain ⟨o, _, _, h1, _⟩ := F'.ns
      exact Nat.lt_irrefl _ (q ▸ Heap.lt_size h1)
    have Rd : s₁.heap.objs.size ≠ dx := by
      rintro q
      exact Nat.lt_irrefl _ (q ▸ Heap.lt_size (hk _ _ hdx))
    have N₂ : News (hideAll s.heap [dx]) L h₂ [(s₁.heap.objs.size, listObj vs c'), (dx, dictOf [] 0)] := by
      intro p hp
      simp only [List.mem_cons, List.not_mem_nil, or_false] at hp
      rcases hp with rfl | rfl
      · exact ⟨hR, RL, gR⟩
      · exact ⟨hk₂ _ _ (hk _ _ hdx), dLL, gd⟩
    have I₂ : InstAt h₂ x (instObj B.C dx) B.C (some (dictOf [] 0)) := ⟨F₂.keep _ _ gx, rfl, rfl, hk₂ _ _ (hk _ _ hdx)⟩
    refine nm O' F₂ (isLc_is hl1) rfl ?_
    refine set_dict F₂ O'.X N₂ I₂ rfl CK.sa CK.po t1 CK.hd rfl rfl (.tail Rd (.head (by intro p hp; cases hp))) (show 1 ≤ 1000 by decide) fun h₃ F₃ N₃ => ?_
    have I₃ := fun (es : List DictEntry) (k : Nat) (hd : h₃.get? dx = some (dictOf es k)) => (⟨F₃.keep _ _ gx, rfl, rfl, hd⟩ : InstAt h₃ x (instObj B.C dx) B.C (some (dictOf es k)))
    refine wpAny_execs_cons (plainObj_wpAny_Assign_Attribute (wpAny_Constant_int (nm O' F₃ (isLc_is hl1) rfl ?_)))
    refine set_dict F₃ O'.X N₃ (I₃ _ _ (N₃ _ (.tail _ (.head _))).1) rfl CK.sa CK.po CK.t2 CK.hd rfl rfl (.tail Rd (.head (by intro p hp; cases hp))) (show 2 ≤ 1000 by decide) fun h₄ F₄ N₄ => ?_
    refine wpAny_execs_cons (plainObj_wpAny_Assign_Attribute (wpAny_Constant_int (nm O' F₄ (isLc_is hl1) rfl ?_)))
    refine set_dict F₄ O'.X N₄ (⟨F₄.keep _ _ gx, rfl, rfl, (N₄ _ (.tail _ (.head _))).1⟩ : InstAt h₄ x (instObj B.C dx) B.C _) rfl CK.sa CK.po CK.t3 CK.hd rfl rfl (.tail Rd (.head (by intro p hp; cases hp))) (show 3 ≤ 1000 by decide) fun h₅ F₅ N₅ => ?_
    refine wpAny_execs_nil (h _ s₁.heap.objs.size _ _ _ _ _ _ _ _ _ c' (fun b o q ne => F₅.keep b o (hideAll_get _ q (by simpa using ne))) hRn (N₅ _ (.head _)).1 (N₅ _ (.tail _ (.head _))).1 (ho.trans ⟨rfl, rfl, rfl⟩))
  · cases hf
end
end Mine

namespace Mine
section
variable {B : Bs} {fr : Frm} {n : Nat} {s : Shared} {m : Str → Option Value}
/-- Words(rows) -/
theorem c_words {E : Value → Shared → Prop} (CK : ClsK B) (t1 : takerIn B.K B.C "rows" = some none) (hmk : makesIn B.K B.C = true) (hm : hasM B.K B.C "__init__" = true) (hf : okInit B.K (mAddr B.K B.C "__init__") = true)
    (O : FrB B fr (n + 2)) (F : Fr fr.g fr.L s.heap m) {l : Addr} {vs : List Value} (hl : s.heap.IsList l vs.toArray) (hsz : vs.length ≤ 1000000) {Q : Value → Shared → Prop}
    (h : ∀ s' x dx R' h1 h2 h3 k1 k2 k3 ta td np c', Kept s.heap s'.heap → s.heap.get? x = none → s.heap.get? dx = none → s.heap.get? R' = none → R' ≠ dx → s'.heap.get? x = some (instObj B.C dx) → s'.heap.get? R' = some (listObj vs c') →
      s'.heap.get? dx = some (dictOf [⟨h1, .str "rows" k1, .ref R'⟩, ⟨h2, .str "at" k2, .int (0 : Nat) ta⟩, ⟨h3, .str "deep" k3, .int (0 : Nat) td⟩] np) → OutAs s s' → Q (.ref x) s') :
    wpAny (model B.prog B.w) fr.A (call (.ref B.C) [.ref l]) Q E s := by
  obtain ⟨i1, i2, _⟩ := hasM_is hm
  have X := O.X.keeps F.keep
  obtain ⟨hh, g, d, tk, os⟩ := s
  refine wpAny_call (make_core (makes_of X hmk) (looks_findIn X i1) (fun self => bind_fn X self i2) (.inl rfl) ?_)
  have k : Kept hh ((hh.push emptyDict).push (instObj B.C hh.objs.size)) := fun b o e => Heap.get?_push_of_some _ (Heap.get?_push_of_some _ e)
  have F₁ := frExt F k
  have hx : ((hh.push emptyDict).push (instObj B.C hh.objs.size)).get? (hh.objs.size + 1) = some (instObj B.C hh.objs.size) := by heap_get
  have hdx : ((hh.push emptyDict).push (instObj B.C hh.objs.size)).get? hh.objs.size = some emptyDict := Heap.get?_push_of_some _ (Heap.get?_push_size _ rfl)
  have n1 : hh.get? (hh.objs.size + 1) = none := Heap.get?_none_of_le (Nat.le_succ _)
  have n0 : hh.get? hh.objs.size = none := Heap.get?_none_of_le (Nat.le_refl _)
  have gn : ∀ b, hh.get? b = none → fr.g.get? b = none := fun b e => by
    cases q : fr.g.get? b with
    | none => rfl
    | some o => have := F.keep _ _ q; rw [e] at this; cases this
  have nL : ∀ b, hh.get? b = none → b ≠ fr.L := fun b e q => by
    obtain ⟨o, _, _, h1, _⟩ := F.ns
    rw [← q, e] at h1; cases h1
  obtain ⟨ol, hol, hcl, ep, hdl⟩ := hl
  refine c_init (n := n) CK t1 hf O F₁ (A := fr.A.under _) (under_frames _ _ (Around.frames_deeper O.below.stack)) O.hh ?_ ?_ hx hdx (gn _ n1) (nL _ n1) (gn _ n0) (nL _ n0) (Nat.ne_of_gt (Nat.lt_succ_self _)) ⟨ol, k _ _ hol, hcl, ep, hdl⟩ hsz fun s' R' h1 h2 h3 k1 k2 k3 ta td np c' hk' hR hR' hD ho => ?_
  · have := O.room
    show fr.A₀.depth + 1 + 1 + n + 20 ≤ recursionLimit
    omega
  · have := O.units
    have hu : Code.cUnits (.builtin "type.__call__" ⟨Value.ref B.C :: [.ref l], []⟩) ≤ 10 := by
      show 1 + 3 * Code.frames (.builtin "type.__call__" ⟨Value.ref B.C :: [.ref l], []⟩) ≤ 10
      rw [show Code.frames (.builtin "type.__call__" ⟨Value.ref B.C :: [.ref l], []⟩) = 0 from by first | rfl | simp [Code.frames, Code.isFrame]]; decide
    show fr.A₀.units + 3 + Code.cUnits (.builtin "type.__call__" ⟨Value.ref B.C :: [.ref l], []⟩) + 10 * (n + 20) ≤ cLine
    omega
  · refine ⟨rfl, h s' _ hh.objs.size R' h1 h2 h3 k1 k2 k3 ta td np c' (fun b o e => hk' b o (k _ _ e) (Nat.ne_of_lt (Heap.lt_size e))) n1 n0 ?_ ?_ (hk' _ _ hx (Nat.ne_of_gt (Nat.lt_succ_self _))) hR' hD ho⟩
    · cases q : hh.get? R' with
      | none => rfl
      | some o => have := k _ _ q; rw [hR] at this; cases this
    · rintro rfl
      rw [hdx] at hR; cases hR
end
end Mine

namespace Mine

def lcScope (sc : Scope) : Bool := match sc.kind, sc.names with
  | .function, [(a, .local), (b, .local), (c, .local)] => eqS a ".0" && eqS b "at" && eqS c "text"
  | _, _ => false
theorem lcScope_is {sc : Scope} (h : lcScope sc = true) : sc.kind = .function ∧ sc.names = [(Str.ofString ".0", .local), (Str.ofString "at", .local), (Str.ofString "text", .local)] := by
  unfold lcScope at h
  split at h
  · rename_i h1 h2
    simp only [Bool.and_eq_true] at h
    refine ⟨h1, ?_⟩
    rw [h2, eqS_iff.mp h.1.1, eqS_iff.mp h.1.2, eqS_iff.mp h.2]
  · cases h
def isNoneE : Expr → Bool
  | .Constant .none _ _ => true
  | _ => false
theorem isNoneE_is {e : Expr} (h : isNoneE e = true) : ∃ a p, e = .Constant .none a p := by
  unfold isNoneE at h
  split at h
  · exact ⟨_, _, rfl⟩
  · cases h
/-- one text if the first sign of a text is one of the signs, another if it is not -/
def kindE (e : Expr) : Bool := match vIfE e with
  | some (t, b, o) => isT "sign" b && isT "name" o && (match vCmp t with
    | some (l, .In, r) => isIt "text" 0 l && isT signS r
    | _ => false)
  | none => false
theorem kindE_is {e : Expr} (h : kindE e = true) : ∃ p c b q a1 p1 p2 a2 p3 a3 p4 p5, e = .IfExp (.Compare (.Subscript (.Name "text" p) (.Constant (.int (0 : Nat)) c b) q) [.In] [.Constant (.str signS) a1 p1] p2) (.Constant (.str "sign") a2 p3) (.Constant (.str "name") a3 p4) p5 ∧ behindInMarks .In (.Constant (.str signS) a1 p1) = false := by
  unfold kindE at h
  split at h
  · rename_i t b o hv
    obtain ⟨p5, rfl⟩ := vIfE_is hv
    simp only [Bool.and_eq_true] at h
    obtain ⟨⟨h1, h2⟩, h3⟩ := h
    obtain ⟨a2, p3, rfl⟩ := isT_is h1
    obtain ⟨a3, p4, rfl⟩ := isT_is h2
    split at h3
    · rename_i l r hv
      obtain ⟨p2, rfl, hm⟩ := vCmp_is hv
      simp only [Bool.and_eq_true] at h3
      obtain ⟨p, c, b, q, rfl⟩ := isIt_is h3.1
      obtain ⟨a1, p1, rfl⟩ := isT_is h3.2
      exact ⟨_, _, _, _, _, _, _, _, _, _, _, _, rfl, hm⟩
    · cases h3
  · cases h
/-- (kind, text, at, None, None) -/
def rowE : Expr → Bool
  | .Tuple [a, b, c, d, e] _ _ => kindE a && isN "text" b && isN "at" c && isNoneE d && isNoneE e
  | _ => false
theorem rowE_is {x : Expr} (h : rowE x = true) : ∃ a p1 p2 a3 p3 a4 p4 k p, x = .Tuple [a, .Name "text" p1, .Name "at" p2, .Constant .none a3 p3, .Constant .none a4 p4] k p ∧ kindE a = true := by
  unfold rowE at h
  split at h
  · simp only [Bool.and_eq_true] at h
    obtain ⟨⟨⟨⟨h1, h2⟩, h3⟩, h4⟩, h5⟩ := h
    obtain ⟨_, rfl⟩ := isN_is h2
    obtain ⟨_, rfl⟩ := isN_is h3
    obtain ⟨_, _, rfl⟩ := isNoneE_is h4
    obtain ⟨_, _, rfl⟩ := isNoneE_is h5
    exact ⟨_, _, _, _, _, _, _, _, _, rfl, h1⟩
  · cases h
/-- rows = [row for at, text in enumerate(told)] -/
def isRows : Stmt → Bool
  | .Assign [.Name x p] (.ListComp elt [⟨.Tuple [.Name a _, .Name b _] _ _, it, [], 0⟩] sc q) _ => eqS x "rows" && eqS a "at" && eqS b "text" && rowE elt && lcScope sc && Nat.beq p.line q.line && (match vCall it with
    | some (f, [y]) => eqS f "enumerate" && isN "told" y
    | _ => false)
  | _ => false
theorem isRows_is {st : Stmt} (h : isRows st = true) : ∃ p elt pa pb kk tp p1 p2 p3 sc q sp, st = .Assign [.Name "rows" p] (.ListComp elt [⟨.Tuple [.Name "at" pa, .Name "text" pb] kk tp, .Call (.Name "enumerate" p1) [.Name "told" p2] [] p3, [], 0⟩] sc q) sp ∧ rowE elt = true ∧ lcScope sc = true ∧ p.line = q.line := by
  unfold isRows at h
  split at h
  · simp only [Bool.and_eq_true] at h
    obtain ⟨⟨⟨⟨⟨⟨h1, h2⟩, h3⟩, h4⟩, h5⟩, h6⟩, h7⟩ := h
    split at h7
    · rename_i f y hv
      obtain ⟨p1, p3, rfl⟩ := vCall_is hv
      simp only [Bool.and_eq_true] at h7
      obtain ⟨p2, rfl⟩ := isN_is h7.2
      rw [eqS_iff.mp h1, eqS_iff.mp h2, eqS_iff.mp h3, eqS_iff.mp h7.1]
      exact ⟨_, _, _, _, _, _, _, _, _, _, _, _, rfl, h4, h5, Nat.eq_of_beq_eq_true h6⟩
    · cases h7
  · cases h
/-- ('end', '', len(told), None, None) -/
def endE : Expr → Bool
  | .Tuple [a, b, c, d, e] _ _ => isT "end" a && isT "" b && isNoneE d && isNoneE e && (match vCall c with
    | some (f, [y]) => eqS f "len" && isN "told" y
    | _ => false)
  | _ => false
theorem endE_is {x : Expr} (h : endE x = true) : ∃ a1 p1 a2 p2 p3 p4 p5 a6 p6 a7 p7 k p, x = .Tuple [.Constant (.str "end") a1 p1, .Constant (.str "") a2 p2, .Call (.Name "len" p3) [.Name "told" p4] [] p5, .Constant .none a6 p6, .Constant .none a7 p7] k p := by
  unfold endE at h
  split at h
  · simp only [Bool.and_eq_true] at h
    obtain ⟨⟨⟨⟨h1, h2⟩, h3⟩, h4⟩, h5⟩ := h
    obtain ⟨_, _, rfl⟩ := isT_is h1
    obtain ⟨_, _, rfl⟩ := isT_is h2
    obtain ⟨_, _, rfl⟩ := isNoneE_is h3
    obtain ⟨_, _, rfl⟩ := isNoneE_is h4
    split at h5
    · rename_i f y hv
      obtain ⟨_, _, rfl⟩ := vCall_is hv
      simp only [Bool.and_eq_true] at h5
      obtain ⟨_, rfl⟩ := isN_is h5.2
      rw [eqS_iff.mp h5.1]
      exact ⟨_, _, _, _, _, _, _, _, _, _, _, _, _, rfl⟩
    · cases h5
  · cases h
/-- here = Words(rows + [end]) -/
def isHere (st : Stmt) : Bool := match asgOf "here" st with
  | some e => (match vCall e with
    | some (f, [a]) => eqS f "Words" && (match vAdd a with
      | some (l, .List [x] _) => isN "rows" l && endE x
      | _ => false)
    | _ => false)
  | none => false
theorem isHere_is {st : Stmt} (h : isHere st = true) : ∃ p q p1 p2 p3 x p4 p5, st = .Assign [.Name "here" p] (.Call (.Name "Words" p1) [.BinOp (.Name "rows" p2) .Add (.List [x] p3) p4] [] p5) q ∧ endE x = true := by
  unfold isHere at h
  split at h
  · rename_i e he
    obtain ⟨p, q, rfl⟩ := asgOf_is he
    split at h
    · rename_i f a hv
      obtain ⟨p1, p5, rfl⟩ := vCall_is hv
      simp only [Bool.and_eq_true] at h
      replace h := h
      obtain ⟨h1, h2⟩ := h
      rw [eqS_iff.mp h1]
      split at h2
      · rename_i l x p3 hv
        obtain ⟨p4, rfl⟩ := vAdd_is hv
        simp only [Bool.and_eq_true] at h2
        obtain ⟨p2, rfl⟩ := isN_is h2.1
        exact ⟨_, _, _, _, _, _, _, _, rfl, h2.2⟩
      · cases h2
    · cases h
  · cases h
/-- for turn in range(many): here.deeper() -/
def isDown : Stmt → Bool
  | .For (.Name t _) it [.Expr e ep] [] _ => eqS t "turn" && isM0 "here" "deeper" e && Nat.beq e.pos.line ep.line && (match vCall it with
    | some (f, [y]) => eqS f "range" && isN "many" y
    | _ => false)
  | _ => false
theorem isDown_is {st : Stmt} (h : isDown st = true) : ∃ pt p1 p2 p3 e ep fp, st = .For (.Name "turn" pt) (.Call (.Name "range" p1) [.Name "many" p2] [] p3) [.Expr e ep] [] fp ∧ isM0 "here" "deeper" e = true := by
  unfold isDown at h
  split at h
  · simp only [Bool.and_eq_true] at h
    obtain ⟨⟨⟨h1, h2⟩, h3⟩, h4⟩ := h
    split at h4
    · rename_i f y hv
      obtain ⟨p1, p3, rfl⟩ := vCall_is hv
      simp only [Bool.and_eq_true] at h4
      obtain ⟨p2, rfl⟩ := isN_is h4.2
      rw [eqS_iff.mp h1, eqS_iff.mp h4.1]
      exact ⟨_, _, _, _, _, _, _, rfl, h2⟩
    · cases h4
  · cases h
def okWords (K : Frag) (f : Addr) : Bool := match defOf K f ["told", "many"] with
  | some (fd, [s1, s2, s3, s4]) => noDf fd && isLc fd "told" && isLc fd "many" && isLc fd "rows" && isLc fd "here" && isLc fd "turn" && isGl fd "Words" && isGl fd "enumerate" && isGl fd "len" && isGl fd "range" &&
    noneK K "enumerate" && noneK K "len" && noneK K "range" && isRows s1 && isHere s2 && isDown s3 && isRetN "here" s4
  | _ => false
end Mine

namespace Mine
section
variable {prog : Program} {w : World} {A : Around} {E : Value → Shared → Prop} {s : Shared}
theorem goodT_is {x : Str} (h : goodT x = true) : ∃ c, x.cps[0]? = some c ∧ 0 < x.length ∧ kindOf x = (match (!(Builtin.Str.occurrences signS ⟨#[c]⟩ 0 signS.length 1).isEmpty) with | true => Str.ofString "sign" | false => Str.ofString "name") := by
  unfold goodT at h
  split at h
  · rename_i c r hc
    have h0 : x.cps[0]? = some c := by rw [← Array.getElem?_toList, hc]; rfl
    refine ⟨c, h0, ?_, ?_⟩
    · have := (Array.getElem?_eq_some_iff.mp h0).1
      exact this
    · unfold kindOf
      rw [hc]
      dsimp only
      rw [eq_of_beq h]
      cases memN c signC <;> rfl
  · cases h

theorem x_row {cenv : Env} {elt : Expr} {mC : Str → Option Value} {x : Str} {t u : PySem.Tok} {i : Int} {Q : Value → Shared → Prop} (hf : rowE elt = true) (hk : cenv.scope.kind = .function) (hlt : cenv.kindOf "text" = some .local) (hla : cenv.kindOf "at" = some .local)
    (hn : s.heap.Ns cenv.locals mC) (h1 : mC "text" = some (.str x t)) (h2 : mC "at" = some (.int i u)) (hx : goodT x = true)
    (hQ : ∀ tk k1, Q (.ref s.heap.objs.size) { s with heap := s.heap.push (tupObj [.str (kindOf x) k1, .str x t, .int i u, .none, .none] 0), toks := tk }) :
    wpAny (model prog w) A (eval elt cenv) Q E s := by
  obtain ⟨a, p1, p2, a3, p3, a4, p4, k, p, rfl, hkd⟩ := rowE_is hf
  obtain ⟨q1, q2, q3, q4, q5, q6, q7, q8, q9, q10, q11, q12, rfl, hm⟩ := kindE_is hkd
  obtain ⟨c, hc, hlen, hkind⟩ := goodT_is hx
  refine Tuple_ (spliced_more (IfExp_ (wpAny_isTrue_Compare1 (Subscript_ (wpAny_Name (wpAny_loadName_local hk hlt hn h1 (wpAny_Constant_int ?_)))) hm)))
  refine tail_any (T := "str") (id := "str.__getitem__") rfl PySem.F.slot_str_getitem.lookup (PyProof.Rows.getItem_str (c := c) rfl ?_ ?_) rfl
  · have : seqIndex? ((0 : Nat) : Int) x.length = some 0 := seqIndex_nat hlen
    rw [this]; exact hc
  · refine wpAny_Constant_str (PyProof.Rows.in_str (wpAny_truthy_bool ?_))
    have fin : ∀ (k1 : PySem.Tok) (tk : Nat), wpAny (model prog w) A (spliced (backTo p (starEach [.Name "text" p1, .Name "at" p2, .Constant .none a3 p3, .Constant .none a4 p4] cenv)))
        (fun vs s₁ => wpAny (model prog w) A (newTuple (.str (kindOf x) k1 :: vs)) Q E s₁) E { s with toks := tk } := by
      intro k1 tk
      refine spliced_more (wpAny_Name (wpAny_loadName_local hk hlt hn h1 ?_))
      refine spliced_more (wpAny_Name (wpAny_loadName_local hk hla hn h2 ?_))
      refine spliced_more (wpAny_Constant_none (spliced_more (wpAny_Constant_none (spliced_none ?_))))
      exact wpAny_newObj_type (T := "tuple") (data := .seq #[.str (kindOf x) k1, .str x t, .int i u, .none, .none]) (dict := none) (hQ _ _) (show 5 ≤ sizeLine by rw [sizeLine_eq]; decide)
    cases hb : (!(Builtin.Str.occurrences signS ⟨#[c]⟩ 0 signS.length 1).isEmpty) with
    | true =>
      rw [hb] at hkind
      simp only [if_true]
      rw [hkind] at fin
      exact wpAny_Constant_str (fin _ _)
    | false =>
      rw [hb] at hkind
      simp only [Bool.false_eq_true, if_false]
      rw [hkind] at fin
      exact wpAny_Constant_str (fin _ _)
end
end Mine

namespace Mine

/-- the rows that stand for the first texts -/
def RowsAt (h : Heap) (ys : List Value) (told : List Str) : Prop :=
  ∀ (j : Nat) v, ys[j]? = some v → ∃ x T k1 k2 k3 n, told[j]? = some x ∧ v = .ref T ∧ h.get? T = some (tupObj [.str (kindOf x) k1, .str x k2, .int j k3, .none, .none] n)
theorem RowsAt.mono {h h' : Heap} {ys : List Value} {told : List Str} (r : RowsAt h ys told) (k : ∀ T vs n, h.get? T = some (tupObj vs n) → h'.get? T = some (tupObj vs n)) : RowsAt h' ys told := fun j v e => by
  obtain ⟨x, T, k1, k2, k3, n, e1, e2, e3⟩ := r j v e
  exact ⟨x, T, k1, k2, k3, n, e1, e2, k _ _ _ e3⟩
theorem tup_apart {h : Heap} {a : Addr} {vs : List Value} {ep : Nat} {o : Obj} (h1 : h.get? a = some (tupObj vs ep)) (h2 : h.get? a = some o) : o.cls = .type "tuple" ∧ ∃ xs n, o.data = .seq xs n := by
  rw [h1] at h2; cases h2; exact ⟨rfl, _, _, rfl⟩

section
variable {prog : Program} {w : World} {A : Around} {s : Shared}
theorem comp_loop {cenv : Env} {elt iter : Expr} {pa pb tp q : Pos} {kk : Nat} {sc : Scope} {e it l D : Addr} {us : List Value} {told : List Str} {ep : Nat} {m0 : Str → Option Value} {R : Result → Shared → Prop}
    (hf : rowE elt = true) (hh : A.handled = none) (hk : cenv.scope.kind = .function) (hlt : cenv.kindOf "text" = some .local) (hla : cenv.kindOf "at" = some .local)
    (he : IsEnum s.heap e it 0 .none) (hit : s.heap.IsListIter it l 0) (hl : s.heap.get? l = some (listObj us ep)) (hn : s.heap.Ns cenv.locals m0) (hD : s.heap.get? D = some (listObj [] 0))
    (n1 : e ≠ it) (n2 : e ≠ cenv.locals) (n3 : e ≠ D) (n4 : it ≠ cenv.locals) (n5 : it ≠ D) (n6 : cenv.locals ≠ D) (l1 : l ≠ e) (l2 : l ≠ it) (l3 : l ≠ cenv.locals) (l4 : l ≠ D)
    (hstr : StrsAre us told) (hgood : ∀ x ∈ told, goodT x = true) (hlen : told.length ≤ 1000)
    (hR : ∀ h' tk ys ep', (∀ b o, b ≠ e → b ≠ it → b ≠ cenv.locals → b ≠ D → s.heap.get? b = some o → h'.get? b = some o) → (∃ m', h'.Ns cenv.locals m') → h'.get? D = some (listObj ys ep') → ys.length = told.length → RowsAt h' ys told →
      R (.ok .next) { s with heap := h', toks := tk }) :
    codeAny (model prog w) A (.compLoop (.ListComp elt [⟨.Tuple [.Name "at" pa, .Name "text" pb] kk tp, iter, [], 0⟩] sc q) 0 (.ref e) (.ref D) cenv) R s := by
  refine kcp_loop (fun k s' => ∃ h' tk i ys ep' m' old, s' = { s with heap := h', toks := tk } ∧ i ≤ us.length ∧ k = us.length + 1 - i ∧ ys.length = i ∧ IsEnum h' e it ((i : Nat) : Int) old ∧ h'.IsListIter it l i ∧ h'.get? l = some (listObj us ep) ∧
      h'.Ns cenv.locals m' ∧ h'.get? D = some (listObj ys ep') ∧ RowsAt h' ys told ∧ ∀ b o, b ≠ e → b ≠ it → b ≠ cenv.locals → b ≠ D → s.heap.get? b = some o → h'.get? b = some o) ?_ (us.length + 1)
    ⟨s.heap, s.toks, 0, [], 0, m0, .none, rfl, Nat.zero_le _, rfl, rfl, he, hit, hl, hn, hD, fun j v q => by simp at q, fun _ _ _ _ _ _ x => x⟩
  rintro k s' ⟨H, tk, i, ys, ep', m', old, rfl, hi, rfl, hyl, he', hit', hl', hn', hD', hrows, hkp⟩
  have hL : H.IsList l us.toArray := ⟨_, hl', rfl, ep, rfl⟩
  cases hv : us[i]? with
  | none =>
    have hsz : i = us.length := Nat.le_antisymm hi (by simpa using hv)
    refine wpAny_pyNext_enum_end hh he' hit' hL (by simpa using hv) fun h₁ hx₁ => ?_
    refine hR h₁ tk ys ep' (fun b o b1 b2 b3 b4 e => hx₁ b o b2 (hkp b o b1 b2 b3 b4 e)) ⟨m', hn'.extBut hx₁ (Ne.symm n4)⟩ (hx₁ _ _ (Ne.symm n5) hD') (by rw [hyl, hsz]; exact hstr.1) (hrows.mono fun T vs n q => hx₁ T _ ?_ q)
    rintro rfl
    obtain ⟨o, z1, z2, z3⟩ := hit'
    obtain ⟨_, xs, nn, z⟩ := tup_apart q z1
    rw [z] at z3; cases z3
  | some v =>
    obtain ⟨x, t, hx, rfl⟩ := hstr.2 i v hv
    have hlt' : i < us.length := (List.getElem?_eq_some_iff.mp hv).1
    have heH : e < H.objs.size := Heap.lt_size he'
    obtain ⟨oC, esC, epC, hoC, hdC, hkC, hfC⟩ := id hn'
    have hCH : cenv.locals < H.objs.size := Heap.lt_size hoC
    have hDH : D < H.objs.size := Heap.lt_size hD'
    have hlH : l < H.objs.size := Heap.lt_size hl'
    have hiH : it < H.objs.size := by obtain ⟨o, z, _⟩ := hit'; exact Heap.lt_size z
    refine wpAny_pyNext_enum_item he' hit' hL (by simpa using hv) n1 fun h₁ heo hit₁ ht₁ hz₁ hk₁ => ?_
    refine wpAny_letOwnedTupleGo_enum heo fun h₂ he₂ hs₂ => ?_
    replace hs₂ : Heap.SameBut e h₁ h₂ := hs₂
    have ht₂ : h₂.IsTuple H.objs.size #[.int i tk, .str x t] := ⟨_, (hs₂.2 _ (Nat.ne_of_gt heH)).trans ht₁, rfl, _, rfl⟩
    have up₂ : ∀ b o, b ≠ e → b ≠ it → H.get? b = some o → h₂.get? b = some o := fun b o b1 b2 q => hs₂.extBut b o b1 (hk₁ b o b1 b2 q)
    refine kcp_assign (env := cenv) hh ht₂ hla hlt (by rw [hk]; rfl) (hn'.at' fun o q => up₂ _ o (Ne.symm n2) (Ne.symm n4) q) fun h₃ tk₃ hn₃ hk₃ => ?_
    have up₃ : ∀ b o, b ≠ e → b ≠ it → b ≠ cenv.locals → H.get? b = some o → h₃.get? b = some o := fun b o b1 b2 b3 q => hk₃ b o b3 (up₂ b o b1 b2 q)
    refine x_row hf hk hlt hla hn₃ rfl rfl (hgood x (List.mem_of_getElem? hx)) fun tk₄ k1 => ?_
    have hD₄ : (h₃.push (tupObj [.str (kindOf x) k1, .str x t, .int i tk, .none, .none] 0)).get? D = some (listObj ys ep') := Heap.get?_push_of_some _ (up₃ _ _ (Ne.symm n3) (Ne.symm n5) (Ne.symm n6) hD')
    refine append_at (its := ys.toArray) (n := ep') (hsz := by rw [List.size_toArray, hyl]; exact line_of (by have := hstr.1; omega)) hD₄ fun h₅ hs₅ hD₅ => ?_
    have up₅ : ∀ b o, b ≠ e → b ≠ it → b ≠ cenv.locals → b ≠ D → H.get? b = some o → h₅.get? b = some o := fun b o b1 b2 b3 b4 q => hs₅.extBut b o b4 (Heap.get?_push_of_some _ (up₃ b o b1 b2 b3 q))
    have he₃ : h₅.get? e = some _ := hs₅.extBut _ _ n3 (Heap.get?_push_of_some _ (hk₃ _ _ n2 he₂))
    have hit₅ : h₅.IsListIter it l (i + 1) := by
      obtain ⟨o, z1, z2⟩ := hit₁
      exact ⟨o, hs₅.extBut _ _ n5 (Heap.get?_push_of_some _ (hk₃ _ _ n4 (hs₂.extBut _ _ (Ne.symm n1) z1))), z2⟩
    have hTD : h₃.objs.size ≠ D := by
      rintro rfl
      exact Nat.lt_irrefl _ (Heap.lt_size (up₃ _ _ (Ne.symm n3) (Ne.symm n5) (Ne.symm n6) hD'))
    refine ⟨us.length + 1 - (i + 1), by omega, h₅, tk₄, i + 1, ys ++ [.ref h₃.objs.size], ep' + 1, _, .str x t, rfl, hlt', rfl, by rw [List.length_append, hyl]; rfl, ?_, hit₅, up₅ _ _ l1 l2 l3 l4 hl',
      (hn₃.at' fun o q => hs₅.extBut _ o n6 (Heap.get?_push_of_some _ q)), ?_, ?_, fun b o b1 b2 b3 b4 q => up₅ b o b1 b2 b3 b4 (hkp b o b1 b2 b3 b4 q)⟩
    · have : ((i + 1 : Nat) : Int) = (i : Int) + 1 := by push_cast; rfl
      rw [this]; exact he₃
    · rw [hD₅]; simp
    · intro j v' hj
      by_cases hjl : j < ys.length
      · rw [List.getElem?_append_left hjl] at hj
        obtain ⟨x', T, k1', k2, k3, n, e1, e2, e3⟩ := hrows j v' hj
        refine ⟨x', T, k1', k2, k3, n, e1, e2, up₅ T _ ?_ ?_ ?_ ?_ e3⟩
        · rintro rfl
          obtain ⟨_, xs, nn, z⟩ := tup_apart e3 he'
          cases z
        · rintro rfl
          obtain ⟨o, z1, z2, z3⟩ := hit'
          obtain ⟨_, xs, nn, z⟩ := tup_apart e3 z1
          rw [z] at z3; cases z3
        · rintro rfl
          obtain ⟨_, xs, nn, z⟩ := tup_apart e3 hoC
          rw [z] at hdC; cases hdC
        · rintro rfl
          obtain ⟨z, _⟩ := tup_apart e3 hD'
          injection z with z
          revert z
          decide
      · have hje : j = ys.length := by
          have := (List.getElem?_eq_some_iff.mp hj).1
          simp only [List.length_append, List.length_cons, List.length_nil] at this
          omega
        subst hje
        rw [List.getElem?_append_right (Nat.le_refl _), Nat.sub_self] at hj
        cases hj
        refine ⟨x, h₃.objs.size, k1, t, tk, 0, by rw [hyl]; exact hx, rfl, ?_⟩
        rw [hyl]
        exact hs₅.extBut _ _ hTD (Heap.get?_push_size _ rfl)
end
end Mine

namespace Mine
theorem adr_ne {a b : Addr} (h : @LT.lt Nat _ a b ∨ @LT.lt Nat _ b a) : a ≠ b := by
  rintro rfl; rcases h with h | h <;> exact Nat.lt_irrefl _ h
theorem swap_rows {env : Env} {elt : Expr} {gs : List Comprehension} {sc : Scope} {p q : Pos} {ln : Nat} (hk : env.scope.kind = .function) (hl : env.kindOf "rows" = some .local) (hp : p.line = q.line) (hn : sc.names = [(Str.ofString ".0", .local), (Str.ofString "at", .local), (Str.ofString "text", .local)]) :
    swapsWith (.ListComp elt gs sc q) (some (.Name "rows" p)) ln env = pure true := by
  have hb : env.blockKind = .function := by unfold Env.blockKind; rw [hk]; rfl
  show (pure (env.blockKind == .function && env.kindOf "rows" == some .local && p.line == q.line && !(sc.names.any fun (n, k) => n == "rows" && (k == .local || k == .cell))) : Sem Bool) = pure true
  rw [hb, hl, hp, hn]
  have e1 : (q.line == q.line) = true := by simp
  rw [e1]
  rfl

section
variable {B : Bs} {fr : Frm} {n : Nat} {s : Shared} {m : Str → Option Value}
theorem x_rows {st : Stmt} {E : Value → Shared → Prop} {Q : Flow → Shared → Prop} (O : FrB B fr n) (F : Fr fr.g fr.L s.heap m) (hst : isRows st = true) (hl1 : find "told" fr.scope.names = some .local) (hl2 : find "rows" fr.scope.names = some .local)
    (he : find "enumerate" fr.scope.names = some .globalImplicit) (hne : nsIn B.K mainGlobals "enumerate" = some none) {l : Addr} {us : List Value} {told : List Str} {ep : Nat} (hm : m "told" = some (.ref l)) (hL : s.heap.get? l = some (listObj us ep))
    (hstr : StrsAre us told) (hgood : ∀ x ∈ told, goodT x = true) (hlen : told.length ≤ 1000)
    (h : ∀ D h' tk ys ep', Fr fr.g fr.L h' (fun z => if z = "rows" then some (.ref D) else m z) → (∀ b o, b ≠ fr.L → s.heap.get? b = some o → h'.get? b = some o) → s.heap.get? D = none → h'.get? D = some (listObj ys ep') → ys.length = told.length → RowsAt h' ys told →
      Q .next { s with heap := h', toks := tk }) :
    wpAny (model B.prog B.w) fr.A (exec st fr.env) Q E s := by
  obtain ⟨p, elt, pa, pb, kk, tp, p1, p2, p3, sc, q, sp, rfl, hrow, hsc, hline⟩ := isRows_is hst
  obtain ⟨hkind, hnames⟩ := lcScope_is hsc
  have kd : fr.env.kindOf "rows" = some .local := by show fr.scope.names.lookup (Str.ofString "rows") = _; rw [← find_eq]; exact hl2
  rw [exec_Assign_Name_used _ _ _ _ (swap_rows (env := fr.env) O.kind kd hline hnames)]
  refine wpAny_bind (wpAny_standAt (wpAny_bind ?_))
  show wpAny _ fr.A (do let _ ← comprehension (.ListComp elt [⟨.Tuple [.Name "at" pa, .Name "text" pb] kk tp, .Call (.Name "enumerate" p1) [.Name "told" p2] [] p3, [], 0⟩] sc q) sc fr.env _ (newList []) false (eval (.Call (.Name "enumerate" p1) [.Name "told" p2] [] p3) fr.env) (some (assign (.Name "rows" p) fr.env))) _ _ s
  refine wpAny_bind (wpAny_mono (wpAny_comprehension_use (Q := fun _ s' => Q .next s') rfl (fun _ => rfl) ?_ hkind ?_ ?_) (fun _ s' hq => wpAny_pure (wpAny_pure hq)) fun _ _ e => e)
  · rw [hnames]; decide
  · rw [hnames]; decide
  have hlt : sc.names.lookup (Str.ofString "text") = some .local := by rw [hnames]; decide
  have hla : sc.names.lookup (Str.ofString "at") = some .local := by rw [hnames]; decide
  have hcell : ∀ y ∈ sc.names, y.2 ≠ .cell := by rw [hnames]; decide
  refine Call_ (bnm O F he hne PyProof.Rows.boot_enumerate (by decide) ?_)
  refine PyProof.Rows.callWith_type rfl (evalArgs_plain (spliced_cons (nm O F hl1 hm (spliced_nil ?_))))
  obtain ⟨oL, _, _, hfL, hdL, _⟩ := id F.ns
  refine call_enumerate_list (items := us.toArray) ⟨_, hL, rfl, ep, rfl⟩ fun h₁ he₁ hit₁ hsz₁ hk₁ => ?_
  refine wpAny_pyIter_enum he₁ ?_
  refine wpAny_newObj_type (T := "list") (data := .seq #[]) (dict := none) (wpAny_newFunctionEnv hcell (by intro y hy; simp at hy) (fun h₂ hns₂ hsb₂ => ?_) hkind) (show 0 ≤ sizeLine from Nat.zero_le _)
  dsimp only at hns₂ hsb₂ ⊢
  generalize hH2 : h₁.push ({ cls := .type "list", dict := none, data := .seq #[] } : Obj) = H2 at hns₂ hsb₂ ⊢
  have hC : H2.objs.size = h₁.objs.size + 1 := by rw [← hH2, Heap.size_push]
  have hlH : @LT.lt Nat _ l s.heap.objs.size := Heap.lt_size hL
  have hLH : @LT.lt Nat _ fr.L s.heap.objs.size := Heap.lt_size hfL
  have old : ∀ b o, h₁.get? b = some o → h₂.get? b = some o := fun b o e => hsb₂.extBut b o (by have := Heap.lt_size e; show b ≠ H2.objs.size; rw [hC]; exact Nat.ne_of_lt (Nat.lt_succ_of_lt this)) (Heap.get?_push_of_some _ (hH2 ▸ Heap.get?_push_of_some _ e))
  have hD₂ : h₂.get? h₁.objs.size = some (listObj [] 0) := hsb₂.extBut _ _ (by rw [hC]; exact Nat.ne_of_lt (Nat.lt_succ_self _)) (Heap.get?_push_of_some _ (hH2 ▸ Heap.get?_push_size _ rfl))
  have loop : ∀ cenv : Env, cenv.scope = sc → cenv.locals = H2.objs.size → codeAny (model B.prog B.w) fr.A (.compLoop (.ListComp elt [⟨.Tuple [.Name "at" pa, .Name "text" pb] kk tp, .Call (.Name "enumerate" p1) [.Name "told" p2] [] p3, [], 0⟩] sc q) 0 (.ref (s.heap.objs.size + 1)) (.ref h₁.objs.size) cenv)
      (fun r s' => match r with
        | .ok _ => wpAny (model B.prog B.w) fr.A (assign (.Name "rows" p) fr.env (.ref h₁.objs.size)) (fun _ s'' => ∃ m, s''.heap.Ns H2.objs.size m ∧ ∀ h', Heap.SameBut H2.objs.size s''.heap h' → Q .next { s'' with heap := h' }) E s'
        | .error x => ∃ m, s'.heap.Ns H2.objs.size m ∧ ∀ h', Heap.SameBut H2.objs.size s'.heap h' → wpAny (model B.prog B.w) fr.A (PySem.passOn "comprehension.variables-let-go" x cenv : Sem Value) (fun _ s' => Q .next s') E { s' with heap := h' })
      { s with heap := h₂ } := by
    intro cenv hcs hcl
    have hk1 : cenv.scope.kind = .function := by rw [hcs]; exact hkind
    refine comp_loop (m0 := _) (told := told) (us := us) (ep := ep) (l := l) (it := s.heap.objs.size) hrow O.hh hk1 (by unfold Env.kindOf; rw [hcs]; exact hlt) (by unfold Env.kindOf; rw [hcs]; exact hla) (old _ _ he₁) ?_ (old _ _ (hk₁ _ _ hL)) (by rw [hcl]; exact hns₂) hD₂ (Nat.succ_ne_self _) ?_ ?_ ?_ ?_ ?_ ?_ ?_ ?_ ?_ hstr hgood hlen ?_
    · obtain ⟨o, z, z2⟩ := hit₁; exact ⟨o, old _ _ z, z2⟩
    · refine adr_ne ?_; rw [hcl, hC, hsz₁]; omega
    · refine adr_ne ?_; rw [hsz₁]; omega
    · refine adr_ne ?_; rw [hcl, hC, hsz₁]; omega
    · refine adr_ne ?_; rw [hsz₁]; omega
    · rw [hcl, hC]; exact Nat.succ_ne_self _
    · exact adr_ne (by omega)
    · exact adr_ne (by omega)
    · refine adr_ne ?_; rw [hcl, hC, hsz₁]; omega
    · refine adr_ne ?_; rw [hsz₁]; omega
    · intro h₃ tk ys ep' hk₃ hns₃ hD₃ hyl hrows
      obtain ⟨mC, hns₃⟩ := hns₃
      rw [hcl] at hns₃
      have old₃ : ∀ b o, s.heap.get? b = some o → h₃.get? b = some o := fun b o e => by
        have hb : @LT.lt Nat _ b s.heap.objs.size := Heap.lt_size e
        refine hk₃ b o (adr_ne (by omega)) (adr_ne (by omega)) (adr_ne (by rw [hcl, hC, hsz₁]; omega)) (adr_ne (by rw [hsz₁]; omega)) (old _ _ (hk₁ _ _ e))
      have F₃ : Fr fr.g fr.L h₃ m := frExt F old₃
      refine wpAny_assign_Name (stN' O F₃ hl2 fun h₄ tk₄ F₄ hs₄ => ?_)
      have hCL : H2.objs.size ≠ fr.L := adr_ne (by rw [hC, hsz₁]; omega)
      have hDL : h₁.objs.size ≠ fr.L := adr_ne (by rw [hsz₁]; omega)
      have hDC : h₁.objs.size ≠ H2.objs.size := by rw [hC]; exact Nat.ne_of_lt (Nat.lt_succ_self _)
      have gC : fr.g.get? H2.objs.size = none := by
        cases z : fr.g.get? H2.objs.size with
        | none => rfl
        | some o => exact absurd (Heap.lt_size (F.keep _ _ z)) (Nat.not_lt.mpr (by rw [hC, hsz₁]; omega))
      refine ⟨mC, hns₃.sameBut hs₄ hCL, fun h₅ hs₅ => ?_⟩
      obtain ⟨oC, esC, epC, hoC, hdC, _⟩ := id hns₃
      refine h h₁.objs.size h₅ tk₄ ys ep' (frBut F₄ hs₅.extBut gC hCL) (fun b o bL e => ?_) (Heap.get?_none_of_le (by rw [hsz₁]; exact Nat.le_add_right _ 2)) (hs₅.extBut _ _ hDC (hs₄.extBut _ _ hDL hD₃)) hyl (hrows.mono fun T vs n e => ?_)
      · refine hs₅.extBut b o ?_ (hs₄.extBut b o bL (old₃ b o e))
        have : @LT.lt Nat _ b s.heap.objs.size := Heap.lt_size e
        exact adr_ne (by rw [hC, hsz₁]; omega)
      · refine hs₅.extBut _ _ ?_ (hs₄.extBut _ _ ?_ e)
        · rintro rfl
          obtain ⟨_, xs, nn, z⟩ := tup_apart e hoC
          rw [z] at hdC; cases hdC
        · rintro rfl
          obtain ⟨_, xs, nn, z⟩ := tup_apart e (old₃ _ _ hfL)
          rw [z] at hdL; cases hdL
  exact codeAny_compStart_list (loop _ rfl rfl) (wpAny_pyIter_enum (old _ _ he₁) (loop _ rfl rfl))
end
end Mine

namespace Mine
section
variable {B : Bs} {fr : Frm} {n : Nat} {s : Shared} {m : Str → Option Value} {ω : Wd}

theorem no_interK (O : FrB B fr n) : interactive fr.env = false := by
  unfold interactive
  show (fr.scope.kind == .module && _) = false
  rw [O.kind]; rfl

theorem range_small {k : Nat} (h : k ≤ 1000) : Builtin.Range.small 0 (k : Int) 1 = true ∧ Builtin.Range.rangeSize 0 (k : Int) 1 = (k : Int) := by
  have hs : Builtin.Range.rangeSize 0 (k : Int) 1 = (k : Int) := by
    unfold Builtin.Range.rangeSize
    rw [if_pos (by decide)]
    split
    · rw [Int.ediv_one]; omega
    · omega
  have hf : ∀ a : Int, -1000 ≤ a → a ≤ 2000 → Builtin.Range.rangeFitsLong a = true := fun a h1 h2 => by
    unfold Builtin.Range.rangeFitsLong
    simp only [Bool.and_eq_true, decide_eq_true_eq]
    constructor <;> omega
  refine ⟨?_, hs⟩
  unfold Builtin.Range.small
  rw [hs, hf 0 (by omega) (by omega), hf k (by omega) (by omega), hf 1 (by omega) (by omega), if_pos (by decide), hf (k + (1 - 1)) (by omega) (by omega)]
  simp

theorem WordsAt.off {h h' : Heap} {i d : Nat} {c : Addr} {o : Obj} (x : WordsAt ω h i d) (k : ∀ b o, h.get? b = some o → b ≠ c → h'.get? b = some o) (e : h.get? c = some o) (hd : (∃ es ep, o.data = .dict es ep) ∨ ∃ vs, o.data = .fields vs) (hD : ω.D ≠ c) : WordsAt ω h' i d := by
  have ne : ∀ b o', h.get? b = some o' → (∀ es ep, o'.data ≠ .dict es ep) → (∀ vs, o'.data ≠ .fields vs) → b ≠ c := by
    rintro b o' q n1 n2 rfl
    rw [e] at q; cases q
    rcases hd with ⟨_, _, z⟩ | ⟨_, z⟩
    · exact n1 _ _ z
    · exact n2 _ z
  refine ⟨k _ _ x.inst (ne _ _ x.inst (by intro _ _ z; cases z) (by intro _ z; cases z)), ?_, ?_, x.len, ?_, x.lt, x.small⟩
  · obtain ⟨ti, td, q⟩ := x.dict; exact ⟨ti, td, k _ _ q hD⟩
  · obtain ⟨n, q⟩ := x.rows; exact ⟨n, k _ _ q (ne _ _ q (by intro _ _ z; cases z) (by intro _ z; cases z))⟩
  · intro j t a h1 h2
    obtain ⟨k1, k2, k3, n, q⟩ := x.tok j t a h1 h2
    exact ⟨k1, k2, k3, n, k _ _ q (ne _ _ q (by intro _ _ z; cases z) (by intro _ z; cases z))⟩

/-- so many levels are gone into -/
theorem x_down {st : Stmt} {E : Value → Shared → Prop} {Q : Flow → Shared → Prop} {many : Nat} {tm : PySem.Tok} {hp : Heap} (MK : MethK B) (O : FrB B fr (n + 4)) (F : Fr fr.g fr.L hp m) (hst : isDown st = true)
    (hl1 : find "many" fr.scope.names = some .local) (hl2 : find "here" fr.scope.names = some .local) (hl3 : find "turn" fr.scope.names = some .local) (he : find "range" fr.scope.names = some .globalImplicit) (hne : nsIn B.K mainGlobals "range" = some none)
    (hm : m "many" = some (.int many tm)) (hw : m "here" = some (.ref ω.W)) (hD0 : fr.g.get? ω.D = none) (hDL0 : ω.D ≠ fr.L) (hC : ω.C = B.C) (hR : ω.R ≠ ω.D) (W : WordsAt ω hp 0 0) (hmany : many ≤ 60)
    (h : ∀ h' tk m', Fr fr.g fr.L h' m' → m' "here" = some (.ref ω.W) → WordsAt ω h' 0 many → (∀ b o, b ≠ fr.L → b ≠ ω.D → hp.get? b = some o → h'.get? b = some o) → Q .next { s with heap := h', toks := tk }) (hs : s.heap = hp := by rfl) :
    wpAny (model B.prog B.w) fr.A (exec st fr.env) Q E s := by
  subst hs
  obtain ⟨pt, p1, p2, p3, e, ep, fp, rfl, hd⟩ := isDown_is hst
  obtain ⟨r1, r2, r3, rfl, hpos⟩ := isM0_is hd
  obtain ⟨fd, Md, hfd⟩ := MK.deeper
  obtain ⟨fk, Mp, hpk⟩ := MK.peek
  obtain ⟨fI, FK⟩ := MK.FK
  obtain ⟨tM, hM⟩ := MK.md
  obtain ⟨hsm, hsize⟩ := range_small (k := many) (by omega)
  refine wpAny_For ?_ (fun _ => rfl)
  refine Call_ (bnm O F he hne PyProof.Rows.Boot.«range» (by decide) ?_)
  refine PyProof.Rows.callWith_type rfl (evalArgs_plain (spliced_cons (nm O F hl1 hm (spliced_nil ?_))))
  refine call_range_1 ?_
  refine wpAny_pyIter_range (Heap.get?_push_size _ rfl) hsm ?_
  rw [hsize]
  have hk : ∀ (o₁ o₂ : Obj) b o, s.heap.get? b = some o → ((s.heap.push o₁).push o₂).get? b = some o := fun o₁ o₂ b o e => Heap.get?_push_of_some _ (Heap.get?_push_of_some _ e)
  generalize hH : (s.heap.push ({ cls := .type "range", data := .fields #[.int 0 s.toks, .int many tm, .int 1 (s.toks + 1)] } : Obj)) = H
  have hk1 : ∀ b o, s.heap.get? b = some o → H.get? b = some o := fun b o e => by rw [← hH]; exact Heap.get?_push_of_some _ e
  have hk2 : ∀ b o, s.heap.get? b = some o → (H.push ({ cls := .type "range_iterator", data := .fields #[rawInt 0, rawInt many, rawInt 1] } : Obj)).get? b = some o := fun b o e => Heap.get?_push_of_some _ (hk1 b o e)
  have hI0 : (H.push ({ cls := .type "range_iterator", data := .fields #[rawInt 0, rawInt many, rawInt 1] } : Obj)).get? H.objs.size = some _ := Heap.get?_push_size _ rfl
  have old : ∀ b o, s.heap.get? b = some o → b ≠ H.objs.size := fun b o e => Nat.ne_of_lt (Heap.lt_size (hk1 b o e))
  obtain ⟨ti0, td0, hDo⟩ := W.dict
  obtain ⟨oL, _, _, hLo, _⟩ := id F.ns
  have nD : H.objs.size ≠ ω.D := Ne.symm (old _ _ hDo)
  have nL : H.objs.size ≠ fr.L := Ne.symm (old _ _ hLo)
  have gI : fr.g.get? H.objs.size = none := by
    cases z : fr.g.get? H.objs.size with
    | none => rfl
    | some o => exact absurd rfl (old _ _ (F.keep _ _ z))
  refine codeAny_forLoop_any (fun k s' => ∃ h' tk i m', s' = { s with heap := h', toks := tk } ∧ i ≤ many ∧ k = many + 1 - i ∧ IsRangeIter h' H.objs.size (i : Int) ((many : Int) - (i : Int)) 1 ∧ Fr fr.g fr.L h' m' ∧ m' "here" = some (.ref ω.W) ∧
      WordsAt ω h' 0 i ∧ ∀ b o, b ≠ fr.L → b ≠ ω.D → s.heap.get? b = some o → h'.get? b = some o) ?_ (many + 1)
    ⟨_, _, 0, m, rfl, Nat.zero_le _, rfl, by simpa using hI0, frExt F hk2, hw, W.ext hk2, fun b o _ _ e => hk2 b o e⟩
  rintro k s' ⟨h', tk, i, m', rfl, hi, rfl, hit, F', hw', W', hkp⟩
  by_cases hlt : i < many
  · refine wpAny_pyNext_range_item hit (by omega) fun h₁ hit₁ hs₁ => ?_
    refine wpAny_pure ?_
    have F₁ : Fr fr.g fr.L h₁ m' := frBut F' hs₁.extBut gI nL
    have W₁ : WordsAt ω h₁ 0 i := W'.off (fun b o q ne => hs₁.extBut b o ne q) hit (.inr ⟨_, rfl⟩) (Ne.symm nD)
    refine wpAny_assign_Name (stN' O F₁ hl3 fun h₂ tk₂ F₂ hs₂ => ?_)
    replace hs₂ : Heap.SameBut fr.L h₁ h₂ := hs₂
    obtain ⟨oL₁, esL, epL, hL₁, hdL₁, _⟩ := id F₁.ns
    have W₂ : WordsAt ω h₂ 0 i := W₁.off (fun b o q ne => hs₂.extBut b o ne q) hL₁ (.inl ⟨_, _, hdL₁⟩) hDL0
    refine wpAny_execs_cons (wpAny_Expr_any (self0 MK.CK Md (fun _ _ _ _ _ => rfl) O F₂ hC W₂ hl2 ((if_neg (by decide)).trans hw') hpos ?_) (no_interK O) rfl)
    refine wpAny_mono (c_deeper (s := { s with heap := h₂, toks := tk₂ }) MK.CK FK hfd hpk Mp MK.gf MK.gk hM O F₂ hD0 hDL0 hC hR W₂) (fun v s₃ q => ?_) fun x s₃ q => absurd q.1 (by omega)
    obtain ⟨_, _, hkb, W₃, ho⟩ := q
    obtain ⟨H₃, g₃, d₃, tk₃, os₃⟩ := s₃
    obtain ⟨o1, o2, o3⟩ := ho
    cases o1; cases o2; cases o3
    refine wpAny_execs_nil ?_
    refine ⟨many + 1 - (i + 1), by omega, H₃, tk₃, i + 1, _, rfl, hlt, rfl, ?_, frBut F₂ (fun b o ne q => hkb b o q ne) hD0 hDL0, (if_neg (by decide)).trans hw', W₃, fun b o b1 b2 q => ?_⟩
    · have e1 : (i : Int) + 1 = ((i + 1 : Nat) : Int) := by omega
      have e2 : (many : Int) - (i : Int) - 1 = (many : Int) - ((i + 1 : Nat) : Int) := by omega
      rw [e1, e2] at hit₁
      exact hkb _ _ (hs₂.extBut _ _ nL hit₁) nD
    · exact hkb _ _ (hs₂.extBut _ _ b1 (hs₁.extBut _ _ (old _ _ q) (hkp b o b1 b2 q))) b2
  · have hie : i = many := by omega
    subst hie
    refine wpAny_pyNext_range_end O.hh hit (by omega) fun h₁ hx₁ => wpAny_execs_nil ?_
    exact h h₁ tk m' (frBut F' hx₁ gI nL) hw' (W'.off (fun b o q ne => hx₁ b o ne q) hit (.inr ⟨_, rfl⟩) (Ne.symm nD)) fun b o b1 b2 q => hx₁ _ _ (old _ _ q) (hkp b o b1 b2 q)
end
end Mine

namespace Mine
def adrOf : Value → Addr
  | .ref a => a
  | _ => 0
theorem rows_refs {h : Heap} {ys : List Value} {told : List Str} (r : RowsAt h ys told) : ys = (ys.map adrOf).map Value.ref := by
  rw [List.map_map]
  refine (List.ext_getElem? fun j => ?_)
  rw [List.getElem?_map]
  cases q : ys[j]? with
  | none => rfl
  | some v =>
    obtain ⟨x, T, _, _, _, _, _, rfl, _⟩ := r j v q
    rfl
def endW : Str × Str := (Str.ofString "end", Str.ofString "")
/-- the rows and the end are the words -/
theorem words_made {h : Heap} {ω : Wd} {d : Nat} {ys : List Value} {told : List Str} {T : Addr} (r : RowsAt h ys told) (hlen : ys.length = told.length) (hl : told.length ≤ 1000) {k1 k2 k3 : PySem.Tok} {n : Nat}
    (hT : h.get? T = some (tupObj [.str "end" k1, .str "" k2, .int told.length k3, .none, .none] n)) (hi : h.get? ω.W = some ω.ox) (hd : ∃ ti td, h.get? ω.D = some (ω.dict 0 ti d td)) (ht : ω.toks = wordsOf told ++ [endW]) (hv : ω.tvs = ys.map adrOf ++ [T])
    (hR : ∃ c, h.get? ω.R = some (listObj (ys ++ [.ref T]) c)) : WordsAt ω h 0 d := by
  have hwl : (wordsOf told).length = told.length := by unfold wordsOf; simp
  refine ⟨hi, hd, ?_, ?_, fun j t a h1 h2 => ?_, ?_, ?_⟩
  · obtain ⟨c, hR⟩ := hR
    refine ⟨c, ?_⟩
    rw [hR, hv, List.map_append, ← rows_refs r]; rfl
  · rw [hv, ht]; simp [hwl, hlen]
  · rw [ht] at h1
    rw [hv] at h2
    by_cases hj : j < told.length
    · rw [List.getElem?_append_left (by rw [hwl]; exact hj)] at h1
      rw [List.getElem?_append_left (by rw [List.length_map, hlen]; exact hj)] at h2
      unfold wordsOf at h1
      rw [List.getElem?_map] at h1 h2
      have hv' : ys[j]? = some ys[j] := List.getElem?_eq_getElem (by rw [hlen]; exact hj)
      obtain ⟨x, T', k1, k2, k3, n, e1, e2, e3⟩ := r j _ hv'
      rw [e1] at h1
      rw [hv', e2] at h2
      cases h1; cases h2
      exact ⟨k1, k2, k3, n, e3⟩
    · have hj := Nat.le_of_not_lt hj
      rw [List.getElem?_append_right (by rw [hwl]; exact hj), hwl] at h1
      rw [List.getElem?_append_right (by rw [List.length_map, hlen]; exact hj), List.length_map, hlen] at h2
      have hz : j - told.length = 0 := by
        have := (List.getElem?_eq_some_iff.mp h1).1
        simp only [List.length_cons, List.length_nil] at this
        omega
      have hje : j = told.length := by omega
      rw [hz] at h1 h2
      cases h1; cases h2
      subst hje
      exact ⟨k1, k2, k3, n, hT⟩
  · rw [ht]; simp
  · rw [ht]
    refine ⟨by simp [hwl]; omega, _, _, rfl⟩

section
variable {B : Bs} {fr : Frm} {n : Nat} {s : Shared} {m : Str → Option Value}

structure MakeK (B : Bs) : Prop where
  t1 : takerIn B.K B.C "rows" = some none
  made : makesIn B.K B.C = true
  im : hasM B.K B.C "__init__" = true
  ini : okInit B.K (mAddr B.K B.C "__init__") = true
  gW : nsIn B.K mainGlobals "Words" = some (some (.ref B.C))
  kp : keepIn B.K (.ref B.C) = true

/-- the words are laid out, so many levels are gone into -/
theorem c_lwords {f : Addr} (MK : MethK B) (WK : MakeK B) (hf : okWords B.K f = true) (O : FrB B fr (n + 5)) (F : Fr fr.g fr.L s.heap m) {L : Addr} {us : List Value} {told : List Str} {ep many : Nat} {tm : PySem.Tok} (hL : s.heap.get? L = some (listObj us ep))
    (hstr : StrsAre us told) (hgood : ∀ x ∈ told, goodT x = true) (hlen : told.length ≤ 1000) (hmany : many ≤ 60) :
    wpAny (model B.prog B.w) fr.A (call (.ref f) [.ref L, .int many tm]) (fun v s' => ∃ ω : Wd, v = .ref ω.W ∧ WordsAt ω s'.heap 0 many ∧ ω.toks = wordsOf told ++ [endW] ∧ ω.C = B.C ∧ ω.R ≠ ω.D ∧ s.heap.get? ω.D = none ∧ Kept s.heap s'.heap ∧ OutAs s s') (fun _ _ => False) s := by
  unfold okWords at hf
  split at hf
  · rename_i fd s1 s2 s3 s4 hdef
    simp only [Bool.and_eq_true] at hf
    obtain ⟨⟨⟨⟨⟨⟨⟨⟨⟨⟨⟨⟨⟨⟨⟨⟨hnd, l1⟩, l2⟩, l3⟩, l4⟩, l5⟩, g1⟩, g2⟩, g3⟩, g4⟩, e2⟩, e3⟩, e4⟩, hs1⟩, hs2⟩, hs3⟩, hs4⟩ := hf
    obtain ⟨q1, q2, q3, q4, q5⟩ := defOf_is hdef
    refine enterQ O F [] (by intro a h; cases h) q1 q2 q3 (bind2 q2 q4 (noDf_is hnd) (by decide)) (show (["told", "many"] : List Str).Nodup by decide) q5 fun LL s₁ hLL hkk ho O' F' => ?_
    have hgs : hideAll s.heap [] = s.heap := rfl
    have LLn : L ≠ LL := by rintro rfl; rw [hL] at hLL; cases hLL
    refine wpAny_execs_cons (x_rows O' F' hs1 (isLc_is l1) (isLc_is l3) (isGl_is g2) (noneK_is e2) rfl (hkk _ _ hL) hstr hgood hlen fun D h₂ tk₂ ys ep₂ F₂ hk₂ hDn hD₂ hyl hrows => ?_)
    have hL₂ : h₂.get? L = some (listObj us ep) := hk₂ _ _ LLn (hkk _ _ hL)
    obtain ⟨p1, p2, p3, p4, p5, x, p6, p7, rfl, hx⟩ := isHere_is hs2
    obtain ⟨r1, r2, r3, r4, r5, r6, r7, r8, r9, r10, r11, r12, r13, rfl⟩ := endE_is hx
    have X₂ := O'.X.keeps F₂.keep
    refine wpAny_execs_cons (wpAny_Assign_Name (Call_ (gnm O' F₂ (isGl_is g1) WK.gW ?_)))
    refine callWith_K (h₀ := (fr.into s [] f fd LL).g) O'.X WK.kp (spliced_more (wpAny_BinOp (nm O' F₂ (isLc_is l3) rfl (List_ (spliced_more (Tuple_ (spliced_more (wpAny_Constant_str (spliced_more (wpAny_Constant_str (spliced_more (Call_ (bnm O' F₂ (isGl_is g3) (noneK_is e3) PyProof.Rows.Boot.«len» (by decide +kernel) ?_))))))))))))) rfl rfl
    refine callWith_builtin rfl (evalArgs_plain (spliced_cons (nm O' F₂ (isLc_is l1) rfl (spliced_nil ?_))))
    refine PyProof.Rows.len_list (items := us.toArray) ⟨_, hL₂, rfl, ep, rfl⟩ (by rw [List.size_toArray, hstr.1]; omega) ?_
    refine spliced_more (wpAny_Constant_none (spliced_more (wpAny_Constant_none (spliced_none ?_))))
    refine wpAny_newObj_type (T := "tuple") (data := .seq #[.str "end" _, .str "" _, .int us.toArray.size _, .none, .none]) (dict := none) ?_ (show 5 ≤ sizeLine by rw [sizeLine_eq]; decide)
    refine spliced_none ?_
    generalize hH1 : h₂.push ({ cls := .type "tuple", dict := none, data := .seq #[.str "end" _, .str "" _, .int us.toArray.size _, .none, .none] } : Obj) = H1
    have k1 : Kept h₂ H1 := fun b o e => by rw [← hH1]; exact Heap.get?_push_of_some _ e
    have hT1 : ∃ k1 k2 k3, H1.get? h₂.objs.size = some (tupObj [.str "end" k1, .str "" k2, .int told.length k3, .none, .none] 0) := ⟨_, _, _, by
      rw [← hH1, ← hstr.1]; exact Heap.get?_push_size _ rfl⟩
    obtain ⟨kk1, kk2, kk3, hT1⟩ := hT1
    refine wpAny_newObj_type (T := "list") (data := .seq #[Value.ref h₂.objs.size]) (dict := none) ?_ (show 1 ≤ sizeLine by rw [sizeLine_eq]; decide)
    generalize hH2 : H1.push ({ cls := .type "list", dict := none, data := .seq #[Value.ref h₂.objs.size] } : Obj) = H2
    have k2 : Kept H1 H2 := fun b o e => by rw [← hH2]; exact Heap.get?_push_of_some _ e
    have hl2 : H2.get? H1.objs.size = some ({ cls := .type "list", data := .seq #[Value.ref h₂.objs.size] } : Obj) := by rw [← hH2]; exact Heap.get?_push_size _ rfl
    refine P.add_list (items := ys.toArray) (items2 := #[Value.ref h₂.objs.size]) (k2 _ _ (k1 _ _ hD₂)) hl2 ?_ (by rw [List.size_toArray, hyl, sizeLine_eq]; show told.length + 1 ≤ _; omega)
    generalize hH3 : H2.push ({ cls := .type "list", data := .seq (ys.toArray ++ #[Value.ref h₂.objs.size]) } : Obj) = H3
    have k3 : Kept H2 H3 := fun b o e => by rw [← hH3]; exact Heap.get?_push_of_some _ e
    have hl3 : H3.get? H2.objs.size = some (listObj (ys ++ [Value.ref h₂.objs.size]) 0) := by
      rw [← hH3]
      have : ys.toArray ++ #[Value.ref h₂.objs.size] = (ys ++ [Value.ref h₂.objs.size]).toArray := by simp
      rw [this]; exact Heap.get?_push_size _ rfl
    have k123 : Kept h₂ H3 := fun b o e => k3 _ _ (k2 _ _ (k1 _ _ e))
    have F₃ := frExt F₂ k123
    refine spliced_none ⟨O'.X.keeps F₃.keep, ?_⟩
    refine c_words (n := n + 2) MK.CK WK.t1 WK.made WK.im WK.ini O' F₃ (l := H2.objs.size) (vs := ys ++ [Value.ref h₂.objs.size]) ⟨_, hl3, rfl, 0, rfl⟩ (by rw [List.length_append, hyl]; show told.length + 1 ≤ _; omega) fun s₄ xx dx R' a1 a2 a3 b1 b2 b3 ta td np c' hk₄ hxn hdn hRn hne hx₄ hR₄ hd₄ ho₄ => ?_
    have F₄ := frExt F₃ hk₄
    let ω : Wd := ⟨xx, dx, R', B.C, a1, a2, a3, b1, b2, b3, np, wordsOf told ++ [endW], ys.map adrOf ++ [h₂.objs.size]⟩
    have W₄ : WordsAt ω s₄.heap 0 0 := words_made (hrows.mono fun T vs n e => hk₄ _ _ (k123 _ _ e)) hyl hlen (hk₄ _ _ (k3 _ _ (k2 _ _ hT1))) hx₄ ⟨ta, td, hd₄⟩ rfl rfl ⟨c', hR₄⟩
    obtain ⟨oLL, _, _, hfL, hdL, _⟩ := id F₄.ns
    have hdxL : dx ≠ LL := by
      rintro rfl
      obtain ⟨oo, _, _, z, _⟩ := id F₃.ns
      cases hdn.symm.trans z
    have hgD : (fr.into s [] f fd LL).g.get? dx = none := by
      cases z : (fr.into s [] f fd LL).g.get? dx with
      | none => rfl
      | some o => cases hdn.symm.trans (F₃.keep _ _ z)
    refine stN' O' F₄ (isLc_is l4) fun h₅ tk₅ F₅ hs₅ => ?_
    replace hs₅ : Heap.SameBut LL s₄.heap h₅ := hs₅
    have W₅ : WordsAt ω h₅ 0 0 := W₄.off (fun b o q ne => hs₅.extBut b o ne q) hfL (.inl ⟨_, _, hdL⟩) hdxL
    refine wpAny_execs_cons (x_down (ω := ω) (n := n) MK O' F₅ hs3 (isLc_is l2) (isLc_is l4) (isLc_is l5) (isGl_is g4) (noneK_is e4) rfl rfl hgD hdxL rfl hne W₅ hmany fun h₆ tk₆ m₆ F₆ hw₆ W₆ hk₆ => ?_)
    obtain ⟨y1, y2, rfl⟩ := isRetN_is hs4
    refine wpAny_execs_cons (wpAny_Return_some (nm O' F₆ (isLc_is l4) hw₆ ?_))
    have hdS : s.heap.get? dx = none := hgD
    refine ⟨ω, rfl, W₆, rfl, rfl, hne, hdS, fun b o e => ?_, ho.trans (OutAs.trans ⟨rfl, rfl, rfl⟩ (ho₄.trans ⟨rfl, rfl, rfl⟩))⟩
    have bL : b ≠ LL := by rintro rfl; rw [hLL] at e; cases e
    have bD : b ≠ ω.D := by rintro rfl; rw [show s.heap.get? ω.D = none from hdS] at e; cases e
    exact hk₆ b o bL bD (hs₅.extBut _ _ bL (hk₄ _ _ (k123 _ _ (hk₂ _ _ bL (hkk _ _ e)))))
  · cases hf
end
end Mine

namespace Mine
/-- f(x), as a statement -/
def isDo (f x : Str) : Stmt → Bool
  | .Expr e _ => (match vCall e with
    | some (g, [y]) => eqS g f && isN x y
    | _ => false)
  | _ => false
theorem isDo_is {f x : Str} {st : Stmt} (h : isDo f x st = true) : ∃ p1 p2 p3 p4, st = .Expr (.Call (.Name f p1) [.Name x p2] [] p3) p4 := by
  unfold isDo at h
  split at h
  · split at h
    · rename_i g y hv
      obtain ⟨p1, p3, rfl⟩ := vCall_is hv
      simp only [Bool.and_eq_true] at h
      obtain ⟨p2, rfl⟩ := isN_is h.2
      rw [eqS_iff.mp h.1]
      exact ⟨_, _, _, _, rfl⟩
    · cases h
  · cases h
def isRetF : Stmt → Bool
  | .Return (some (.Constant (.bool false) _ _)) _ => true
  | _ => false
theorem isRetF_is {st : Stmt} (h : isRetF st = true) : ∃ a p q, st = .Return (some (.Constant (.bool false) a p)) q := by
  unfold isRetF at h
  split at h
  · exact ⟨_, _, _, rfl⟩
  · cases h
/-- try: read_expr(here) except GrammarFault: return False -/
def isTryR : Stmt → Bool
  | .Try [b] [.ExceptHandler (some (.Name x _)) none [r] _] [] [] _ => eqS x "GrammarFault" && isDo "read_expr" "here" b && isRetF r
  | _ => false
theorem isTryR_is {st : Stmt} (h : isTryR st = true) : ∃ b p r q t, st = .Try [b] [.ExceptHandler (some (.Name "GrammarFault" p)) none [r] q] [] [] t ∧ isDo "read_expr" "here" b = true ∧ isRetF r = true := by
  unfold isTryR at h
  split at h
  · simp only [Bool.and_eq_true] at h
    rw [eqS_iff.mp h.1.1]
    exact ⟨_, _, _, _, _, rfl, h.1.2, h.2⟩
  · cases h
/-- here.peek()[0] == 'end' -/
def peekEnd (e : Expr) : Bool := match vCmp e with
  | some (l, .Eq, r) => isT "end" r && (match vSub l with
    | some (v, i) => isM0 "here" "peek" v && isI 0 i
    | none => false)
  | _ => false
theorem peekEnd_is {e : Expr} (h : peekEnd e = true) : ∃ p ap pos a p1 p2 a2 p3 p4, e = .Compare (.Subscript (.Call (.Attribute (.Name "here" p) "peek" ap) [] [] pos) (.Constant (.int (0 : Nat)) a p1) p2) [.Eq] [.Constant (.str "end") a2 p3] p4 ∧ ap.endLine = pos.line := by
  unfold peekEnd at h
  split at h
  · rename_i l r hv
    obtain ⟨p4, rfl, _⟩ := vCmp_is hv
    simp only [Bool.and_eq_true] at h
    obtain ⟨a2, p3, rfl⟩ := isT_is h.1
    replace h := h.2
    split at h
    · rename_i v i hv
      obtain ⟨p2, rfl⟩ := vSub_is hv
      simp only [Bool.and_eq_true] at h
      obtain ⟨p, ap, pos, rfl, hp⟩ := isM0_is h.1
      obtain ⟨a, p1, rfl⟩ := isI_is h.2
      exact ⟨_, _, _, _, _, _, _, _, _, rfl, hp⟩
    · cases h
  · cases h
def okIsRead (K : Frag) (f : Addr) : Bool := match defOf K f ["here"] with
  | some (fd, [s1, s2]) => noDf fd && isLc fd "here" && isGl fd "read_expr" && isGl fd "GrammarFault" && isTryR s1 && (match vRet s2 with
    | some e => peekEnd e
    | none => false)
  | _ => false

section
variable {B : Bs} {fr : Frm} {n : Nat} {s : Shared} {m : Str → Option Value} {ω : Wd}

structure ReadK (B : Bs) : Prop where
  g : nsIn B.K mainGlobals "read_expr" = some (some (.ref B.fExpr))
  kp : keepIn B.K (.ref B.fExpr) = true

theorem caught {fr : Frm} {Q : Flow → Shared → Prop} {r : Stmt} {p q : Pos} {s s' : Shared} {x : Value} (MK : MethK B) (O : FrB B fr n) (XB : B.K.In fr.base) (TB : TopRead B.p B.loose B.mg B.mb fr.base)
    (hg : find "GrammarFault" fr.scope.names = some .globalImplicit) (hr : isRetF r = true) (hf : FliesTo B fr s x s') (hQ : ∀ s'', fr.base.StaysIn s''.heap → OutAs s s'' → Q (.ret (.bool false)) s'') :
    wpAny (model B.prog B.w) fr.A (noteFrame x fr.env) (fun _ s₂ => wpAny (model B.prog B.w) fr.A (setFlight x none) (fun _ s₃ =>
      wpAny (model B.prog B.w) fr.A (handleBy x fr.env [.ExceptHandler (some (.Name "GrammarFault" p)) none [r] q]) Q (fun _ _ => False) s₃) (fun _ _ => False) s₂) (fun _ _ => False) s' := by
  obtain ⟨a1, a2, a3, rfl⟩ := isRetF_is hr
  obtain ⟨e, a0, rfl, hfl, hu, ho⟩ := hf
  obtain ⟨fI, FK⟩ := MK.FK
  obtain ⟨oc, hCl, hcls⟩ := FK.cls
  have go : ∀ h₄, Heap.HeldW fr.base (fr.env :: fr.outer) e (.ref B.GF) a0 fr.L h₄ → wpAny (model B.prog B.w) fr.A (setFlight (.ref e) none) (fun _ s₃ =>
      wpAny (model B.prog B.w) fr.A (handleBy (.ref e) fr.env [.ExceptHandler (some (.Name "GrammarFault" p)) none [.Return (some (.Constant (.bool false) a1 a2)) a3] q]) Q (fun _ _ => False) s₃) (fun _ _ => False) { s' with heap := h₄ } := by
    intro h₄ hh
    refine wpAny_landsW hh fun h₅ hfl₅ _ => ?_
    refine wpAny_handleBy_cons (codeAny_handlers_test (Calls.Name_function_global (env := fr.env) O.kind ?_ (Calls.loadGlobal_global (env := fr.env) (TB.g.keeps hfl₅.1) (mg_of XB TB.g MK.gf) ?_) (by decide))) (by intro q; cases q)
    · show fr.scope.names.lookup (Str.ofString "GrammarFault") = _
      rw [← find_eq]; exact hg
    · obtain ⟨ob, hob, hobc⟩ := hfl₅.there
      obtain ⟨nmC, qq, N, bs, bm, hdct, sn, sub, ab, col, dd, k0, kk1, kk2, kk3, k5, rfl, T⟩ := isExcCls_is hcls
      refine wpAny_excMatches_sub_self (hfl₅.1 _ _ (XB _ _ hCl)) hob hobc T.hasBase (codeAny_handlers_suite ?_)
      refine lands_againW hfl₅ fun h₆ hfl₆ _ => ?_
      refine wpAny_passesOwnAt PassesOwnAt.never (wpAny_execs_cons (wpAny_Return_some (wpAny_Constant_bool ?_)))
      exact hQ _ hfl₆.1 ⟨ho.1, ho.2.1, ho.2.2⟩
  rcases hfl with hfl | hfl
  · exact wpAny_looks_onW (Around.frames_deeper O.below.stack) rfl hfl fun h₄ hh _ => go h₄ hh
  · exact wpAny_noteFrame_againW rfl hfl.2.2.2 (go s'.heap hfl)
end
end Mine

namespace Mine
section
variable {B : Bs} {fr : Frm} {n : Nat} {s : Shared} {m : Str → Option Value} {ω : Wd}

/-- the words are read, or refused -/
theorem c_isread {f : Addr} {words : List (Str × Str)} {d e sz : Nat} (MK : MethK B) (RK : ReadK B) (XB : B.K.In fr.base) (TB : TopRead B.p B.loose B.mg B.mb fr.base) (hf : okIsRead B.K f = true) (hRB : ReadsBy B B.fExpr true words e sz)
    (O : FrB B fr (sz + 2)) (F : Fr fr.g fr.L s.heap m) (hD0 : fr.g.get? ω.D = none) (hDL0 : ω.D ≠ fr.L) (hR : ω.R ≠ ω.D) (hC : ω.C = B.C) (W : WordsAt ω s.heap 0 d) (ht : ω.toks = words ++ [endW]) (hd : d ≤ 60) :
    wpAny (model B.prog B.w) fr.A (call (.ref f) [.ref ω.W]) (fun v s' => (d + e ≤ 60 ∧ v = .bool true ∧ KeepsBut ω.D s.heap s'.heap ∧ WordsAt ω s'.heap words.length d ∧ OutAs s s') ∨ (60 < d + e ∧ v = .bool false ∧ fr.base.StaysIn s'.heap ∧ OutAs s s')) (fun _ _ => False) s := by
  unfold okIsRead at hf
  split at hf
  · rename_i fd s1 s2 hdef
    simp only [Bool.and_eq_true] at hf
    obtain ⟨⟨⟨⟨⟨hnd, l1⟩, g1⟩, g2⟩, hs1⟩, hs2⟩ := hf
    split at hs2
    · rename_i e2 he2
      obtain ⟨z1, rfl⟩ := vRet_is he2
      obtain ⟨q1, q2, q3, q4, q5⟩ := defOf_is hdef
      obtain ⟨b, p1, r, p2, p3, rfl, hb, hr⟩ := isTryR_is hs1
      obtain ⟨b1, b2, b3, b4, rfl⟩ := isDo_is hb
      obtain ⟨w1, w2, w3, w4, w5, w6, w7, w8, w9, rfl, hpos⟩ := peekEnd_is hs2
      obtain ⟨fk, Mp, hpk⟩ := MK.peek
      obtain ⟨ti, td, hDo⟩ := W.dict
      refine enterQ (n := sz + 1) O F [ω.D] (by intro a h; simp only [List.mem_singleton] at h; subst h; exact ⟨hD0, hDL0⟩) q1 q2 q3 (bind1 q2 q4 (noDf_is hnd)) (show (["here"] : List Str).Nodup by decide) q5 fun LL s₁ hLL hkk ho O' F' => ?_
      have gD : (fr.into s [ω.D] f fd LL).g.get? ω.D = none := hideAll_none _ (.head _)
      have dL : ω.D ≠ LL := by rintro rfl; rw [hDo] at hLL; cases hLL
      have W₁ := W.ext hkk
      have OR : FrB B (fr.into s [ω.D] f fd LL) sz := ⟨O'.below, O'.X, O'.T, O'.kind, O'.hh, O'.dbg, by have := O'.room; omega, by have := O'.units; omega⟩
      refine wpAny_execs_cons (wpAny_Try_except (wpAny_execs_cons (wpAny_Expr_any (Call_ (gnm O' F' (isGl_is g1) RK.g ?_)) (no_interK O') rfl)))
      refine callWith_K (h₀ := (fr.into s [ω.D] f fd LL).g) O'.X RK.kp (spliced_more (nm O' F' (isLc_is l1) rfl (spliced_none ⟨O'.X.keeps F'.keep, ?_⟩))) rfl rfl
      refine wpAny_mono (hRB _ ω s₁ 0 d _ [.ref ω.W] OR F' gD dL hR hC W₁ ⟨_, _, [], ?_, .inr ⟨rfl, rfl⟩⟩ hd (.inl rfl)) (fun v s₂ q => ?_) fun x s₂ q => ?_
      · rw [ht, List.drop_zero]; rfl
      · obtain ⟨hde, hk₂, W₂, ho₂⟩ := q
        rw [Nat.zero_add] at W₂
        have F₂ := frBut F' (fun b o ne q => hk₂ b o q ne) gD dL
        have hlast : ω.toks[words.length]? = some endW := by rw [ht, List.getElem?_append_right (Nat.le_refl _), Nat.sub_self]; rfl
        obtain ⟨a, k1, k2, k3, nn, ha, hta⟩ := tok_obj W₂ (k := Str.ofString "end") (x := Str.ofString "") hlast
        refine wpAny_execs_nil (wpAny_execs_nil ?_)
        refine wpAny_execs_cons (wpAny_Return_some (wpAny_Compare1 (Subscript_ (self0 MK.CK Mp (fun _ _ _ _ _ => rfl) O' F₂ hC W₂ (isLc_is l1) rfl hpos ?_)) rfl))
        refine wpAny_mono (c_peek (n := sz) MK.CK hpk O' F₂ hC W₂ (vs := [.ref ω.W]) (k := 0) (j := words.length) (.inl ⟨rfl, rfl⟩) (by omega) (by omega) (by have := W₂.lt; omega) ha) (fun v s₃ q => ?_) fun _ _ e => e.elim
        obtain ⟨rfl, hk₃, ho₃⟩ := q
        refine wpAny_Constant_int (item_tupleT (l := _) (k := ((0 : Nat) : Int)) (x := .str "end" k1) ⟨_, hk₃ _ _ hta, rfl, nn, rfl⟩ (by omega) (by omega) (seqIndex_nat (show 0 < 5 by decide)) rfl (wpAny_Constant_str (PyProof.Rows.eq_str ?_)) rfl)
        refine .inl ⟨hde, ?_, fun b o e ne => hk₃ _ _ (hk₂ _ _ (hkk _ _ e) ne), W₂.ext hk₃, ho.trans (ho₂.trans (ho₃.trans ⟨rfl, rfl, rfl⟩))⟩
        show Value.bool _ = _
        simp
      · obtain ⟨hde, hfl⟩ := q
        refine wpAny_mono (caught (n := sz) MK OR XB TB (isGl_is g2) hr hfl fun s'' hb'' ho'' => ?_) (fun _ _ e => e) fun _ _ e => e.elim
        exact .inr ⟨hde, rfl, hb'', ho.trans ho''⟩
    · cases hs2
  · cases hf
end
end Mine

namespace Mine
/-- x = f(y) -/
def isAsg1 (x f y : Str) (st : Stmt) : Bool := match asgOf x st with
  | some e => (match vCall e with
    | some (g, [z]) => eqS g f && isN y z
    | _ => false)
  | none => false
theorem isAsg1_is {x f y : Str} {st : Stmt} (h : isAsg1 x f y st = true) : ∃ p q p1 p2 p3, st = .Assign [.Name x p] (.Call (.Name f p1) [.Name y p2] [] p3) q := by
  unfold isAsg1 at h
  split at h
  · rename_i e he
    obtain ⟨p, q, rfl⟩ := asgOf_is he
    split at h
    · rename_i g z hv
      obtain ⟨p1, p3, rfl⟩ := vCall_is hv
      simp only [Bool.and_eq_true] at h
      obtain ⟨p2, rfl⟩ := isN_is h.2
      rw [eqS_iff.mp h.1]
      exact ⟨_, _, _, _, _, rfl⟩
    · cases h
  · cases h
/-- x = f(y, z) -/
def isAsg2 (x f y z : Str) (st : Stmt) : Bool := match asgOf x st with
  | some e => (match vCall e with
    | some (g, [a, b]) => eqS g f && isN y a && isN z b
    | _ => false)
  | none => false
theorem isAsg2_is {x f y z : Str} {st : Stmt} (h : isAsg2 x f y z st = true) : ∃ p q p1 p2 p3 p4, st = .Assign [.Name x p] (.Call (.Name f p1) [.Name y p2, .Name z p3] [] p4) q := by
  unfold isAsg2 at h
  split at h
  · rename_i e he
    obtain ⟨p, q, rfl⟩ := asgOf_is he
    split at h
    · rename_i g a b hv
      obtain ⟨p1, p4, rfl⟩ := vCall_is hv
      simp only [Bool.and_eq_true] at h
      obtain ⟨p2, rfl⟩ := isN_is h.1.2
      obtain ⟨p3, rfl⟩ := isN_is h.2
      rw [eqS_iff.mp h.1.1]
      exact ⟨_, _, _, _, _, _, rfl⟩
    · cases h
  · cases h
/-- k + _law_take(source, n) -/
def plusTake (k n : Nat) (e : Expr) : Bool := match vAdd e with
  | some (c, t) => isI k c && (match vCall t with
    | some (f, [x, y]) => eqS f "_law_take" && isN "source" x && isI n y
    | _ => false)
  | none => false
theorem plusTake_is {k n : Nat} {e : Expr} (h : plusTake k n e = true) : ∃ a p p1 p2 b p3 p4 p5, e = .BinOp (.Constant (.int k) a p) .Add (.Call (.Name "_law_take" p1) [.Name "source" p2, .Constant (.int n) b p3] [] p4) p5 := by
  unfold plusTake at h
  split at h
  · rename_i c t hv
    obtain ⟨p5, rfl⟩ := vAdd_is hv
    simp only [Bool.and_eq_true] at h
    obtain ⟨a, p, rfl⟩ := isI_is h.1
    replace h := h.2
    split at h
    · rename_i f x y hv
      obtain ⟨p1, p4, rfl⟩ := vCall_is hv
      simp only [Bool.and_eq_true] at h
      obtain ⟨p2, rfl⟩ := isN_is h.1.2
      obtain ⟨b, p3, rfl⟩ := isI_is h.2
      rw [eqS_iff.mp h.1.1]
      exact ⟨_, _, _, _, _, _, _, _, rfl⟩
    · cases h
  · cases h
/-- so many turns -/
def countE (e : Expr) : Bool := match vIfE e with
  | some (t, b, o) => plusTake 3 4 b && plusTake 1 2 o && (match vCmp t with
    | some (l, .Gt, r) => isIt "source" 0 l && isI 0 r
    | _ => false)
  | none => false
theorem countE_is {e : Expr} (h : countE e = true) : ∃ p c b q a1 p1 p2 x y p3, e = .IfExp (.Compare (.Subscript (.Name "source" p) (.Constant (.int (0 : Nat)) c b) q) [.Gt] [.Constant (.int (0 : Nat)) a1 p1] p2) x y p3 ∧ plusTake 3 4 x = true ∧ plusTake 1 2 y = true := by
  unfold countE at h
  split at h
  · rename_i t b o hv
    obtain ⟨p3, rfl⟩ := vIfE_is hv
    simp only [Bool.and_eq_true] at h
    obtain ⟨⟨h1, h2⟩, h3⟩ := h
    split at h3
    · rename_i l r hv
      obtain ⟨p2, rfl, _⟩ := vCmp_is hv
      simp only [Bool.and_eq_true] at h3
      obtain ⟨p, c, b, q, rfl⟩ := isIt_is h3.1
      obtain ⟨a1, p1, rfl⟩ := isI_is h3.2
      exact ⟨_, _, _, _, _, _, _, _, _, _, rfl, h1, h2⟩
    · cases h3
  · cases h
def isTurns : Stmt → Bool
  | .For (.Name t _) it [b] [] _ => eqS t "turn" && isAsg2 "part" "_law_form" "source" "part" b && (match vCall it with
    | some (f, [a]) => eqS f "range" && countE a
    | _ => false)
  | _ => false
theorem isTurns_is {st : Stmt} (h : isTurns st = true) : ∃ pt p1 a p2 b p3, st = .For (.Name "turn" pt) (.Call (.Name "range" p1) [a] [] p2) [b] [] p3 ∧ countE a = true ∧ isAsg2 "part" "_law_form" "source" "part" b = true := by
  unfold isTurns at h
  split at h
  · simp only [Bool.and_eq_true] at h
    obtain ⟨⟨h1, h2⟩, h3⟩ := h
    split at h3
    · rename_i f a hv
      obtain ⟨p1, p2, rfl⟩ := vCall_is hv
      simp only [Bool.and_eq_true] at h3
      rw [eqS_iff.mp h1, eqS_iff.mp h3.1]
      exact ⟨_, _, _, _, _, _, rfl, h3.2, h2⟩
    · cases h3
  · cases h
/-- told, deep, is_block = part -/
def isUnp : Stmt → Bool
  | .Assign [.Tuple [.Name a _, .Name b _, .Name c _] _ _] (.Name y _) _ => eqS a "told" && eqS b "deep" && eqS c "is_block" && eqS y "part"
  | _ => false
theorem isUnp_is {st : Stmt} (h : isUnp st = true) : ∃ p1 p2 p3 k p4 p5 p6, st = .Assign [.Tuple [.Name "told" p1, .Name "deep" p2, .Name "is_block" p3] k p4] (.Name "part" p5) p6 := by
  unfold isUnp at h
  split at h
  · simp only [Bool.and_eq_true] at h
    obtain ⟨⟨⟨h1, h2⟩, h3⟩, h4⟩ := h
    rw [eqS_iff.mp h1, eqS_iff.mp h2, eqS_iff.mp h3, eqS_iff.mp h4]
    exact ⟨_, _, _, _, _, _, _, rfl⟩
  · cases h
/-- k - deep -/
def lessDeep (k : Nat) (e : Expr) : Bool := match vLess e with
  | some (c, d) => isI k c && isN "deep" d
  | none => false
theorem lessDeep_is {k : Nat} {e : Expr} (h : lessDeep k e = true) : ∃ a p p1 p2, e = .BinOp (.Constant (.int k) a p) .Sub (.Name "deep" p1) p2 := by
  unfold lessDeep at h
  split at h
  · rename_i c d hv
    obtain ⟨p2, rfl⟩ := vLess_is hv
    simp only [Bool.and_eq_true] at h
    obtain ⟨a, p, rfl⟩ := isI_is h.1
    obtain ⟨p1, rfl⟩ := isN_is h.2
    exact ⟨_, _, _, _, rfl⟩
  · cases h
/-- _law_words(told, k - deep) -/
def wcall (k : Nat) (e : Expr) : Bool := match vCall e with
  | some (f, [x, y]) => eqS f "_law_words" && isN "told" x && lessDeep k y
  | _ => false
theorem wcall_is {k : Nat} {e : Expr} (h : wcall k e = true) : ∃ p1 p2 a p p3 p4 p5, e = .Call (.Name "_law_words" p1) [.Name "told" p2, .BinOp (.Constant (.int k) a p) .Sub (.Name "deep" p3) p4] [] p5 := by
  unfold wcall at h
  split at h
  · rename_i f x y hv
    obtain ⟨p1, p5, rfl⟩ := vCall_is hv
    simp only [Bool.and_eq_true] at h
    obtain ⟨p2, rfl⟩ := isN_is h.1.2
    obtain ⟨a, p, p3, p4, rfl⟩ := lessDeep_is h.2
    rw [eqS_iff.mp h.1.1]
    exact ⟨_, _, _, _, _, _, _, rfl⟩
  · cases h
def isHereL (st : Stmt) : Bool := match asgOf "here" st with
  | some e => wcall 60 e
  | none => false
theorem isHereL_is {st : Stmt} (h : isHereL st = true) : ∃ p q e, st = .Assign [.Name "here" p] e q ∧ wcall 60 e = true := by
  unfold isHereL at h
  split at h
  · rename_i e he
    obtain ⟨p, q, rfl⟩ := asgOf_is he
    exact ⟨_, _, _, rfl, h⟩
  · cases h
/-- if not _law_is_read(here) or here.deep != 60 - deep: return False -/
def isTestL : Stmt → Bool
  | .If (.BoolOp .Or [.UnaryOp .Not c _, d] _) [r] [] _ => isRetF r && (match vCall c with
    | some (f, [x]) => eqS f "_law_is_read" && isN "here" x
    | _ => false) && (match vCmp d with
    | some (l, .NotEq, r) => isA "here" "deep" l && lessDeep 60 r
    | _ => false)
  | _ => false
theorem isTestL_is {st : Stmt} (h : isTestL st = true) : ∃ p1 p2 p3 p4 p5 p6 a p7 p8 p9 p10 p11 r p12, st = .If (.BoolOp .Or [.UnaryOp .Not (.Call (.Name "_law_is_read" p1) [.Name "here" p2] [] p3) p4, .Compare (.Attribute (.Name "here" p5) "deep" p6) [.NotEq] [.BinOp (.Constant (.int (60 : Nat)) a p7) .Sub (.Name "deep" p8) p9] p10] p11) [r] [] p12 := by
  unfold isTestL at h
  split at h
  · simp only [Bool.and_eq_true] at h
    obtain ⟨⟨h1, h2⟩, h3⟩ := h
    split at h2
    · rename_i f x hv
      obtain ⟨p1, p3, rfl⟩ := vCall_is hv
      simp only [Bool.and_eq_true] at h2
      obtain ⟨p2, rfl⟩ := isN_is h2.2
      split at h3
      · rename_i l r hv
        obtain ⟨p10, rfl, _⟩ := vCmp_is hv
        simp only [Bool.and_eq_true] at h3
        obtain ⟨p5, p6, rfl⟩ := isA_is h3.1
        obtain ⟨a, p7, p8, p9, rfl⟩ := lessDeep_is h3.2
        rw [eqS_iff.mp h2.1]
        exact ⟨_, _, _, _, _, _, _, _, _, _, _, _, _, _, rfl⟩
      · cases h3
    · cases h2
  · cases h
/-- return not _law_is_read(_law_words(told, 61 - deep)) -/
def isLast : Stmt → Bool
  | .Return (some (.UnaryOp .Not e _)) _ => (match vCall e with
    | some (f, [x]) => eqS f "_law_is_read" && wcall 61 x
    | _ => false)
  | _ => false
theorem isLast_is {st : Stmt} (h : isLast st = true) : ∃ p1 x p2 p3 p4, st = .Return (some (.UnaryOp .Not (.Call (.Name "_law_is_read" p1) [x] [] p2) p3)) p4 ∧ wcall 61 x = true := by
  unfold isLast at h
  split at h
  · split at h
    · rename_i f x hv
      obtain ⟨p1, p2, rfl⟩ := vCall_is hv
      simp only [Bool.and_eq_true] at h
      rw [eqS_iff.mp h.1]
      exact ⟨_, _, _, _, _, rfl, h.2⟩
    · cases h
  · cases h
def lawB : List Stmt → Bool
  | [s1, s2, s3, s4, s5, s6, s7] => isAsg1 "source" "_law_pool" "script" s1 && isAsg1 "part" "_law_base" "source" s2 && isTurns s3 && isUnp s4 && isHereL s5 && isTestL s6 && isLast s7
  | _ => false
end Mine

namespace Mine

theorem FrB.less {B : Bs} {fr : Frm} {n k : Nat} (O : FrB B fr n) (h : k ≤ n) : FrB B fr k :=
  ⟨O.below, O.X, O.T, O.kind, O.hh, O.dbg, by have := O.room; omega, by have := O.units; omega⟩

/-- what the law's own level asks of the text -/
structure LawK (B : Bs) : Prop where
  MK : MethK B
  H : BsOk B
  TB : TakesBy B 20
  WK : MakeK B
  RK : ReadK B
  bRun : baseRun B.K = true
  bAll : baseAll B.K bases = true
  fRun : ∀ b, formsRun B.K b = true
  fAll : ∀ b, fineAll B.K b (forms b) = true
  gP : nsIn B.K mainGlobals "_law_pool" = some (some (.ref (refOf B.K "_law_pool")))
  kP : keepIn B.K (.ref (refOf B.K "_law_pool")) = true
  hP : okPool B.K (refOf B.K "_law_pool") = true
  gB : nsIn B.K mainGlobals "_law_base" = some (some (.ref (refOf B.K "_law_base")))
  kB : keepIn B.K (.ref (refOf B.K "_law_base")) = true
  gF : nsIn B.K mainGlobals "_law_form" = some (some (.ref (refOf B.K "_law_form")))
  kF : keepIn B.K (.ref (refOf B.K "_law_form")) = true
  gT : nsIn B.K mainGlobals "_law_take" = some (some (.ref B.fTake))
  kT : keepIn B.K (.ref B.fTake) = true
  gW : nsIn B.K mainGlobals "_law_words" = some (some (.ref (refOf B.K "_law_words")))
  kW : keepIn B.K (.ref (refOf B.K "_law_words")) = true
  hW : okWords B.K (refOf B.K "_law_words") = true
  gI : nsIn B.K mainGlobals "_law_is_read" = some (some (.ref (refOf B.K "_law_is_read")))
  kI : keepIn B.K (.ref (refOf B.K "_law_is_read")) = true
  hI : okIsRead B.K (refOf B.K "_law_is_read") = true
  rg : nsIn B.K mainGlobals "range" = some none

def locL : List Str := ["script", "source", "part", "turn", "told", "deep", "is_block", "here"]
def gloL : List Str := ["_law_pool", "_law_base", "range", "_law_take", "_law_form", "_law_words", "_law_is_read"]

section
variable {B : Bs} {fr : Frm} {n : Nat} {s : Shared} {m : Str → Option Value} {S : Addr}

theorem Fr.but2 {g h h' : Heap} {L S : Addr} {off : List Addr} {m : Str → Option Value} (F : Fr g L h m) (k : ∀ b o, h.get? b = some o → b ≠ S → b ∉ off → h'.get? b = some o) (hg : g.get? S = none) (hL : S ≠ L) (ho : ∀ a ∈ off, g.get? a = none ∧ a ≠ L) : Fr g L h' m := by
  obtain ⟨oL, a1, a2, hL', a3⟩ := F.ns
  refine ⟨⟨oL, a1, a2, k _ _ hL' (Ne.symm hL) fun q => (ho _ q).2 rfl, a3⟩, fun b o e => k b o (F.keep b o e) ?_ fun q => ?_, F.above⟩
  · rintro rfl; rw [hg] at e; cases e
  · rw [(ho _ q).1] at e; cases e

/-- one object that is no sequence is changed -/
theorem SrcAt.off {h h' : Heap} {c : Addr} {o : Obj} (x : SrcAt h S) (k : ∀ b o, h.get? b = some o → b ≠ c → h'.get? b = some o) (e : h.get? c = some o) (hd : (∃ es ep, o.data = .dict es ep) ∨ ∃ vs, o.data = .fields vs) : SrcAt h' S := by
  obtain ⟨i, j, ti, tj, oS, nn, h1, h2, h3, h4⟩ := x
  refine ⟨i, j, ti, tj, oS, nn, k _ _ h1 ?_, h2, h3, h4⟩
  rintro rfl
  rw [e] at h1; cases h1
  rcases hd with ⟨_, _, z⟩ | ⟨_, z⟩ <;> (rw [z] at h3; cases h3)
theorem PartAt.off {h h' : Heap} {c P L : Addr} {o : Obj} {told : List Str} {e : Nat} {b : Bool} (x : PartAt h S P L told e b) (k : ∀ b o, h.get? b = some o → b ≠ c → h'.get? b = some o) (he : h.get? c = some o) (hd : (∃ es ep, o.data = .dict es ep) ∨ ∃ vs, o.data = .fields vs) : PartAt h' S P L told e b := by
  have ne : ∀ b o', h.get? b = some o' → (∀ es ep, o'.data ≠ .dict es ep) → (∀ vs, o'.data ≠ .fields vs) → b ≠ c := by
    rintro b o' q n1 n2 rfl
    rw [he] at q; cases q
    rcases hd with ⟨_, _, z⟩ | ⟨_, z⟩
    · exact n1 _ _ z
    · exact n2 _ z
  obtain ⟨⟨t, nn, h1⟩, ⟨us, nn', h2, h3⟩, h4, h5⟩ := x
  exact ⟨⟨t, nn, k _ _ h1 (ne _ _ h1 (by intro _ _ z; cases z) (by intro _ z; cases z))⟩, ⟨us, nn', k _ _ h2 (ne _ _ h2 (by intro _ _ z; cases z) (by intro _ z; cases z)), h3⟩, h4, h5⟩

/-- where the law stands between two turns -/
structure LawAt (B : Bs) (fr : Frm) (S : Addr) (i : Nat) (h : Heap) (m : Str → Option Value) : Prop where
  F : Fr fr.g fr.L h m
  ms : m "source" = some (.ref S)
  src : SrcAt h S
  part : ∃ P L told e b, m "part" = some (.ref P) ∧ PartAt h S P L told e b ∧ PartOk B told e b (44 + 40 * i) ∧ told.length ≤ 40 + 20 * i ∧ e ≤ 11 + 3 * i ∧ fr.g.get? L = none ∧ L ≠ fr.L

theorem LawAt.off {i : Nat} {h h' : Heap} {c : Addr} {o : Obj} (x : LawAt B fr S i h m) (k : ∀ b o, h.get? b = some o → b ≠ c → h'.get? b = some o) (he : h.get? c = some o) (hd : (∃ es ep, o.data = .dict es ep) ∨ ∃ vs, o.data = .fields vs) {m' : Str → Option Value} (F : Fr fr.g fr.L h' m') (h1 : m' "source" = m "source") (h2 : m' "part" = m "part") : LawAt B fr S i h' m' := by
  obtain ⟨F0, ms, src, P, L, told, e, b, y1, y2, y3, y4⟩ := x
  exact ⟨F, h1.trans ms, src.off k he hd, P, L, told, e, b, h2.trans y1, y2.off k he hd, y3, y4⟩

/-- part = f(..), where f draws a part -/
theorem s_part {Q : Flow → Shared → Prop} {E : Value → Shared → Prop} {i : Nat} {st : Stmt} {p q : Pos} {e : Expr} {off : List Addr} {sz len dm : Nat} (O : FrB B fr n) (F : Fr fr.g fr.L s.heap m) (hl : find "part" fr.scope.names = some .local) (ms : m "source" = some (.ref S)) (gS : fr.g.get? S = none) (SL : S ≠ fr.L)
    (ho : ∀ a ∈ off, fr.g.get? a = none ∧ a ≠ fr.L) (h1 : sz = 44 + 40 * i) (h2 : len ≤ 40 + 20 * i) (h3 : dm ≤ 11 + 3 * i) (hsw : isComp e = false)
    (hx : wpAny (model B.prog B.w) fr.A (eval e fr.env) (Drawn B fr s S sz len dm off) E s)
    (h : ∀ h' tk m', LawAt B fr S i h' m' → (∀ b o, s.heap.get? b = some o → b ≠ S → b ∉ off → b ≠ fr.L → h'.get? b = some o) → Q .next { s with heap := h', toks := tk }) (hst : st = .Assign [.Name "part" p] e q) :
    wpAny (model B.prog B.w) fr.A (exec st fr.env) Q E s := by
  subst hst
  refine wpAny_Assign_Name (wpAny_mono hx (fun v s₁ d => ?_) fun _ _ e => e) (no_swap hsw)
  obtain ⟨P, L, told, e, b, rfl, pa, po, hlen, he, gL, LL, src, k, o1, o2, o3⟩ := d
  obtain ⟨H, g, dr, tk, os⟩ := s₁
  cases o1; cases o2; cases o3
  have F₁ := Fr.but2 F k gS SL ho
  obtain ⟨oL, _, _, hL, hdL, _⟩ := id F₁.ns
  refine stN' O F₁ hl fun h₂ tk₂ F₂ hs₂ => ?_
  replace hs₂ : Heap.SameBut fr.L H h₂ := hs₂
  have k₂ : ∀ b o, H.get? b = some o → b ≠ fr.L → h₂.get? b = some o := fun b o e ne => hs₂.extBut b o ne e
  refine h h₂ tk₂ _ ⟨F₂, (if_neg (by decide)).trans ms, src.off k₂ hL (.inl ⟨_, _, hdL⟩), P, L, told, e, b, if_pos rfl, pa.off k₂ hL (.inl ⟨_, _, hdL⟩), h1 ▸ po, by omega, by omega, gL, LL⟩ fun b o e n1 n2 n3 => k₂ _ _ (k _ _ e n1 n2) n3
end
end Mine

namespace Mine
section
variable {B : Bs} {fr : Frm} {n : Nat} {s : Shared} {m : Str → Option Value} {S : Addr}

theorem LawAt.draw {i : Nat} {h h' : Heap} (x : LawAt B fr S i h m) (gS : fr.g.get? S = none) (SL : S ≠ fr.L) (k : ∀ b o, h.get? b = some o → b ≠ S → h'.get? b = some o) (hS : SrcAt h' S) : LawAt B fr S i h' m := by
  obtain ⟨F, ms, src, P, L, told, e, b, y1, ⟨⟨t, nn, z1⟩, ⟨us, nn', z2, z3⟩, z4, z5⟩, y3⟩ := x
  refine ⟨Fr.but2 (off := []) F (fun b o e ne _ => k b o e ne) gS SL (fun a ha => by cases ha), ms, hS, P, L, told, e, b, y1, ⟨⟨t, nn, k _ _ z1 ?_⟩, ⟨us, nn', k _ _ z2 z4, z3⟩, z4, z5⟩, y3⟩
  rintro rfl
  obtain ⟨_, _, _, _, oS, _, h1, h2, _⟩ := src
  have := (tup_apart z1 h1).1
  rw [h2] at this
  injection this with this
  revert this
  decide
theorem SrcAt.list {h : Heap} (x : SrcAt h S) : ∃ (i j : Int) (ti tj : PySem.Tok), h.IsList S [Value.int i ti, .int j tj].toArray := by
  obtain ⟨i, j, ti, tj, o, nn, h1, h2, h3, _⟩ := x
  exact ⟨i, j, ti, tj, o, h1, h2, nn, h3⟩

/-- k + _law_take(source, c) -/
theorem x_plus {E : Value → Shared → Prop} {a : Expr} {k c : Nat} {Q : Value → Shared → Prop} (LK : LawK B) (ha : plusTake k c a = true) (O : FrB B fr 20) (A : LawAt B fr S 0 s.heap m) (gS : fr.g.get? S = none) (SL : S ≠ fr.L)
    (hl : find "source" fr.scope.names = some .local) (hg : find "_law_take" fr.scope.names = some .globalImplicit) (h1 : 1 ≤ c) (h2 : c ≤ 1000)
    (h : ∀ N t s', N < k + c → LawAt B fr S 0 s'.heap m → OutAs s s' → Q (.int (N : Nat) t) s') : wpAny (model B.prog B.w) fr.A (eval a fr.env) Q E s := by
  obtain ⟨x1, p, p1, p2, x2, p3, p4, p5, rfl⟩ := plusTake_is ha
  refine wpAny_BinOp (wpAny_Constant_int (Call_ (gnm O A.F hg LK.gT ?_)))
  refine callWith_K (h₀ := fr.g) O.X LK.kT (spliced_more (nm O A.F hl A.ms (spliced_more (wpAny_Constant_int (spliced_none ⟨O.X.keeps A.F.keep, ?_⟩))))) rfl rfl
  refine wpAny_mono (LK.TB fr S _ c _ m O A.F gS SL A.src h1 h2) (fun v s₁ q => ?_) fun _ _ e => e.elim
  obtain ⟨i, t', rfl, hi, hS, hk, ho⟩ := q
  refine PyProof.Rows.add_int ?_
  have : ((k : Nat) : Int) + Int.ofNat i = ((k + i : Nat) : Int) := by show (k : Int) + (i : Int) = _; omega
  rw [this]
  exact h (k + i) _ _ (by omega) (A.draw gS SL hk hS) (OutAs.trans ⟨rfl, rfl, rfl⟩ (ho.trans ⟨rfl, rfl, rfl⟩))
theorem x_count {E : Value → Shared → Prop} {a : Expr} {Q : Value → Shared → Prop} (LK : LawK B) (ha : countE a = true) (O : FrB B fr 20) (A : LawAt B fr S 0 s.heap m) (gS : fr.g.get? S = none) (SL : S ≠ fr.L)
    (hl : find "source" fr.scope.names = some .local) (hg : find "_law_take" fr.scope.names = some .globalImplicit)
    (h : ∀ N t s', N ≤ 6 → LawAt B fr S 0 s'.heap m → OutAs s s' → Q (.int (N : Nat) t) s') : wpAny (model B.prog B.w) fr.A (eval a fr.env) Q E s := by
  obtain ⟨p, c, b, q, a1, p1, p2, x, y, p3, rfl, hx, hy⟩ := countE_is ha
  obtain ⟨i, j, ti, tj, hL⟩ := A.src.list
  refine IfExp_ (wpAny_isTrue_Compare1 (it_list (j := 0) O A.F hl A.ms hL rfl (by decide) fun tk => wpAny_Constant_int (PyProof.Rows.gt_int (wpAny_truthy_bool ?_))) rfl)
  cases decide (((0 : Nat) : Int) < i) with
  | true =>
    simp only [if_true]
    exact x_plus LK hx O A gS SL hl hg (by decide) (by decide) fun N t s' hN A' o' => h N t s' (by omega) A' (OutAs.trans ⟨rfl, rfl, rfl⟩ o')
  | false =>
    simp only [Bool.false_eq_true, if_false]
    exact x_plus LK hy O A gS SL hl hg (by decide) (by decide) fun N t s' hN A' o' => h N t s' (by omega) A' (OutAs.trans ⟨rfl, rfl, rfl⟩ o')

/-- for turn in range(..): part = _law_form(source, part) -/
theorem x_turns {st : Stmt} {E : Value → Shared → Prop} {Q : Flow → Shared → Prop} (LK : LawK B) (O : FrB B fr 60) (hst : isTurns st = true) (A : LawAt B fr S 0 s.heap m) (gS : fr.g.get? S = none) (SL : S ≠ fr.L)
    (hl : ∀ x ∈ locL, find x fr.scope.names = some .local) (hg : ∀ x ∈ gloL, find x fr.scope.names = some .globalImplicit)
    (h : ∀ N s' m', N ≤ 6 → LawAt B fr S N s'.heap m' → OutAs s s' → Q .next s') :
    wpAny (model B.prog B.w) fr.A (exec st fr.env) Q E s := by
  obtain ⟨pt, p1, a, p2, b, p3, rfl, ha, hb⟩ := isTurns_is hst
  obtain ⟨b1, b2, b3, b4, b5, b6, rfl⟩ := isAsg2_is hb
  obtain ⟨v1, v2, v3, v4, v5, v6, v7, v8, v9, v10, rfl, _⟩ := id (countE_is ha)
  refine wpAny_For ?_ (fun _ => rfl)
  refine Call_ (bnm O A.F (hg _ (by decide)) LK.rg PyProof.Rows.Boot.«range» (by decide) ?_)
  refine PyProof.Rows.callWith_type rfl (evalArgs_plain (spliced_cons (x_count LK ha (O.less (by decide)) A gS SL (hl _ (by decide)) (hg _ (by decide)) fun N t s₁ hN A₁ ho₁ => spliced_nil ?_)))
  obtain ⟨hsm, hsize⟩ := range_small (k := N) (by omega)
  refine call_range_1 ?_
  refine wpAny_pyIter_range (Heap.get?_push_size _ rfl) hsm ?_
  rw [hsize]
  generalize hH : (s₁.heap.push ({ cls := .type "range", data := .fields #[.int 0 s₁.toks, .int N t, .int 1 (s₁.toks + 1)] } : Obj)) = H
  have hk1 : ∀ b o, s₁.heap.get? b = some o → H.get? b = some o := fun b o e => by rw [← hH]; exact Heap.get?_push_of_some _ e
  have hk2 : ∀ b o, s₁.heap.get? b = some o → (H.push ({ cls := .type "range_iterator", data := .fields #[rawInt 0, rawInt N, rawInt 1] } : Obj)).get? b = some o := fun b o e => Heap.get?_push_of_some _ (hk1 b o e)
  have hI0 : (H.push ({ cls := .type "range_iterator", data := .fields #[rawInt 0, rawInt N, rawInt 1] } : Obj)).get? H.objs.size = some _ := Heap.get?_push_size _ rfl
  have old : ∀ b o, s₁.heap.get? b = some o → b ≠ H.objs.size := fun b o e => Nat.ne_of_lt (Heap.lt_size (hk1 b o e))
  obtain ⟨oL, _, _, hLo, _⟩ := id A₁.F.ns
  have nL : H.objs.size ≠ fr.L := Ne.symm (old _ _ hLo)
  have nS : H.objs.size ≠ S := by obtain ⟨_, _, _, _, _, _, z, _⟩ := A₁.src; exact Ne.symm (old _ _ z)
  have gI : fr.g.get? H.objs.size = none := by
    cases z : fr.g.get? H.objs.size with
    | none => rfl
    | some o => exact absurd rfl (old _ _ (A₁.F.keep _ _ z))
  have A₂ : LawAt B fr S 0 (H.push ({ cls := .type "range_iterator", data := .fields #[rawInt 0, rawInt N, rawInt 1] } : Obj)) m :=
    A₁.off (c := fr.L) (fun b o e _ => hk2 b o e) hLo (by obtain ⟨oL', es, ep, z1, z2, _⟩ := A₁.F.ns; rw [hLo] at z1; cases z1; exact .inl ⟨es, ep, z2⟩) (frExt A₁.F hk2) rfl rfl
  refine codeAny_forLoop_any (fun k s' => ∃ h' tk i m', s' = { s₁ with heap := h', toks := tk } ∧ i ≤ N ∧ k = N + 1 - i ∧ IsRangeIter h' H.objs.size (i : Int) ((N : Int) - (i : Int)) 1 ∧ LawAt B fr S i h' m') ?_ (N + 1)
    ⟨_, _, 0, m, rfl, Nat.zero_le _, rfl, by simpa using hI0, A₂⟩
  rintro k s' ⟨h', tk, i, m', rfl, hi, rfl, hit, A'⟩
  by_cases hlt : i < N
  · refine wpAny_pyNext_range_item hit (by omega) fun h₁ hit₁ hs₁ => ?_
    refine wpAny_pure ?_
    have A₁' : LawAt B fr S i h₁ m' := A'.off (fun b o q ne => hs₁.extBut b o ne q) hit (.inr ⟨_, rfl⟩) (frBut A'.F hs₁.extBut gI nL) rfl rfl
    refine wpAny_assign_Name (stN' O A₁'.F (hl _ (by decide)) fun h₂ tk₂ F₂ hs₂ => ?_)
    replace hs₂ : Heap.SameBut fr.L h₁ h₂ := hs₂
    obtain ⟨oL₁, esL, epL, hL₁, hdL₁, _⟩ := id A₁'.F.ns
    have A₂' : LawAt B fr S i h₂ _ := A₁'.off (fun b o q ne => hs₂.extBut b o ne q) hL₁ (.inl ⟨_, _, hdL₁⟩) F₂ (if_neg (by decide)) (if_neg (by decide))
    obtain ⟨P, L, told, e, bl, y1, y2, y3, y4, y5, y6, y7⟩ := id A₂'.part
    have hit₂ := hs₂.extBut _ _ nL hit₁
    have nLst : H.objs.size ≠ L := by
      rintro q
      obtain ⟨us, nn, z, _⟩ := y2.lst
      rw [← q, hit₂] at z
      have zz : Data.fields _ = Data.seq _ _ := Option.some.inj (congrArg (Option.map Obj.data) z)
      cases zz
    refine wpAny_execs_cons (s_part (off := [L]) (i := i + 1) (sz := 40 + (44 + 40 * i)) (len := told.length + 20) (dm := 3 + e) O A₂'.F (hl _ (by decide)) A₂'.ms gS SL (fun a ha => by simp only [List.mem_singleton] at ha; subst ha; exact ⟨y6, y7⟩) (by omega) (by omega) (by omega) rfl ?_ (fun h₃ tk₃ m₃ A₃ hk₃ => ?_) rfl)
    · refine Call_ (gnm O A₂'.F (hg _ (by decide)) LK.gF ?_)
      refine callWith_K (h₀ := fr.g) O.X LK.kF (spliced_more (nm O A₂'.F (hl _ (by decide)) A₂'.ms (spliced_more (nm O A₂'.F (hl _ (by decide)) y1 (spliced_none ⟨O.X.keeps A₂'.F.keep, ?_⟩))))) rfl rfl
      exact wpAny_mono (c_form LK.MK LK.H LK.TB LK.fRun LK.fAll O A₂'.F gS SL A₂'.src y2 y3 (by omega) (by omega) y6 y7) (fun _ _ q => q) fun _ _ e => e.elim
    · refine wpAny_execs_nil ⟨N + 1 - (i + 1), by omega, h₃, tk₃, i + 1, m₃, rfl, hlt, rfl, ?_, A₃⟩
      have e1 : (i : Int) + 1 = ((i + 1 : Nat) : Int) := by omega
      have e2 : (N : Int) - (i : Int) - 1 = (N : Int) - ((i + 1 : Nat) : Int) := by omega
      rw [e1, e2] at hit₂
      exact hk₃ _ _ hit₂ nS (by simpa using nLst) nL
  · have hie : i = N := by omega
    subst hie
    refine wpAny_pyNext_range_end O.hh hit (by omega) fun h₁ hx₁ => wpAny_execs_nil ?_
    exact h i _ m' hN (A'.off (fun b o q ne => hx₁ b o ne q) hit (.inr ⟨_, rfl⟩) (frBut A'.F hx₁ gI nL) rfl rfl) (ho₁.trans ⟨rfl, rfl, rfl⟩)
end
end Mine

namespace Mine
section
variable {B : Bs} {fr : Frm} {n : Nat} {s : Shared} {m : Str → Option Value} {S : Addr}

/-- _law_words(told, k - deep) -/
theorem x_lw {E : Value → Shared → Prop} {Q : Value → Shared → Prop} {x : Expr} {k e : Nat} {te : PySem.Tok} {L : Addr} {us : List Value} {told : List Str} {ep : Nat} (LK : LawK B) (hx : wcall k x = true) (O : FrB B fr 5) (F : Fr fr.g fr.L s.heap m)
    (hl : ∀ x ∈ locL, find x fr.scope.names = some .local) (hg : ∀ x ∈ gloL, find x fr.scope.names = some .globalImplicit) (mt : m "told" = some (.ref L)) (md : m "deep" = some (.int (e : Nat) te)) (hL : s.heap.get? L = some (listObj us ep)) (hstr : StrsAre us told)
    (hgood : ∀ x ∈ told, goodT x = true) (hlen : told.length ≤ 1000) (h1 : e ≤ k) (h2 : k - e ≤ 60)
    (h : ∀ (ω : Wd) s', WordsAt ω s'.heap 0 (k - e) → ω.toks = wordsOf told ++ [endW] → ω.C = B.C → ω.R ≠ ω.D → fr.g.get? ω.D = none → ω.D ≠ fr.L → Kept s.heap s'.heap → OutAs s s' → s.heap.get? ω.D = none → Q (.ref ω.W) s') :
    wpAny (model B.prog B.w) fr.A (eval x fr.env) Q E s := by
  obtain ⟨p1, p2, a, p, p3, p4, p5, rfl⟩ := wcall_is hx
  refine Call_ (gnm O F (hg _ (by decide)) LK.gW ?_)
  refine callWith_K (h₀ := fr.g) O.X LK.kW (spliced_more (nm O F (hl _ (by decide)) mt (spliced_more (wpAny_BinOp (wpAny_Constant_int (nm O F (hl _ (by decide)) md (PyProof.Rows.sub_int (spliced_none ⟨O.X.keeps F.keep, ?_⟩)))))))) rfl rfl
  have hz : ((k : Nat) : Int) - ((e : Nat) : Int) = ((k - e : Nat) : Int) := by omega
  rw [hz]
  refine wpAny_mono (c_lwords (s := { s with toks := s.toks + 1 + 1 }) (n := 0) LK.MK LK.WK LK.hW O F hL hstr hgood hlen h2) (fun v s₁ q => ?_) fun _ _ e => e.elim
  obtain ⟨ω, rfl, W, ht, hC, hR, hD, hk, ho⟩ := q
  refine h ω s₁ W ht hC hR ?_ ?_ hk ⟨ho.1, ho.2.1, ho.2.2⟩ hD
  · cases z : fr.g.get? ω.D with
    | none => rfl
    | some o => cases hD.symm.trans (F.keep _ _ z)
  · rintro q
    obtain ⟨o, _, _, z, _⟩ := F.ns
    rw [← q] at z
    cases hD.symm.trans z

theorem PartAt.ext {h h' : Heap} {P L : Addr} {told : List Str} {e : Nat} {b : Bool} (x : PartAt h S P L told e b) (k : Kept h h') : PartAt h' S P L told e b := by
  obtain ⟨⟨t, nn, h1⟩, ⟨us, nn', h2, h3⟩, h4, h5⟩ := x
  exact ⟨⟨t, nn, k _ _ h1⟩, ⟨us, nn', k _ _ h2, h3⟩, h4, h5⟩

/-- told, deep, is_block = part -/
theorem s_unp {E : Value → Shared → Prop} {Q : Flow → Shared → Prop} {st : Stmt} {P L : Addr} {told : List Str} {e : Nat} {b : Bool} (hst : isUnp st = true) (O : FrB B fr n) (F : Fr fr.g fr.L s.heap m) (hl : ∀ x ∈ locL, find x fr.scope.names = some .local)
    (mp : m "part" = some (.ref P)) (pa : PartAt s.heap S P L told e b)
    (h : ∀ h' tk te m', Fr fr.g fr.L h' m' → m' "told" = some (.ref L) → m' "deep" = some (.int (e : Nat) te) → PartAt h' S P L told e b → Q .next { s with heap := h', toks := tk }) :
    wpAny (model B.prog B.w) fr.A (exec st fr.env) Q E s := by
  obtain ⟨p1, p2, p3, k, p4, p5, p6, rfl⟩ := isUnp_is hst
  obtain ⟨te, nn, hT⟩ := pa.tup
  refine Assign_Tuple (nm O F (hl _ (by decide)) mp ?_) rfl rfl
  refine assign_Tuple_tuple (items := #[.ref L, .int (e : Nat) te, .bool b]) O.hh ⟨_, hT, rfl, nn, rfl⟩ rfl rfl fun h₁ hx₁ => ?_
  have k₁ : Kept s.heap h₁ := fun b o e => hx₁ b o (Nat.ne_of_lt (Heap.lt_size e)) e
  have F₁ := frExt F k₁
  have pa₁ := pa.ext k₁
  have stp : ∀ {h h' : Heap} {m : Str → Option Value}, Fr fr.g fr.L h m → Heap.SameBut fr.L h h' → PartAt h S P L told e b → PartAt h' S P L told e b := fun F hs x => by
    obtain ⟨oL, _, _, hL, hdL, _⟩ := id F.ns
    exact x.off (fun b o q ne => hs.extBut b o ne q) hL (.inl ⟨_, _, hdL⟩)
  refine assignInOrder_cons (wpAny_assign_Name (stN' O F₁ (hl _ (by decide)) fun h₂ tk₂ F₂ hs₂ => ?_))
  refine assignInOrder_cons (wpAny_assign_Name (stN' O F₂ (hl _ (by decide)) fun h₃ tk₃ F₃ hs₃ => ?_))
  refine assignInOrder_cons (wpAny_assign_Name (stN' O F₃ (hl _ (by decide)) fun h₄ tk₄ F₄ hs₄ => ?_))
  refine assignInOrder_nil (h h₄ tk₄ te _ F₄ ?_ ?_ (stp F₃ hs₄ (stp F₂ hs₃ (stp F₁ hs₂ pa₁))))
  · exact (if_neg (by decide)).trans ((if_neg (by decide)).trans (if_pos rfl))
  · exact (if_neg (by decide)).trans (if_pos rfl)

theorem x_law {body : List Stmt} {l : Addr} {vs : List Value} {ns : List Int} (LK : LawK B) (hb : lawB body = true) (O : FrB B fr 300) (XB : B.K.In fr.base) (TB : TopRead B.p B.loose B.mg B.mb fr.base) (F : Fr fr.g fr.L s.heap m)
    (hl : ∀ x ∈ locL, find x fr.scope.names = some .local) (hg : ∀ x ∈ gloL, find x fr.scope.names = some .globalImplicit) (ms : m "script" = some (.ref l)) (hL : fr.g.IsList l vs.toArray) (hi : IntsAre vs ns) :
    wpAny (model B.prog B.w) fr.A (execs body fr.env) (fun f s' => f = .ret (.bool true) ∧ fr.base.StaysIn s'.heap ∧ OutAs s s') (fun _ _ => False) s := by
  unfold lawB at hb
  split at hb
  · rename_i s1 s2 s3 s4 s5 s6 s7
    simp only [Bool.and_eq_true] at hb
    obtain ⟨⟨⟨⟨⟨⟨h1, h2⟩, h3⟩, h4⟩, h5⟩, h6⟩, h7⟩ := hb
    obtain ⟨a1, a2, a3, a4, a5, rfl⟩ := isAsg1_is h1
    obtain ⟨b1, b2, b3, b4, b5, rfl⟩ := isAsg1_is h2
    -- source = _law_pool(script)
    refine wpAny_execs_cons (wpAny_Assign_Name (Call_ (gnm O F (hg _ (by decide)) LK.gP ?_)))
    refine callWith_K (h₀ := fr.g) O.X LK.kP (spliced_more (nm O F (hl _ (by decide)) ms (spliced_none ⟨O.X.keeps F.keep, ?_⟩))) rfl rfl
    obtain ⟨o, ho, hc, ep, hd⟩ := hL
    refine wpAny_mono (c_pool (n := 299) LK.hP O F ⟨o, F.keep _ _ ho, hc, ep, hd⟩ hi) (fun v s₁ q => ?_) fun _ _ e => e.elim
    obtain ⟨S, rfl, hSn, src, hk₁, ho₁⟩ := q
    have F₁ := frExt F hk₁
    obtain ⟨oL₁, _, _, hL₁, hdL₁, _⟩ := id F₁.ns
    have gS : fr.g.get? S = none := by
      cases z : fr.g.get? S with
      | none => rfl
      | some o => cases hSn.symm.trans (F.keep _ _ z)
    have SL : S ≠ fr.L := by
      rintro rfl
      obtain ⟨o, _, _, z, _⟩ := F.ns
      cases hSn.symm.trans z
    refine stN' O F₁ (hl _ (by decide)) fun h₂ tk₂ F₂ hs₂ => ?_
    replace hs₂ : Heap.SameBut fr.L s₁.heap h₂ := hs₂
    have src₂ := src.off (fun b o q ne => hs₂.extBut b o ne q) hL₁ (.inl ⟨_, _, hdL₁⟩)
    -- part = _law_base(source)
    refine wpAny_execs_cons (s_part (S := S) (off := []) (i := 0) (sz := 44) (len := 40) (dm := 11) (O.less (by decide) : FrB B fr 60) F₂ (hl _ (by decide)) (if_pos rfl) gS SL (fun a ha => by cases ha) rfl (by decide) (by decide) rfl ?_ (fun h₃ tk₃ m₃ A₃ hk₃ => ?_) rfl)
    · refine Call_ (gnm O F₂ (hg _ (by decide)) LK.gB ?_)
      refine callWith_K (h₀ := fr.g) O.X LK.kB (spliced_more (nm O F₂ (hl _ (by decide)) (if_pos rfl) (spliced_none ⟨O.X.keeps F₂.keep, ?_⟩))) rfl rfl
      exact wpAny_mono (c_base (n := 0) LK.MK LK.H LK.TB LK.bRun LK.bAll (O.less (by decide)) F₂ gS SL src₂) (fun _ _ q => q) fun _ _ e => e.elim
    -- the turns
    refine wpAny_execs_cons (x_turns LK (O.less (by decide)) h3 A₃ gS SL hl hg fun N s₄ m₄ hN A₄ ho₄ => ?_)
    obtain ⟨P, L, told, e, bl, mp, pa, po, hlen, hdm, gL, LL⟩ := A₄.part
    have F₄ := A₄.F
    -- told, deep, is_block = part
    refine wpAny_execs_cons (s_unp h4 O F₄ hl mp pa fun h₅ tk₅ te m₅ F₅ mt md pa₅ => ?_)
    obtain ⟨us, nn, hLs, hstr⟩ := pa₅.lst
    have he := po.deep
    have he1 : 1 ≤ e := by have : 1 ≤ least bl := by cases bl <;> decide
                           omega
    have hRB : ReadsBy B B.fExpr true (wordsOf told) e (44 + 40 * N) := po.read.ex (by
      obtain ⟨_, _, x, r, hx, _⟩ := po.start
      rw [hx]
      intro z
      cases z)
    -- here = _law_words(told, 60 - deep)
    obtain ⟨c1, c2, c3, rfl, hw60⟩ := isHereL_is h5
    have hcomp : isComp c3 = false := by obtain ⟨_, _, _, _, _, _, _, rfl⟩ := wcall_is hw60; rfl
    refine wpAny_execs_cons (wpAny_Assign_Name (x_lw LK hw60 (O.less (by decide)) F₅ hl hg mt md hLs hstr pa₅.good (by omega) (by omega) (by omega) fun ω s₆ W₆ ht hC hR gD DL hk₆ ho₆ hDn => ?_) (no_swap hcomp))
    have F₆ := frExt F₅ hk₆
    obtain ⟨oL₆, _, _, hL₆, hdL₆, _⟩ := id F₆.ns
    have pa₆ := pa₅.ext hk₆
    refine stN' O F₆ (hl _ (by decide)) fun h₇ tk₇ F₇ hs₇ => ?_
    replace hs₇ : Heap.SameBut fr.L s₆.heap h₇ := hs₇
    have W₇ : WordsAt ω h₇ 0 (60 - e) := W₆.off (fun b o q ne => hs₇.extBut b o ne q) hL₆ (.inl ⟨_, _, hdL₆⟩) DL
    have pa₇ := pa₆.off (fun b o q ne => hs₇.extBut b o ne q) hL₆ (.inl ⟨_, _, hdL₆⟩)
    have mw : (fun z => if z = Str.ofString "here" then some (Value.ref ω.W) else m₅ z) "here" = some (.ref ω.W) := if_pos rfl
    have mt' : (fun z => if z = Str.ofString "here" then some (Value.ref ω.W) else m₅ z) "told" = some (.ref L) := (if_neg (by decide)).trans mt
    have md' : (fun z => if z = Str.ofString "here" then some (Value.ref ω.W) else m₅ z) "deep" = some (.int (e : Nat) te) := (if_neg (by decide)).trans md
    -- the test
    obtain ⟨d1, d2, d3, d4, d5, d6, d7, d8, d9, d10, d11, d12, d13, d14, rfl⟩ := isTestL_is h6
    refine wpAny_execs_cons (wpAny_If (isTrue_or (isTrue_not (isTrue_plain (Call_ (gnm O F₇ (hg _ (by decide)) LK.gI ?_))))))
    refine callWith_K (h₀ := fr.g) O.X LK.kI (spliced_more (nm O F₇ (hl _ (by decide)) mw (spliced_none ⟨O.X.keeps F₇.keep, ?_⟩))) rfl rfl
    refine wpAny_mono (c_isread LK.MK LK.RK XB TB LK.hI hRB (O.less (by omega)) F₇ gD DL hR hC W₇ ht (by omega)) (fun v s₈ q => ?_) fun _ _ e => e.elim
    rcases q with ⟨_, rfl, hk₈, W₈, ho₈⟩ | ⟨hbad, _⟩
    · refine wpAny_truthy_bool ?_
      simp only [Bool.not_true, Bool.false_eq_true, if_false]
      have F₈ := frBut F₇ (fun b o ne q => hk₈ b o q ne) gD DL
      refine isTrue_or (wpAny_isTrue_Compare1 (rd_deep LK.MK.CK O F₈ hC W₈ (hl _ (by decide)) mw fun t => wpAny_BinOp (wpAny_Constant_int (nm O F₈ (hl _ (by decide)) md' (PyProof.Rows.sub_int (PyProof.Rows.ne_int (wpAny_truthy_bool ?_)))))) rfl)
      have hz : (((60 - e : Nat) : Int) != ((60 : Nat) : Int) - ((e : Nat) : Int)) = false := by
        have : ((60 - e : Nat) : Int) = ((60 : Nat) : Int) - ((e : Nat) : Int) := by omega
        rw [this]; simp
      rw [hz]
      simp only [Bool.false_eq_true, if_false]
      refine isTrue_or_nil ?_
      simp only [Bool.false_eq_true, if_false]
      refine wpAny_execs_nil ?_
      -- the last
      obtain ⟨e1, e2, e3, e4, e5, rfl, hw61⟩ := isLast_is h7
      have hLs₈ : s₈.heap.get? L = some (listObj us nn) := by
        have hne : L ≠ ω.D := by
          rintro rfl
          cases hDn.symm.trans hLs
        exact hk₈ _ _ (hs₇.extBut _ _ LL (hk₆ _ _ hLs)) hne
      have hstar : isStar e2 = false := by obtain ⟨_, _, _, _, _, _, _, rfl⟩ := wcall_is hw61; rfl
      obtain ⟨hse, hsr⟩ := star_cons (env := fr.env) (e := e2) (r := []) (by show (match isStar e2 with | true => false | false => noStar []) = true; rw [hstar]; rfl)
      refine wpAny_execs_cons (wpAny_Return_some (UnaryOp_ (Call_ (gnm O F₈ (hg _ (by decide)) LK.gI ?_))))
      refine callWith_K (h₀ := fr.g) O.X LK.kI ?_ hse (plain_args hsr)
      refine spliced_more (x_lw LK hw61 (O.less (by decide)) F₈ hl hg mt' md' hLs₈ hstr pa₅.good (by omega) (by omega) (by omega) fun ω' s₉ W₉ ht' hC' hR' gD' DL' hk₉ ho₉ _ => ?_) hse
      have F₉ := frExt F₈ hk₉
      refine spliced_none ⟨O.X.keeps F₉.keep, ?_⟩
      refine wpAny_mono (c_isread LK.MK LK.RK XB TB LK.hI hRB (O.less (by omega)) F₉ gD' DL' hR' hC' W₉ ht' (by omega)) (fun v s₁₀ q => ?_) fun _ _ e => e.elim
      rcases q with ⟨hbad, _⟩ | ⟨_, rfl, hb₁₀, ho₁₀⟩
      · omega
      · refine PyProof.Rows.not_of (wpAny_truthy_bool ⟨rfl, hb₁₀, ?_⟩)
        exact ho₁.trans (OutAs.trans ⟨rfl, rfl, rfl⟩ (ho₄.trans (OutAs.trans ⟨rfl, rfl, rfl⟩ (ho₆.trans (OutAs.trans ⟨rfl, rfl, rfl⟩ (ho₈.trans (OutAs.trans ⟨rfl, rfl, rfl⟩ (ho₉.trans ho₁₀))))))))
    · omega
  · cases hb
end
end Mine

namespace Mine
def bsAt (prog : Program) (w : World) (p : Program) (loose : List Str) (mg mb : Str → Option Value) (K : Frag) : Bs :=
  ⟨prog, w, p, loose, mg, mb, K, refOf K "Words", refOf K "read_expr", refOf K "read_block_like", refOf K "_law_take", refOf K "GrammarFault"⟩
/-- no level of the caller's stands in the way -/
theorem law_end {prog : Program} {w : World} {p : Program} {loose : List Str} {mg mb : Str → Option Value} {K : Frag} {s₁ : Shared} {name : Str} {scope : Scope} {L fa l : Addr} {cd : Value} {body : List Stmt} {vs : List Value} {ns : List Int} {m : Str → Option Value} {h₁ : Heap} {tk : Nat}
    {Q : Flow → Shared → Prop} {E : Value → Shared → Prop} (LK : LawK (bsAt prog w p loose mg mb K)) (KX : K.In s₁.heap) (T : TopRead p loose mg mb s₁.heap) (K0 : Below callerA s₁.heap [] s₁.heap) (F : Fr s₁.heap L h₁ m) (hgens : s₁.gens = #[])
    (hL : s₁.heap.IsList l vs.toArray) (hi : IntsAre vs ns) (hlaw : lawB body = true) (hk : scope.kind = .function) (hdbg : find (Str.ofString "__debug__") scope.names = none) (hl : ∀ x ∈ locL, find x scope.names = some .local) (hg : ∀ x ∈ gloL, find x scope.names = some .globalImplicit)
    (ms : m "script" = some (.ref l)) (good : ∀ s', (∀ b o, s₁.heap.get? b = some o → s'.heap.get? b = some o) → s'.os = s₁.os → s'.gens = #[] → Q (.ret (.bool true)) s') :
    wpAny (model prog w) (callerA.deeper (envOf name scope L fa cd)) (execs body (envOf name scope L fa cd)) Q E { heap := h₁, gens := s₁.gens, drawn := s₁.drawn, toks := tk, os := s₁.os } := by
  have O : FrB (bsAt prog w p loose mg mb K) ⟨callerA, s₁.heap, s₁.heap, [], L, fa, name, scope, cd⟩ 300 := by
    refine ⟨K0, KX, T, hk, rfl, hdbg, ?_, ?_⟩
    · show 1 + claimMargin + 300 + 20 ≤ recursionLimit
      decide
    · show 4 + 10 * (300 + 20) ≤ cLine
      decide
  refine wpAny_mono (x_law (s := { heap := h₁, gens := s₁.gens, drawn := s₁.drawn, toks := tk, os := s₁.os }) LK hlaw O KX T F hl hg ms hL hi) (fun f s' q => ?_) fun _ _ e => e.elim
  obtain ⟨rfl, hb, o1, o2, o3⟩ := q
  exact good s' hb o3 (o1.trans hgens)
end Mine

set_option maxRecDepth 100000
set_option maxHeartbeats 8000000
open_top hd for PySem.Challenge.rw_up0054_01
set_option maxHeartbeats 200000

namespace Mine
theorem at_run (P : Params) : baseRun (hd.heap_39 P) = true := by kernel_rfl
theorem at_runF (P : Params) : formsRun (hd.heap_39 P) false = true := by kernel_rfl
theorem at_runT (P : Params) : formsRun (hd.heap_39 P) true = true := by kernel_rfl
theorem at_PF (P : Params) : fineAll (hd.heap_39 P) false formsP = true := by kernel_rfl
theorem at_QF (P : Params) : fineAll (hd.heap_39 P) false formsQ = true := by kernel_rfl
theorem at_RF (P : Params) : fineAll (hd.heap_39 P) false (formsR 2) = true := by kernel_rfl
theorem at_SF (P : Params) : fineAll (hd.heap_39 P) false formsS = true := by kernel_rfl
theorem at_TF (P : Params) : fineAll (hd.heap_39 P) false formsT = true := by kernel_rfl
end Mine

namespace Mine
theorem at_base (P : Params) : baseAll (hd.heap_39 P) [([sg "a"], 1, false)] = true := by kernel_rfl
theorem at_cast1 (P : Params) : baseAll (hd.heap_39 P) ([0, 1, 2, 3, 4].map castB) = true := by kernel_rfl
theorem at_cast2 (P : Params) : baseAll (hd.heap_39 P) ([5, 6, 7, 8].map castB) = true := by kernel_rfl
theorem at_match1 (P : Params) : baseAll (hd.heap_39 P) ([0, 1, 2, 3, 4].map matchB) = true := by kernel_rfl
theorem at_match2 (P : Params) : baseAll (hd.heap_39 P) ([5, 6, 7, 8].map matchB) = true := by kernel_rfl
theorem at_PT (P : Params) : fineAll (hd.heap_39 P) true formsP = true := by kernel_rfl
theorem at_QT (P : Params) : fineAll (hd.heap_39 P) true formsQ = true := by kernel_rfl
theorem at_RT (P : Params) : fineAll (hd.heap_39 P) true (formsR 1) = true := by kernel_rfl
theorem at_ST (P : Params) : fineAll (hd.heap_39 P) true formsS = true := by kernel_rfl
theorem at_TT (P : Params) : fineAll (hd.heap_39 P) true formsT = true := by kernel_rfl
end Mine

namespace Mine
theorem at_k1 (P : Params) : clsOk (hd.heap_39 P) (refOf (hd.heap_39 P) "Words") = true := by kernel_rfl
theorem at_k2 (P : Params) : faultOk (hd.heap_39 P) (refOf (hd.heap_39 P) "GrammarFault") = true := by kernel_rfl
theorem at_k3 (P : Params) : methsOk (hd.heap_39 P) (refOf (hd.heap_39 P) "Words") = true := by kernel_rfl
theorem at_k4 (P : Params) : (refIs (hd.heap_39 P) "GrammarFault" && keepIn (hd.heap_39 P) (.ref (refOf (hd.heap_39 P) "GrammarFault")) && mdOk (hd.heap_39 P) && levOk (hd.heap_39 P)) = true := by kernel_rfl
theorem at_k5 (P : Params) : (levEs (hd.heap_39 P)).map (·.hash) = (levEs (hd.heap_39 P)).map (keyH P) := by kernel_rfl
theorem at_k6 (P : Params) : (twoOk (hd.heap_39 P) (refOf (hd.heap_39 P) "read_expr") && !Nat.beq (refOf (hd.heap_39 P) "read_expr") (refOf (hd.heap_39 P) "_law_take") && okTakeL (hd.heap_39 P) (refOf (hd.heap_39 P) "_law_take")) = true := by kernel_rfl
theorem at_k7 (P : Params) : okPool (hd.heap_39 P) (refOf (hd.heap_39 P) "_law_pool") = true := by kernel_rfl
theorem at_k8 (P : Params) : (makesIn (hd.heap_39 P) (refOf (hd.heap_39 P) "Words") && hasM (hd.heap_39 P) (refOf (hd.heap_39 P) "Words") "__init__" && refIs (hd.heap_39 P) "Words" && keepIn (hd.heap_39 P) (.ref (refOf (hd.heap_39 P) "Words")) && okInit (hd.heap_39 P) (mAddr (hd.heap_39 P) (refOf (hd.heap_39 P) "Words") "__init__")) = true := by kernel_rfl
theorem at_k9 (P : Params) : takerIn (hd.heap_39 P) (refOf (hd.heap_39 P) "Words") "rows" = some none := by kernel_rfl
def calls (K : Frag) (x : Str) : Bool := refIs K x && keepIn K (.ref (refOf K x))
theorem at_k10 (P : Params) : (calls (hd.heap_39 P) "read_expr" && calls (hd.heap_39 P) "_law_pool" && calls (hd.heap_39 P) "_law_base" && calls (hd.heap_39 P) "_law_form" && calls (hd.heap_39 P) "_law_take" && calls (hd.heap_39 P) "_law_words" && calls (hd.heap_39 P) "_law_is_read") = true := by kernel_rfl
theorem at_k11 (P : Params) : (okWords (hd.heap_39 P) (refOf (hd.heap_39 P) "_law_words") && okIsRead (hd.heap_39 P) (refOf (hd.heap_39 P) "_law_is_read")) = true := by kernel_rfl
theorem at_k12 (P : Params) : noneK (hd.heap_39 P) "range" = true := by kernel_rfl
end Mine

namespace Mine
theorem all2_app {α : Type} {p : α → Bool} : ∀ {l r : List α}, all2 p l = true → all2 p r = true → all2 p (l ++ r) = true
  | [], _, _, h => h
  | x :: l, r, h, h' => by
    unfold all2 at h
    show all2 p (x :: (l ++ r)) = true
    unfold all2
    split at h
    · exact all2_app h h'
    · cases h
theorem at_bases (P : Params) : baseAll (hd.heap_39 P) bases = true :=
  all2_app (l := [([sg "a"], 1, false)]) (r := [0, 1, 2, 3, 4].map castB ++ ([5, 6, 7, 8].map castB ++ ([0, 1, 2, 3, 4].map matchB ++ [5, 6, 7, 8].map matchB))) (at_base P) (all2_app (at_cast1 P) (all2_app (at_cast2 P) (all2_app (at_match1 P) (at_match2 P))))
theorem at_forms (P : Params) (b : Bool) : fineAll (hd.heap_39 P) b (forms b) = true := by
  cases b with
  | true => exact all2_app (all2_app (all2_app (all2_app (at_PT P) (at_QT P)) (at_RT P)) (at_ST P)) (at_TT P)
  | false => exact all2_app (all2_app (all2_app (all2_app (at_PF P) (at_QF P)) (at_RF P)) (at_SF P)) (at_TF P)
theorem at_runs (P : Params) (b : Bool) : formsRun (hd.heap_39 P) b = true := by
  cases b with
  | true => exact at_runT P
  | false => exact at_runF P
theorem calls_is {K : Frag} {x : Str} (h : calls K x = true) : nsIn K mainGlobals x = some (some (.ref (refOf K x))) ∧ keepIn K (.ref (refOf K x)) = true := by
  unfold calls at h
  simp only [Bool.and_eq_true] at h
  exact ⟨refIs_is h.1, h.2⟩
theorem lawK_at (prog : Program) (w : World) (p : Program) (loose : List Str) (mg mb : Str → Option Value) : LawK (bsAt prog w p loose mg mb (hd.heap_39 w.params)) := by
  have k4 := at_k4 w.params
  have k6 := at_k6 w.params
  have k8 := at_k8 w.params
  have k10 := at_k10 w.params
  have k11 := at_k11 w.params
  simp only [Bool.and_eq_true, Bool.not_eq_true'] at k4 k6 k8 k10 k11
  obtain ⟨⟨⟨a1, a2⟩, a3⟩, a4⟩ := k4
  obtain ⟨⟨b1, b2⟩, b3⟩ := k6
  obtain ⟨⟨⟨⟨c1, c2⟩, c3⟩, c4⟩, c5⟩ := k8
  obtain ⟨⟨⟨⟨⟨⟨d1, d2⟩, d3⟩, d4⟩, d5⟩, d6⟩, d7⟩ := k10
  have d1 := calls_is d1
  have d2 := calls_is d2
  have d3 := calls_is d3
  have d4 := calls_is d4
  have d5 := calls_is d5
  have d6 := calls_is d6
  have d7 := calls_is d7
  exact ⟨methK_of rfl (at_k1 _) (at_k2 _) (at_k3 _) a1 a2 a3 a4 (at_k5 _), bsOk_of rfl rfl rfl rfl b1 b2, takesBy (by decide) b3,
    ⟨at_k9 _, c1, c2, c5, refIs_is c3, c4⟩, ⟨d1.1, d1.2⟩, at_run _, at_bases _, at_runs _, at_forms _, d2.1, d2.2, at_k7 _, d3.1, d3.2, d4.1, d4.2, d5.1, d5.2, d6.1, d6.2, k11.1, d7.1, d7.2, k11.2, noneK_is (at_k12 _)⟩
end Mine

set_option maxHeartbeats 8000000 in
theorem PySem.Challenge.cw_up0054_01_holds : PySem.Challenge.rw_up0054_01.Holds :=
  hd (by
    k_go0
    refine Mine.law_end (Mine.lawK_at _ _ _ _ _ _) ‹Frag.In _ _› (topRead_of ‹Top _ _ _ _ _ _›) ‹Below _ _ _ _› ‹Fr _ _ _ _› ‹_ = #[]› ‹Heap.IsList _ _ _› ‹IntsAre _ _› (by kernel_rfl) rfl (by decide +kernel) (by decide +kernel) (by decide +kernel) (by rfl) ?_
    intro s' h1 h2 h3
    refine ⟨.inl ⟨.bool true, .bool true, [], rfl, fun _ => rfl, .bool true, ?_, unshared_nil⟩, h1, h2, h3⟩
    first | wrow_post | kc_post)
