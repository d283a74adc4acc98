import PyProof.Rows.All
import Wide.All
import OpenK.AllK
import Wide.FinOn
import PyProof.ExcBaseAll.Exception
import Lean
import PySem.Challenge.RW_up0054_01
open PySem PySem.W PyProof.Rows PySem.Calls
set_option Elab.async false
set_option maxRecDepth 10000
set_option bootstrap.genMatcherCode false
set_option genSizeOf false
set_option genSizeOfSpec false
set_option genInjectivity false
noncomputable section

namespace Mine

/-! The evaluator: abstract values, the words that are still to be read, and one step. -/
inductive AV where
  | none
  | bool (b : Bool)
  | int (i : Int)
  | num
  | sym (c : Int)
  | str (ss : List Str)
  | words
  | lst (i : Nat)
  | tup (xs : List AV)
  | any
  | src
  | inner

structure Wo where
  kind : Str
  texts : List Str

inductive TK where
  | tok (t : Wo)
  | hole (blk : Bool) (t : Wo)

structure WS where
  prev : Option Wo
  rest : List TK
  lvl : Nat
  mp : Nat
  mh : Nat

structure St where
  loc : List (Str × AV)
  lists : List (List AV)
  ws : WS

inductive Fl where
  | next
  | brk
  | ret (v : AV)

theorem ff {p : Prop} (h : false = true) : p := Bool.noConfusion h
theorem tf {p : Prop} (h : true = false) : p := Bool.noConfusion h
theorem nn {α : Type _} {p : Prop} {a : α} (h : none = some a) : p := nomatch h
theorem ns {α : Type _} {p : Prop} {a : α} (h : some a = none) : p := nomatch h
theorem ln {α : Type _} {p : Prop} {a : α} {l : List α} (h : [] = a :: l) : p := nomatch h
theorem lc {α : Type _} {p : Prop} {a : α} {l : List α} (h : a :: l = []) : p := nomatch h

/-! small questions, each with what it tells -/
noncomputable def onS {α : Type} (o : Option α) (f : α → Bool) : Bool := match o with
  | some x => f x
  | none => false
noncomputable def onO {α β : Type} (o : Option α) (f : α → Option β) : Option β := match o with
  | some x => f x
  | none => none
noncomputable def gd {β : Type} (b : Bool) (o : Option β) : Option β := match b with
  | true => o
  | false => none
noncomputable def one {α : Type} (l : List α) (f : α → Bool) : Bool := match l with
  | x :: r => match r with
    | [] => f x
    | _ :: _ => false
  | [] => false
noncomputable def isNil {α : Type} : List α → Bool
  | [] => true
  | _ :: _ => false
noncomputable def lstS (v : AV) (f : Nat → Bool) : Bool := match v with
  | .lst i => f i
  | _ => false
noncomputable def intS (v : AV) (f : Int → Bool) : Bool := match v with
  | .int i => f i
  | _ => false
noncomputable def nonNeg (i : Int) (f : Nat → Bool) : Bool := match i with
  | .ofNat n => f n
  | .negSucc _ => false
noncomputable def natS (v : AV) (f : Nat → Bool) : Bool := intS v fun i => nonNeg i f
noncomputable def strS (v : AV) (f : List Str → Bool) : Bool := match v with
  | .str ss => f ss
  | _ => false
noncomputable def tupS (v : AV) (f : List AV → Bool) : Bool := match v with
  | .tup xs => f xs
  | _ => false
noncomputable def nameO (e : Expr) : Option Str := match e with
  | .Name x _ => some x
  | _ => none
theorem and_b {a b : Bool} (h : (a && b) = true) : a = true ∧ b = true := by
  cases a with
  | true => exact ⟨rfl, h⟩
  | false => exact ff h
theorem not_b {a : Bool} (h : (!a) = true) : a = false := by
  cases a with
  | true => exact ff h
  | false => rfl
theorem onS_is {α : Type} {o : Option α} {f : α → Bool} (h : onS o f = true) : ∃ x, o = some x ∧ f x = true := by
  cases o with
  | none => exact ff h
  | some x => exact ⟨x, rfl, h⟩
theorem onO_is {α β : Type} {o : Option α} {f : α → Option β} {b : β} (h : onO o f = some b) : ∃ x, o = some x ∧ f x = some b := by
  cases o with
  | none => exact nn h
  | some x => exact ⟨x, rfl, h⟩
theorem gd_is {β : Type} {b : Bool} {o : Option β} {c : β} (h : gd b o = some c) : b = true ∧ o = some c := by
  cases b with
  | true => exact ⟨rfl, h⟩
  | false => exact nn h
theorem one_is {α : Type} {l : List α} {f : α → Bool} (h : one l f = true) : ∃ x, l = [x] ∧ f x = true := by
  rcases l with _ | ⟨x, _ | ⟨y, r⟩⟩
  · exact ff h
  · exact ⟨x, rfl, h⟩
  · exact ff h
theorem and_el {a b : Bool} {P : Prop} (h : (a && b) = true) (k : a = true → b = true → P) : P := k (and_b h).1 (and_b h).2
theorem onS_el {α : Type} {o : Option α} {f : α → Bool} {P : Prop} (h : onS o f = true) (k : ∀ x, o = some x → f x = true → P) : P := by
  cases o with
  | none => exact ff h
  | some x => exact k x rfl h
theorem onO_el {α β : Type} {o : Option α} {f : α → Option β} {b : β} {P : Prop} (h : onO o f = some b) (k : ∀ x, o = some x → f x = some b → P) : P := by
  cases o with
  | none => exact nn h
  | some x => exact k x rfl h
theorem gd_el {β : Type} {b : Bool} {o : Option β} {c : β} {P : Prop} (h : gd b o = some c) (k : b = true → o = some c → P) : P := k (gd_is h).1 (gd_is h).2
theorem one_el {α : Type} {l : List α} {f : α → Bool} {P : List α → Prop} (h : one l f = true) (k : ∀ x, f x = true → P [x]) : P l := by
  rcases l with _ | ⟨x, _ | ⟨y, r⟩⟩
  · exact ff h
  · exact k x h
  · exact ff h
theorem nil_is {α : Type} {l : List α} (h : isNil l = true) : l = [] := by
  cases l with
  | nil => rfl
  | cons _ _ => exact ff h
theorem lstS_is {v : AV} {f : Nat → Bool} (h : lstS v f = true) : ∃ i, v = .lst i ∧ f i = true := by
  cases v with
  | lst i => exact ⟨i, rfl, h⟩
  | _ => exact ff h
theorem intS_is {v : AV} {f : Int → Bool} (h : intS v f = true) : ∃ i, v = .int i ∧ f i = true := by
  cases v with
  | int i => exact ⟨i, rfl, h⟩
  | _ => exact ff h
theorem nonNeg_is {i : Int} {f : Nat → Bool} (h : nonNeg i f = true) : ∃ n : Nat, i = n ∧ f n = true := by
  cases i with
  | ofNat n => exact ⟨n, rfl, h⟩
  | negSucc n => exact ff h
theorem natS_is {v : AV} {f : Nat → Bool} (h : natS v f = true) : ∃ n : Nat, v = .int n ∧ f n = true := by
  obtain ⟨i, rfl, h⟩ := intS_is h
  obtain ⟨n, rfl, h⟩ := nonNeg_is h
  exact ⟨n, rfl, h⟩
theorem strS_is {v : AV} {f : List Str → Bool} (h : strS v f = true) : ∃ i, v = .str i ∧ f i = true := by
  cases v with
  | str i => exact ⟨i, rfl, h⟩
  | _ => exact ff h
theorem tupS_is {v : AV} {f : List AV → Bool} (h : tupS v f = true) : ∃ i, v = .tup i ∧ f i = true := by
  cases v with
  | tup i => exact ⟨i, rfl, h⟩
  | _ => exact ff h
theorem nameO_is {e : Expr} {x : Str} (h : nameO e = some x) : ∃ p, e = .Name x p := by
  cases e with
  | Name y p => rw [← Option.some.inj h]; exact ⟨p, rfl⟩
  | _ => exact nn h

noncomputable def eqN : List Nat → List Nat → Bool
  | [], [] => true
  | a :: l, b :: r => match Nat.beq a b with
    | true => eqN l r
    | false => false
  | _, _ => false
noncomputable def eqS (x y : Str) : Bool := eqN x.cps.toList y.cps.toList
noncomputable def inS (x : Str) : List Str → Bool
  | [] => false
  | y :: r => match eqS x y with
    | true => true
    | false => inS x r
/-- every sign of the first is in the second: some true; none is: some false -/
noncomputable def amid : List Str → List Str → Option Bool
  | [], _ => none
  | [x], l => some (inS x l)
  | x :: r, l => match inS x l, amid r l with
    | true, some true => some true
    | false, some false => some false
    | _, _ => none
noncomputable def sameOne : List Str → List Str → Option Bool
  | xs, [y] => amid xs [y]
  | _, _ => none

noncomputable def find {α : Type} (x : Str) : List (Str × α) → Option α
  | [] => none
  | p :: r => match eqS x p.1 with
    | true => some p.2
    | false => find x r
noncomputable def put {α : Type} (x : Str) (v : α) : List (Str × α) → List (Str × α)
  | [] => [(x, v)]
  | p :: r => match eqS x p.1 with
    | true => (x, v) :: r
    | false => p :: put x v r

noncomputable def tokAV (t : Wo) : AV := .tup [.str [t.kind], .str t.texts, .num, .none, .none]
noncomputable def headTok : List TK → Option Wo
  | .tok t :: _ => some t
  | .hole _ t :: _ => some t
  | [] => none
/-- the word that stands ahead of the hole's end: no look behind a hole -/
noncomputable def nthTok : List TK → Nat → Option Wo
  | l, 0 => headTok l
  | .tok _ :: l, n + 1 => nthTok l n
  | _, _ => none

noncomputable def truth : AV → Option Bool
  | .none => some false
  | .bool b => some b
  | _ => none

noncomputable def allStr : List AV → Option (List Str)
  | [] => some []
  | .str [x] :: r => match allStr r with
    | some l => some (x :: l)
    | none => none
  | _ :: _ => none

noncomputable def intEq (a b : Int) : Bool := decide (a = b)
noncomputable def intLt (a b : Int) : Bool := decide (a < b)

noncomputable def eqA (a b : AV) : Option Bool := match a, b with
  | .str xs, .str ys => sameOne xs ys
  | .int i, .int j => some (intEq i j)
  | _, _ => none
noncomputable def ltA (a b : AV) : Option Bool := match a, b with
  | .int i, .int j => some (intLt i j)
  | _, _ => none
noncomputable def amidO (xs : List Str) (o : Option (List Str)) : Option Bool := match o with
  | some l => amid xs l
  | none => none
noncomputable def inA (a b : AV) : Option Bool := match a, b with
  | .str xs, .tup ys => amidO xs (allStr ys)
  | _, _ => none
noncomputable def isA (a b : AV) : Option Bool := match a, b with
  | .none, .none => some true
  | .tup _, .none => some false
  | .bool _, .none => some false
  | _, _ => none
noncomputable def notO (o : Option Bool) : Option Bool := match o with
  | some c => some (!c)
  | none => none
noncomputable def cmpA (op : CmpOp) (a b : AV) : Option Bool :=
  match op with
  | .Eq => eqA a b
  | .NotEq => notO (eqA a b)
  | .Lt => ltA a b
  | .In => inA a b
  | .NotIn => notO (inA a b)
  | .Is => isA a b
  | .IsNot => notO (isA a b)
  | _ => none
noncomputable def mapO {α β : Type} (f : α → Option β) : List α → Option (List β)
  | [] => some []
  | x :: r => match f x, mapO f r with
    | some y, some l => some (y :: l)
    | _, _ => none
/-- a tuple's items -/
noncomputable def tupItems (o : Option Obj) : Option (List Value) := match o with
  | some ⟨.type t, none, .seq items _, sl⟩ => match decide (t = "tuple"), sl.toList with
    | true, [] => some items.toList
    | _, _ => none
  | _ => none
noncomputable def tupO (o : Option (List AV)) : Option AV := match o with
  | some l => some (.tup l)
  | none => none
noncomputable def litV (K : Frag) : Nat → Value → Option AV
  | 0, _ => none
  | _ + 1, .none => some .none
  | _ + 1, .bool b => some (.bool b)
  | _ + 1, .int i _ => some (.int i)
  | _ + 1, .str s _ => some (.str [s])
  | n + 1, .ref a => match tupItems (K.lookup a) with
    | some l => tupO (mapO (litV K n) l)
    | none => none
  | _ + 1, _ => none

inductive Job where
  | e (x : Expr) (k : AV → St → Bool)
  | t (x : Expr) (k : Bool → St → Bool)
  | as (xs : List Expr) (k : List AV → St → Bool)
  | s (x : Stmt) (k : Fl → St → Bool)
  | ss (xs : List Stmt) (k : Fl → St → Bool)
  | wh (test : Expr) (body : List Stmt) (k : Fl → St → Bool)
  | fo (tgt : Expr) (body : List Stmt) (items : List AV) (k : Fl → St → Bool)
  | call (f : Addr) (vs : List AV) (k : AV → St → Bool)
end Mine

namespace Mine
/-- what stands still for a run of the evaluator -/
structure Cf where
  K : Frag
  /-- the class of the words -/
  C : Addr
  fExpr : Addr
  fBlock : Addr
  fTake : Addr
  top : Nat
  holeTop : Nat
  blk : Bool

structure Cx where
  scope : Scope
  cb : Nat

noncomputable def isLocal (cx : Cx) (x : Str) : Bool := match find x cx.scope.names with
  | some .local => true
  | _ => false
noncomputable def isGlobal (cx : Cx) (x : Str) : Bool := match find x cx.scope.names with
  | some .globalImplicit => true
  | _ => false

noncomputable def isComp : Expr → Bool
  | .ListComp .. => true
  | .SetComp .. => true
  | .DictComp .. => true
  | _ => false
noncomputable def isStar : Expr → Bool
  | .Starred .. => true
  | _ => false
noncomputable def noStar : List Expr → Bool
  | [] => true
  | e :: r => match isStar e with
    | true => false
    | false => noStar r

noncomputable def litD : Nat := 3
/-- a global name's value, where it is a plain one -/
noncomputable def globA (cf : Cf) (x : Str) : Option AV := match nsIn cf.K mainGlobals x with
  | some (some v) => litV cf.K litD v
  | _ => none
noncomputable def globRef (cf : Cf) (x : Str) : Option Addr := match nsIn cf.K mainGlobals x with
  | some (some (.ref a)) => some a
  | _ => none
noncomputable def globNone (cf : Cf) (x : Str) : Bool := match nsIn cf.K mainGlobals x with
  | some none => true
  | _ => false

noncomputable def dfltA (a : AV) : Option (List AV) := match a with
  | .tup l => gd (!isNil l) (some l)
  | _ => none
noncomputable def dflts (K : Frag) (v : Value) : Option (List AV) := match v with
  | .none => some []
  | .ref a => onO (litV K litD (.ref a)) dfltA
  | _ => none
/-- the names bound at a call: one to four parameters, the last may stand by its default -/
noncomputable def bindTwo {α : Type} (a b : Str) (xs : List α) (d : α) : Option (List (Str × α)) := match xs with
  | v :: r => match r with
    | [] => some [(a, v), (b, d)]
    | w :: z => gd (isNil z) (some [(a, v), (b, w)])
  | [] => none
noncomputable def namesD {α : Type} (names : List Str) (xs : List α) (d : α) : Option (List (Str × α)) := match names with
  | a :: r => match r with
    | b :: z => gd (isNil z) (bindTwo a b xs d)
    | [] => none
  | [] => none
noncomputable def binds {α : Type} (names : List Str) (xs ds : List α) : Option (List (Str × α)) := match ds with
  | [] => gd (Nat.beq xs.length names.length) (some (names.zip xs))
  | d :: q => gd (isNil q) (namesD names xs d)
noncomputable def apart : List Str → Bool
  | [] => true
  | x :: r => match inS x r with
    | true => false
    | false => apart r
noncomputable def allLocal (sc : Scope) : List Str → Bool
  | [] => true
  | x :: r => match find x sc.names with
    | some .local => allLocal sc r
    | _ => false
noncomputable def noCell : List (Str × NameKind) → Bool
  | [] => true
  | (_, .cell) :: _ => false
  | _ :: r => noCell r
noncomputable def isNo {α : Type} : Option α → Bool
  | none => true
  | _ => false
noncomputable def plainParams (p : Arguments) : Bool := isNil p.posonlyargs && isNil p.kwonlyargs && isNo p.vararg && isNo p.kwarg
noncomputable def isFunc : ScopeKind → Bool
  | .function => true
  | _ => false
/-- a plain def of the text -/
noncomputable def fdOk (K : Frag) (fd : FuncData) : Bool :=
  Nat.beq fd.globals mainGlobals && Nat.beq fd.builtins builtinsNs && isNil fd.closure && plainParams fd.params && !fd.scope.isGenerator && !fd.scope.isCoroutine && isFunc fd.scope.kind &&
  noCell fd.scope.names && codeIn K fd.code fd.qualname && isNo (find (Str.ofString "__debug__") fd.scope.names)

noncomputable def followS : List Str := [Str.ofString ")", Str.ofString "]", Str.ofString "}", Str.ofString ",", Str.ofString ";", Str.ofString "=>"]
noncomputable def followTok (t : Wo) : Bool := match eqS t.kind (Str.ofString "sign") with
  | true => match amid t.texts followS with
    | some true => true
    | _ => false
  | false => match eqS t.kind (Str.ofString "end") with
    | true => match amid t.texts [Str.ofString ""] with
      | some true => true
      | _ => false
    | false => false
noncomputable def followed : List TK → Bool
  | .tok t :: _ => followTok t
  | _ => false

noncomputable def looksA (rest : List TK) (x : Str) (n : Nat) : Option Bool := match nthTok rest n with
  | some t => match inS t.kind [Str.ofString "sign", Str.ofString "name"] with
    | true => sameOne t.texts [x]
    | false => some false
  | none => none
noncomputable def took (ws : WS) : Option (Wo × WS) := match ws.rest with
  | .tok t :: r => match eqS t.kind (Str.ofString "end") with
    | true => none
    | false => some (t, { ws with prev := some t, rest := r })
  | _ => none
noncomputable def maxN (a b : Nat) : Nat := match Nat.ble a b with
  | true => b
  | false => a
noncomputable def kwds (cf : Cf) : Option (List Str) := match globA cf (Str.ofString "KEYWORDS") with
  | some (.tup l) => allStr l
  | _ => none

/-- a method of the words -/
noncomputable def isM1 (v : AV) : Bool := match v with
  | .int i => match i with
    | .negSucc n => match n with
      | 0 => true
      | _ + 1 => false
    | .ofNat _ => false
  | _ => false
noncomputable def mPeek (vs : List AV) (st : St) (k : AV → St → Bool) : Bool := match vs with
  | [] => onS (nthTok st.ws.rest 0) fun t => k (tokAV t) st
  | v :: r => isNil r && (isM1 v && onS st.ws.prev fun t => k (tokAV t) st)
noncomputable def mLooksN (x : Str) (n : Nat) (st : St) (k : AV → St → Bool) : Bool := onS (looksA st.ws.rest x n) fun b => k (.bool b) st
noncomputable def mLooks (vs : List AV) (st : St) (k : AV → St → Bool) : Bool := match vs with
  | [] => false
  | v :: r => strS v fun ss => one ss fun x => match r with
    | [] => mLooksN x 0 st k
    | w :: z => isNil z && natS w fun n => mLooksN x n st k
noncomputable def mTake (vs : List AV) (st : St) (k : AV → St → Bool) : Bool := isNil vs && onS (took st.ws) fun p => k (tokAV p.1) ⟨st.loc, st.lists, p.2⟩
noncomputable def mExpect (vs : List AV) (st : St) (k : AV → St → Bool) : Bool := one vs fun v => strS v fun ss => one ss fun x => onS (looksA st.ws.rest x 0) fun b => b && onS (took st.ws) fun p => k (tokAV p.1) ⟨st.loc, st.lists, p.2⟩
noncomputable def mName (cf : Cf) (vs : List AV) (st : St) (k : AV → St → Bool) : Bool := isNil vs && onS (took st.ws) fun p => onS (kwds cf) fun kw => eqS p.1.kind (Str.ofString "name") && onS (amid p.1.texts kw) fun b => !b && k (.tup [.str p.1.texts, .num]) ⟨st.loc, st.lists, p.2⟩
noncomputable def mDeeper (cf : Cf) (vs : List AV) (st : St) (k : AV → St → Bool) : Bool := isNil vs && (Nat.ble (st.ws.lvl + 1) cf.top && k .none ⟨st.loc, st.lists, ⟨st.ws.prev, st.ws.rest, st.ws.lvl + 1, maxN st.ws.mp (st.ws.lvl + 1), st.ws.mh⟩⟩)
noncomputable def mShallower (vs : List AV) (st : St) (k : AV → St → Bool) : Bool := isNil vs && match st.ws.lvl with
  | 0 => false
  | l + 1 => k .none ⟨st.loc, st.lists, ⟨st.ws.prev, st.ws.rest, l, st.ws.mp, st.ws.mh⟩⟩
inductive Me where
  | peek | looks | take | expect | name | deeper | shallower | other
noncomputable def whichMe (m : Str) : Me := match eqS m (Str.ofString "looks") with
  | true => .looks
  | false => match eqS m (Str.ofString "peek") with
  | true => .peek
  | false => match eqS m (Str.ofString "take") with
  | true => .take
  | false => match eqS m (Str.ofString "expect") with
  | true => .expect
  | false => match eqS m (Str.ofString "name") with
  | true => .name
  | false => match eqS m (Str.ofString "deeper") with
  | true => .deeper
  | false => match eqS m (Str.ofString "shallower") with
  | true => .shallower
  | false => .other
noncomputable def meth (cf : Cf) (m : Str) (vs : List AV) (st : St) (k : AV → St → Bool) : Bool := match whichMe m with
  | .looks => mLooks vs st k
  | .peek => mPeek vs st k
  | .take => mTake vs st k
  | .expect => mExpect vs st k
  | .name => mName cf vs st k
  | .deeper => mDeeper cf vs st k
  | .shallower => mShallower vs st k
  | .other => false

noncomputable def setAt {α : Type} : List α → Nat → α → List α
  | [], _, _ => []
  | _ :: r, 0, v => v :: r
  | x :: r, n + 1, v => x :: setAt r n v
noncomputable def nth {α : Type} : List α → Nat → Option α
  | [], _ => none
  | x :: _, 0 => some x
  | _ :: r, n + 1 => nth r n
noncomputable def wt : List AV → Nat
  | [] => 0
  | .inner :: r => wt r + 1000
  | _ :: r => wt r + 1
noncomputable def fits (xs : List AV) : Bool := Nat.ble (wt xs) 1000000
noncomputable def plainItems : List AV → Bool
  | [] => true
  | .inner :: _ => false
  | _ :: r => plainItems r

noncomputable def natO (v : AV) (f : Nat → Option AV) : Option AV := match v with
  | .int i => match i with
    | .ofNat n => f n
    | .negSucc _ => none
  | _ => none
noncomputable def itemOf (st : St) (a i : AV) : Option AV := match a with
  | .tup xs => natO i fun n => gd (Nat.ble n 1000) (nth xs n)
  | .lst l => natO i fun n => onO (nth st.lists l) fun xs => gd (plainItems xs && Nat.ble n 1000) (nth xs n)
  | _ => none
noncomputable def tNames : List Expr → Option (List Str)
  | [] => some []
  | e :: r => onO (nameO e) fun x => onO (tNames r) fun l => some (x :: l)
noncomputable def putAll {α : Type} : List Str → List α → List (Str × α) → Option (List (Str × α))
  | [] => fun vs m => match vs with
    | [] => some m
    | _ :: _ => none
  | x :: xs => fun vs m => match vs with
    | v :: vs => putAll xs vs (put x v m)
    | [] => none
noncomputable def swapFine : Expr → Bool
  | .Tuple vs _ _ => !(vs.all (constantsAlone 8)) || vs.all (foldedForSure 8)
  | _ => true

noncomputable def retOf : Fl → AV
  | .ret v => v
  | _ => .none

noncomputable def dictA (K : Frag) (d : Addr) (x : Str) : Option (Option AV) := match nsIn K d x with
  | some (some v) => match litV K litD v with
    | some a => some (some a)
    | none => none
  | some none => some none
  | none => none
noncomputable def intO (dv : Int) (o : Option (Option AV)) : Option Int := match o with
  | some (some (.int i)) => some i
  | some none => some dv
  | _ => none
noncomputable def sameI (a b : Option Int) : Option Int := match a, b with
  | some i, some j => match intEq i j with
    | true => some j
    | false => none
  | _, _ => none
noncomputable def getInt (K : Frag) (d : Addr) (dv : Int) : List Str → Option Int
  | [] => none
  | [x] => intO dv (dictA K d x)
  | x :: r => sameI (intO dv (dictA K d x)) (getInt K d dv r)

noncomputable def addA : AV → AV → Option AV
  | .int i, .int j => some (.int (i + j))
  | .num, .int _ => some .num
  | .int _, .num => some .num
  | .num, .num => some .num
  | .sym c, .int j => some (.sym (c + j))
  | _, _ => none
noncomputable def subA : AV → AV → Option AV
  | .int i, .int j => some (.int (i - j))
  | .num, .int _ => some .num
  | .sym c, .int j => some (.sym (c - j))
  | _, _ => none

/-- the first n items, none of them the inner words -/
noncomputable def isInner : AV → Bool
  | .inner => true
  | _ => false
noncomputable def takeP : Nat → List AV → Option (List AV)
  | 0 => fun _ => some []
  | n + 1 => fun l => match l with
    | [] => none
    | x :: r => gd (!isInner x) (onO (takeP n r) fun l => some (x :: l))
/-- where an int stands in a list of texts -/
noncomputable def indexA (j : Int) (at_ : Nat) : List AV → Option Nat
  | .int i :: r => match intEq i j with
    | true => some at_
    | false => indexA j (at_ + 1) r
  | .str _ :: r => indexA j (at_ + 1) r
  | _ => none
noncomputable def allSI : List AV → Bool
  | [] => true
  | .int _ :: r => allSI r
  | .str _ :: r => allSI r
  | _ => false
/-- the items that a loop goes over -/
noncomputable def isSetE : Expr → Bool
  | .Set .. => true
  | _ => false
noncomputable def tupF (v : AV) (f : List AV → Option (List (Str × AV))) : Option (List (Str × AV)) := match v with
  | .tup vs => f vs
  | _ => none
noncomputable def bindT (cx : Cx) (tgt : Expr) (v : AV) (m : List (Str × AV)) : Option (List (Str × AV)) := match tgt with
  | .Name x _ => gd (isLocal cx x) (some (put x v m))
  | .Tuple es _ _ => onO (tNames es) fun xs => tupF v fun vs => gd (allLocal cx.scope xs) (gd (apart xs) (putAll xs vs m))
  | _ => none
/-! one step; the recursion is handed in -/
noncomputable abbrev IH := Job → Cx → St → Bool
noncomputable abbrev KV := AV → St → Bool
noncomputable abbrev KF := Fl → St → Bool
noncomputable abbrev KB := Bool → St → Bool
noncomputable def newL (st : St) (xs : List AV) (k : KV) : Bool := k (.lst st.lists.length) ⟨st.loc, st.lists ++ [xs], st.ws⟩
noncomputable def eName (cf : Cf) (id : Str) (k : KV) (cx : Cx) (st : St) : Bool := match isLocal cx id with
  | true => match find id st.loc with
    | some v => k v st
    | none => false
  | false => match isGlobal cx id with
    | true => match globA cf id with
      | some v => k v st
      | none => false
    | false => false
noncomputable def eConst (c : Const) (k : KV) (st : St) : Bool := match c with
  | .none => k .none st
  | .bool b => k (.bool b) st
  | .int i => k (.int i) st
  | .str s => k (.str [s]) st
  | _ => false
noncomputable def kCmp (op : CmpOp) (k : KV) (a b : AV) (st : St) : Bool := onS (cmpA op a b) fun c => k (.bool c) st
noncomputable def eCmp (ih : IH) (l : Expr) (ops : List CmpOp) (rs : List Expr) (k : KV) (cx : Cx) (st : St) : Bool := one ops fun op => one rs fun r => !behindInMarks op r && ih (.e l fun a st => ih (.e r fun b st => kCmp op k a b st) cx st) cx st
noncomputable def kBool (ih : IH) (op : BoolOp) (e : Expr) (k : KV) (cx : Cx) (v : AV) (st : St) : Bool := onS (truth v) fun c => match op with
  | .And => match c with
    | true => ih (.e e k) cx st
    | false => k v st
  | .Or => match c with
    | true => k v st
    | false => ih (.e e k) cx st
noncomputable def eBool (ih : IH) (op : BoolOp) (es : List Expr) (pos : Pos) (k : KV) (cx : Cx) (st : St) : Bool := match es with
  | [] => false
  | e₁ :: r => match r with
    | [] => ih (.e e₁ k) cx st
    | e₂ :: rest => ih (.e e₁ fun v st => kBool ih op (.BoolOp op (e₂ :: rest) pos) k cx v st) cx st
noncomputable def kUn (op : UnaryOp) (k : KV) (v : AV) (st : St) : Bool := match op with
  | .Not => onS (truth v) fun c => k (.bool (!c)) st
  | .USub => intS v fun i => k (.int (-i)) st
  | _ => false
noncomputable def eIf (ih : IH) (test b o : Expr) (k : KV) (cx : Cx) (st : St) : Bool := ih (.t test fun c st => match c with
  | true => ih (.e b k) cx st
  | false => ih (.e o k) cx st) cx st
noncomputable def kTup (k : KV) (vs : List AV) (st : St) : Bool := Nat.ble vs.length 1000 && k (.tup vs) st
noncomputable def eTup (ih : IH) (es : List Expr) (k : KV) (cx : Cx) (st : St) : Bool := noStar es && ih (.as es fun vs st => kTup k vs st) cx st
noncomputable def kList (k : KV) (vs : List AV) (st : St) : Bool := plainItems vs && (Nat.ble vs.length 1000 && newL st vs k)
noncomputable def eList (ih : IH) (es : List Expr) (k : KV) (cx : Cx) (st : St) : Bool := noStar es && ih (.as es fun vs st => kList k vs st) cx st
noncomputable def kTo (k : KV) (a b : AV) (st : St) : Bool := lstS a fun l => natS b fun n => onS (nth st.lists l) fun xs => onS (takeP n xs) fun ys => fits xs && newL st ys k
noncomputable def kFrom (k : KV) (a b : AV) (st : St) : Bool := lstS a fun l => natS b fun n => onS (nth st.lists l) fun xs => onS (takeP n xs) fun _ => fits xs && newL st (xs.drop n) k
noncomputable def kItem (k : KV) (a b : AV) (st : St) : Bool := onS (itemOf st a b) fun c => k c st
noncomputable def isSl : Expr → Bool
  | .Slice _ _ _ _ => true
  | _ => false
/-- a place in brackets, and what it looks like -/
inductive SK (i : Expr) where
  | idx (e : isSl i = false)
  | strip (p : Pos) (a : Nat) (b c : Pos) (e : i = .Slice none (some (.UnaryOp .USub (.Constant (.int 1) a b) c)) none p)
  | to (u : Expr) (p : Pos) (e : i = .Slice none (some u) none p)
  | frm (u : Expr) (p : Pos) (e : i = .Slice (some u) none none p)
  | bad
noncomputable def slKind (i : Expr) : SK i := match i with
  | .Slice none (some (.UnaryOp .USub (.Constant (.int (.ofNat 1)) a b) c)) none p => .strip p a b c rfl
  | .Slice none (some u) none p => .to u p rfl
  | .Slice (some u) none none p => .frm u p rfl
  | _ => .bad
noncomputable def sliceKind (i : Expr) : SK i := match h : isSl i with
  | false => .idx h
  | true => slKind i
noncomputable def isNameE (e : Expr) : Bool := onS (nameO e) fun _ => true
noncomputable def kStrip (k : KV) (a : AV) (st : St) : Bool := strS a fun ss => one ss fun x => eqS x (Str.ofString "+=") && k .any st
noncomputable def eSub (ih : IH) (v i : Expr) (k : KV) (cx : Cx) (st : St) : Bool := match sliceKind i with
  | .strip _ _ _ _ _ => ih (.e v fun a st => kStrip k a st) cx st
  | .to u _ _ => isNameE v && ih (.e v fun a st => ih (.e u fun b st => kTo k a b st) cx st) cx st
  | .frm u _ _ => isNameE v && ih (.e v fun a st => ih (.e u fun b st => kFrom k a b st) cx st) cx st
  | .bad => false
  | .idx _ => ih (.e v fun a st => ih (.e i fun b st => kItem k a b st) cx st) cx st
noncomputable def kAddL (k : KV) (i j : Nat) (st : St) : Bool := onS (nth st.lists i) fun xs => onS (nth st.lists j) fun ys => fits xs && (fits ys && newL st (xs ++ ys) k)
noncomputable def kMulL (k : KV) (i n : Nat) (st : St) : Bool := onS (nth st.lists i) fun l => one l fun x => plainItems [x] && (Nat.ble n 100 && newL st (List.replicate n x) k)
noncomputable def kAdd (k : KV) (a b : AV) (st : St) : Bool := match a with
  | .lst i => lstS b fun j => kAddL k i j st
  | _ => onS (addA a b) fun c => k c st
noncomputable def kBin (op : Operator) (k : KV) (a b : AV) (st : St) : Bool := match op with
  | .Add => kAdd k a b st
  | .Sub => onS (subA a b) fun c => k c st
  | .Mult => lstS a fun i => natS b fun n => kMulL k i n st
  | _ => false
noncomputable def kLen (k : KV) (vs : List AV) (st : St) : Bool := one vs fun v => match v with
  | .lst i => onS (nth st.lists i) fun xs => plainItems xs && (fits xs && k (.int xs.length) st)
  | .str ss => one ss fun x => Nat.ble x.length 1000 && k (.int x.length) st
  | _ => false
noncomputable def kTuple (k : KV) (vs : List AV) (st : St) : Bool := one vs fun v => lstS v fun i => onS (nth st.lists i) fun xs => plainItems xs && (fits xs && k (.tup xs) st)
noncomputable def eBuiltin (ih : IH) (id : Str) (as : List Expr) (k : KV) (cx : Cx) (st : St) : Bool := match eqS id (Str.ofString "len") with
  | true => ih (.as as fun vs st => kLen k vs st) cx st
  | false => eqS id (Str.ofString "tuple") && ih (.as as fun vs st => kTuple k vs st) cx st
noncomputable def eCallN (cf : Cf) (ih : IH) (id : Str) (as : List Expr) (k : KV) (cx : Cx) (st : St) : Bool := isGlobal cx id && (noStar as && (!isNil as && match globRef cf id with
  | some f => keepIn cf.K (.ref f) && ih (.as as fun vs st => ih (.call f vs k) cx st) cx st
  | none => globNone cf id && eBuiltin ih id as k cx st))
noncomputable def kAppend (i : Nat) (k : KV) (vs : List AV) (st : St) : Bool := one vs fun v => onS (nth st.lists i) fun xs => plainItems [v] && (fits xs && k .none ⟨st.loc, setAt st.lists i (xs ++ [v]), st.ws⟩)
noncomputable def kIndex (i : Nat) (k : KV) (vs : List AV) (st : St) : Bool := one vs fun v => intS v fun j => onS (nth st.lists i) fun xs => allSI xs && (fits xs && onS (indexA j 0 xs) fun n => k (.int n) st)
noncomputable def kGet (cf : Cf) (d : Addr) (k : KV) (vs : List AV) (st : St) : Bool := match vs with
  | a :: r => one r fun b => strS a fun xs => intS b fun dv => onS (getInt cf.K d dv xs) fun j => k (.int j) st
  | [] => false
noncomputable def notOther : Me → Bool
  | .other => false
  | _ => true
noncomputable def mWords (cf : Cf) (ih : IH) (m : Str) (as : List Expr) (k : KV) (cx : Cx) (st : St) : Bool := notOther (whichMe m) && ih (.as as fun vs st => meth cf m vs st k) cx st
noncomputable def mList (ih : IH) (i : Nat) (m : Str) (as : List Expr) (k : KV) (cx : Cx) (st : St) : Bool := match eqS m (Str.ofString "append") with
  | true => !isNil as && ih (.as as fun vs st => kAppend i k vs st) cx st
  | false => eqS m (Str.ofString "index") && one as fun e => ih (.e e fun v st => kIndex i k [v] st) cx st
noncomputable def mGet (cf : Cf) (ih : IH) (id m : Str) (as : List Expr) (k : KV) (cx : Cx) (st : St) : Bool := isGlobal cx id && (eqS m (Str.ofString "get") && (eqS id (Str.ofString "LEVELS") && (!isNil as && onS (globRef cf id) fun d => ih (.as as fun vs st => kGet cf d k vs st) cx st)))
noncomputable def mLocal (cf : Cf) (ih : IH) (v : AV) (m : Str) (as : List Expr) (k : KV) (cx : Cx) (st : St) : Bool := match v with
  | .words => mWords cf ih m as k cx st
  | .lst i => mList ih i m as k cx st
  | _ => false
noncomputable def eMeth (cf : Cf) (ih : IH) (id m : Str) (as : List Expr) (k : KV) (cx : Cx) (st : St) : Bool := match isLocal cx id with
  | true => onS (find id st.loc) fun v => mLocal cf ih v m as k cx st
  | false => mGet cf ih id m as k cx st
noncomputable def eCallF (cf : Cf) (ih : IH) (f : Expr) (as : List Expr) (pos : Pos) (k : KV) (cx : Cx) (st : St) : Bool := match f with
  | .Name id _ => eCallN cf ih id as k cx st
  | .Attribute o m ap => onS (nameO o) fun id => noStar as && (Nat.ble as.length 20 && (Nat.beq ap.endLine pos.line && eMeth cf ih id m as k cx st))
  | _ => false
noncomputable def eCall (cf : Cf) (ih : IH) (f : Expr) (as : List Expr) (ks : List Keyword) (pos : Pos) (k : KV) (cx : Cx) (st : St) : Bool := isNil ks && eCallF cf ih f as pos k cx st
noncomputable def stE (cf : Cf) (ih : IH) (x : Expr) (k : KV) (cx : Cx) (st : St) : Bool := match x with
  | .Name id _ => eName cf id k cx st
  | .Constant c _ _ => eConst c k st
  | .Compare l ops rs _ => eCmp ih l ops rs k cx st
  | .BoolOp op es pos => eBool ih op es pos k cx st
  | .UnaryOp op e _ => ih (.e e fun v st => kUn op k v st) cx st
  | .IfExp test b o _ => eIf ih test b o k cx st
  | .Tuple es _ _ => eTup ih es k cx st
  | .List es _ => eList ih es k cx st
  | .Subscript v i _ => eSub ih v i k cx st
  | .BinOp l op r _ => ih (.e l fun a st => ih (.e r fun b st => kBin op k a b st) cx st) cx st
  | .Call f as ks pos => eCall cf ih f as ks pos k cx st
  | _ => false
noncomputable def kTruth (k : KB) (v : AV) (st : St) : Bool := onS (truth v) fun c => k c st
noncomputable def tPlain (ih : IH) (x : Expr) (k : KB) (cx : Cx) (st : St) : Bool := ih (.e x fun v st => kTruth k v st) cx st
noncomputable def tAnd (ih : IH) (es : List Expr) (pos : Pos) (k : KB) (cx : Cx) (st : St) : Bool := match es with
  | [] => k true st
  | e :: r => ih (.t e fun c st => match c with
    | true => ih (.t (.BoolOp .And r pos) k) cx st
    | false => k false st) cx st
noncomputable def tOr (ih : IH) (es : List Expr) (pos : Pos) (k : KB) (cx : Cx) (st : St) : Bool := match es with
  | [] => k false st
  | e :: r => ih (.t e fun c st => match c with
    | true => k true st
    | false => ih (.t (.BoolOp .Or r pos) k) cx st) cx st
noncomputable def kCmpT (op : CmpOp) (k : KB) (a b : AV) (st : St) : Bool := onS (cmpA op a b) fun c => k c st
noncomputable def tCmp (ih : IH) (l : Expr) (ops : List CmpOp) (rs : List Expr) (k : KB) (cx : Cx) (st : St) : Bool := one ops fun op => one rs fun r => !behindInMarks op r && ih (.e l fun a st => ih (.e r fun b st => kCmpT op k a b st) cx st) cx st
noncomputable def tUn (ih : IH) (op : UnaryOp) (e : Expr) (k : KB) (cx : Cx) (st : St) : Bool := match op with
  | .Not => ih (.t e fun c st => k (!c) st) cx st
  | _ => false
noncomputable def stT (ih : IH) (x : Expr) (k : KB) (cx : Cx) (st : St) : Bool := match x with
  | .UnaryOp op e _ => tUn ih op e k cx st
  | .BoolOp op es pos => match op with
    | .And => tAnd ih es pos k cx st
    | .Or => tOr ih es pos k cx st
  | .Compare l ops rs _ => tCmp ih l ops rs k cx st
  | .Name i p => tPlain ih (.Name i p) k cx st
  | .Constant c a p => tPlain ih (.Constant c a p) k cx st
  | .Call f as ks p => tPlain ih (.Call f as ks p) k cx st
  | _ => false
noncomputable def stAs (ih : IH) (xs : List Expr) (k : List AV → St → Bool) (cx : Cx) (st : St) : Bool := match xs with
  | [] => k [] st
  | e :: r => ih (.e e fun v st => ih (.as r fun vs st => k (v :: vs) st) cx st) cx st
noncomputable def sExpr (ih : IH) (e : Expr) (k : KF) (cx : Cx) (st : St) : Bool := !isComp e && ih (.e e fun _ st => k .next st) cx st
noncomputable def kUnpack (xs : List Str) (k : KF) (v : AV) (st : St) : Bool := tupS v fun vs => onS (putAll xs vs st.loc) fun m => k .next ⟨m, st.lists, st.ws⟩
noncomputable def sName (ih : IH) (x : Str) (e : Expr) (k : KF) (cx : Cx) (st : St) : Bool := isLocal cx x && ih (.e e fun v st => k .next ⟨put x v st.loc, st.lists, st.ws⟩) cx st
noncomputable def sTup (ih : IH) (es : List Expr) (e : Expr) (k : KF) (cx : Cx) (st : St) : Bool := onS (tNames es) fun xs => allLocal cx.scope xs && (apart xs && (swapFine e && ih (.e e fun v st => kUnpack xs k v st) cx st))
noncomputable def sTgt (ih : IH) (t : Expr) (e : Expr) (k : KF) (cx : Cx) (st : St) : Bool := match t with
  | .Name x _ => sName ih x e k cx st
  | .Tuple es _ _ => sTup ih es e k cx st
  | _ => false
noncomputable def sAssign (ih : IH) (ts : List Expr) (e : Expr) (k : KF) (cx : Cx) (st : St) : Bool := !isComp e && one ts fun t => sTgt ih t e k cx st
noncomputable def sIf (ih : IH) (test : Expr) (b o : List Stmt) (k : KF) (cx : Cx) (st : St) : Bool := ih (.t test fun c st => match c with
  | true => ih (.ss b k) cx st
  | false => ih (.ss o k) cx st) cx st
noncomputable def kFor (ih : IH) (tgt : Expr) (b : List Stmt) (k : KF) (cx : Cx) (v : AV) (st : St) : Bool := tupS v fun xs => ih (.fo tgt b xs k) cx st
noncomputable def kForR (ih : IH) (tgt : Expr) (b : List Stmt) (k : KF) (cx : Cx) (v : AV) (st : St) : Bool := lstS v fun l => onS (nth st.lists l) fun xs => plainItems xs && (fits xs && ih (.fo tgt b xs.reverse k) cx st)
noncomputable def isRev (x : Expr) : Option { e : Expr // ∃ id p a b c d q, x = .Subscript (.Name id p) (.Slice none none (some (.UnaryOp .USub (.Constant (.int 1) a b) c)) d) q ∧ e = .Name id p } := match x with
  | .Subscript (.Name id p) (.Slice none none (some (.UnaryOp .USub (.Constant (.int (.ofNat 1)) a b) c)) d) q => some ⟨.Name id p, id, p, a, b, c, d, q, rfl, rfl⟩
  | _ => none
noncomputable def sFor (ih : IH) (tgt it : Expr) (b o : List Stmt) (k : KF) (cx : Cx) (st : St) : Bool := isNil o && match isRev it with
  | some e => ih (.e e.1 fun v st => kForR ih tgt b k cx v st) cx st
  | none => !isSetE it && ih (.e it fun v st => kFor ih tgt b k cx v st) cx st
noncomputable def stS (ih : IH) (x : Stmt) (k : KF) (cx : Cx) (st : St) : Bool := match x with
  | .Expr e _ => sExpr ih e k cx st
  | .Assign ts e _ => sAssign ih ts e k cx st
  | .Return v _ => match v with
    | none => k (.ret .none) st
    | some e => ih (.e e fun v st => k (.ret v) st) cx st
  | .If test b o _ => sIf ih test b o k cx st
  | .While test b o _ => match o with
    | [] => ih (.wh test b k) cx st
    | _ :: _ => false
  | .Break _ => k .brk st
  | .For tgt it b o _ => sFor ih tgt it b o k cx st
  | _ => false
noncomputable def kSs (ih : IH) (r : List Stmt) (k : KF) (cx : Cx) (f : Fl) (st : St) : Bool := match f with
  | .next => ih (.ss r k) cx st
  | .brk => k .brk st
  | .ret v => k (.ret v) st
noncomputable def stSs (ih : IH) (xs : List Stmt) (k : KF) (cx : Cx) (st : St) : Bool := match xs with
  | [] => k .next st
  | x :: r => ih (.s x fun f st => kSs ih r k cx f st) cx st
noncomputable def kTurn (ih : IH) (again : Job) (k : KF) (cx : Cx) (f : Fl) (st : St) : Bool := match f with
  | .next => ih again cx st
  | .brk => k .next st
  | .ret v => k (.ret v) st
noncomputable def stWh (ih : IH) (test : Expr) (b : List Stmt) (k : KF) (cx : Cx) (st : St) : Bool := ih (.t test fun c st => match c with
  | true => ih (.ss b fun f st => kTurn ih (.wh test b k) k cx f st) cx st
  | false => k .next st) cx st
noncomputable def stFo (ih : IH) (tgt : Expr) (b : List Stmt) (items : List AV) (k : KF) (cx : Cx) (st : St) : Bool := match items with
  | [] => k .next st
  | v :: r => onS (bindT cx tgt v st.loc) fun m => ih (.ss b fun f st => kTurn ih (.fo tgt b r k) k cx f st) cx ⟨m, st.lists, st.ws⟩
noncomputable def jump (cf : Cf) (r : List TK) (less : Nat) (st : St) (k : KV) : Bool :=
  followed r && (Nat.ble st.ws.lvl (cf.holeTop + less) && k .any ⟨st.loc, st.lists, ⟨none, r, st.ws.lvl, st.ws.mp, maxN st.ws.mh (st.ws.lvl + 1 - less)⟩⟩)
/-- a call that leaps over the hole -/
noncomputable def isWords : AV → Bool
  | .words => true
  | _ => false
noncomputable def isFalse : AV → Bool
  | .bool b => !b
  | _ => false
noncomputable def leapV (cf : Cf) (f : Addr) (vs : List AV) (blk : Bool) (r : List TK) : Option (List TK × Nat) := match vs with
  | [] => none
  | v :: w => gd (isWords v) (match w with
    | [] => match Nat.beq f cf.fExpr with
      | true => some (r, 0)
      | false => gd (Nat.beq f cf.fBlock && blk) (some (r, 1))
    | b :: z => gd (isNil z && (isFalse b && Nat.beq f cf.fExpr)) (some (r, 0)))
noncomputable def holeV (cf : Cf) (f : Addr) (vs : List AV) (t : TK) (r : List TK) : Option (List TK × Nat) := match t with
  | .hole blk _ => leapV cf f vs blk r
  | .tok _ => none
noncomputable def leaps (cf : Cf) (f : Addr) (vs : List AV) (st : St) : Option (List TK × Nat) := match st.ws.rest with
  | [] => none
  | t :: r => holeV cf f vs t r
noncomputable def draws (k : KV) (st : St) : Nat → Bool
  | 0 => true
  | n + 1 => match draws k st n with
    | true => k (.int n) st
    | false => false
noncomputable def isSrc : AV → Bool
  | .src => true
  | _ => false
noncomputable def cDraw (vs : List AV) (k : KV) (st : St) : Bool := match vs with
  | a :: r => isSrc a && one r fun b => natS b fun n => Nat.ble n 1000 && (Nat.ble 1 n && draws k st n)
  | [] => false
noncomputable def cBody (ih : IH) (m : List (Str × AV)) (body : List Stmt) (sc : Scope) (cb : Nat) (k : KV) (st : St) : Bool := apart (m.map (·.1)) && (allLocal sc (m.map (·.1)) && ih (.ss body fun fl st' => k (retOf fl) ⟨st.loc, st'.lists, st'.ws⟩) ⟨sc, cb⟩ ⟨m, st.lists, st.ws⟩)
noncomputable def stmtsO (c : FuncBody) : Option (List Stmt) := match c with
  | .stmts body => some body
  | _ => none
noncomputable def cFd (cf : Cf) (ih : IH) (fd : FuncData) (vs : List AV) (cb : Nat) (k : KV) (st : St) : Bool := fdOk cf.K fd && onS (stmtsO fd.body) fun body => onS (dflts cf.K fd.defaults) fun ds => onS (binds (fd.params.args.map (·.arg)) vs ds) fun m => cBody ih m body fd.scope cb k st
noncomputable def fnAt (K : Frag) (f : Addr) : Option FuncData := match K.lookup f with
  | some ⟨_, _, .func fd, _⟩ => some fd
  | _ => none
noncomputable def cPlain (cf : Cf) (ih : IH) (f : Addr) (vs : List AV) (k : KV) (cx : Cx) (st : St) : Bool := match cx.cb with
  | 0 => false
  | cb + 1 => onS (fnAt cf.K f) fun fd => cFd cf ih fd vs cb k st
noncomputable def stCall (cf : Cf) (ih : IH) (f : Addr) (vs : List AV) (k : KV) (cx : Cx) (st : St) : Bool := match leaps cf f vs st with
  | some p => jump cf p.1 p.2 st k
  | none => match Nat.beq f cf.fTake with
    | true => cDraw vs k st
    | false => cPlain cf ih f vs k cx st
noncomputable def step (cf : Cf) (ih : IH) (j : Job) (cx : Cx) (st : St) : Bool := match j with
  | .e x k => stE cf ih x k cx st
  | .t x k => stT ih x k cx st
  | .as xs k => stAs ih xs k cx st
  | .s x k => stS ih x k cx st
  | .ss xs k => stSs ih xs k cx st
  | .wh test b k => stWh ih test b k cx st
  | .fo tgt b items k => stFo ih tgt b items k cx st
  | .call f vs k => stCall cf ih f vs k cx st

noncomputable def run (cf : Cf) (n : Nat) : Job → Cx → St → Bool := Nat.rec (motive := fun _ => Job → Cx → St → Bool) (fun _ _ _ => false) (fun _ ih => step cf ih) n
end Mine

namespace Mine
theorem opaque_inv {α : Type} (P : Nat → α → Prop) {G : Prop} (h : ∀ I : Nat → α → Prop, (∀ k s, I k s → P k s) → (∀ k s, P k s → I k s) → G) : G := h P (fun _ _ x => x) fun _ _ x => x
theorem ex_next {M : Model} {A : Around} {E : Value → Shared → Prop} {env : Env} {st : Stmt} {rest : List Stmt} {Q : Flow → Shared → Prop} {s : Shared} (h : ∀ Q1 : Flow → Shared → Prop, (∀ s', wpAny M A (execs rest env) Q E s' → Q1 .next s') → wpAny M A (exec st env) Q1 E s) : wpAny M A (execs (st :: rest) env) Q E s :=
  wpAny_execs_cons (h _ fun _ k => k)
theorem ex_flow {M : Model} {A : Around} {E : Value → Shared → Prop} {env : Env} {st : Stmt} {rest : List Stmt} {Q : Flow → Shared → Prop} {s : Shared} (h : ∀ Q1 : Flow → Shared → Prop, (∀ s', wpAny M A (execs rest env) Q E s' → Q1 .next s') → (∀ v s', Q (.ret v) s' → Q1 (.ret v) s') → wpAny M A (exec st env) Q1 E s) : wpAny M A (execs (st :: rest) env) Q E s :=
  wpAny_execs_cons (h _ (fun _ k => k) fun _ _ k => k)
theorem wpAny_abs {α : Type} {M : Model} {A : Around} {t : Sem α} {P : α → Shared → Prop} {E : Value → Shared → Prop} {s : Shared} (h : ∀ Q : α → Shared → Prop, (∀ v s', P v s' → Q v s') → wpAny M A t Q E s) : wpAny M A t P E s := h P fun _ _ h => h

noncomputable abbrev tupObj (vs : List Value) (n : Nat) : Obj := { cls := .type "tuple", dict := none, data := .seq vs.toArray n, slots := #[] }
noncomputable abbrev listObj (vs : List Value) (n : Nat) : Obj := { cls := .type "list", dict := none, data := .seq vs.toArray n, slots := #[] }

/-- the object of the words: where it stands, what it holds -/
structure Wd where
  W : Addr
  D : Addr
  R : Addr
  C : Addr
  hr : Int
  ha : Int
  hd : Int
  kr : Tok
  ka : Tok
  kd : Tok
  n : Nat
  toks : List (Str × Str)
  tvs : List Addr

noncomputable def Wd.ox (ω : Wd) : Obj := ⟨.ref ω.C, some ω.D, .plain, #[]⟩
noncomputable def Wd.dict (ω : Wd) (i : Nat) (ti : Tok) (d : Nat) (td : Tok) : Obj :=
  dictOf [⟨ω.hr, .str (Str.ofString "rows") ω.kr, .ref ω.R⟩, ⟨ω.ha, .str (Str.ofString "at") ω.ka, .int i ti⟩, ⟨ω.hd, .str (Str.ofString "deep") ω.kd, .int d td⟩] ω.n

structure WordsAt (ω : Wd) (h : Heap) (i d : Nat) : Prop where
  inst : h.get? ω.W = some ω.ox
  dict : ∃ ti td, h.get? ω.D = some (ω.dict i ti d td)
  rows : ∃ n, h.get? ω.R = some (listObj (ω.tvs.map Value.ref) n)
  len : ω.tvs.length = ω.toks.length
  tok : ∀ (j : Nat) t a, ω.toks[j]? = some t → ω.tvs[j]? = some a → ∃ k1 k2 k3 n, h.get? a = some (tupObj [.str t.1 k1, .str t.2 k2, .int j k3, .none, .none] n)
  lt : i < ω.toks.length
  small : ω.toks.length ≤ 1000000 ∧ ∃ pre x, ω.toks = pre ++ [(Str.ofString "end", x)]

structure Rho where
  wd : Option Wd
  src : Option Addr
  inner : List (Str × Str)
  ivs : List Value
  d0 : Nat
  dsym : Int
  blk : Bool
  e : Nat
  sz : Nat
  s0 : Shared
  /-- the words behind all that is told -/
  tail : List (Str × Str)

inductive RepV (ρ : Rho) (ads : List Addr) (h : Heap) : Value → AV → Prop
  | none : RepV ρ ads h .none .none
  | bool (b : Bool) : RepV ρ ads h (.bool b) (.bool b)
  | int (i : Int) (t : Tok) : RepV ρ ads h (.int i t) (.int i)
  | num (i : Int) (t : Tok) : RepV ρ ads h (.int i t) .num
  | sym (c : Int) (t : Tok) : RepV ρ ads h (.int (ρ.dsym + c) t) (.sym c)
  | str {x : Str} {ss : List Str} (t : Tok) : x ∈ ss → RepV ρ ads h (.str x t) (.str ss)
  | words {ω : Wd} : ρ.wd = some ω → RepV ρ ads h (.ref ω.W) .words
  | lst {i : Nat} {a : Addr} : ads[i]? = some a → RepV ρ ads h (.ref a) (.lst i)
  | tup {t : Addr} {vs : List Value} {xs : List AV} {n : Nat} : h.get? t = some (tupObj vs n) → vs.length = xs.length →
      (∀ (i : Nat) v x, vs[i]? = some v → xs[i]? = some x → RepV ρ ads h v x) → RepV ρ ads h (.ref t) (.tup xs)
  | any (v : Value) : RepV ρ ads h v .any
  | src {a : Addr} : ρ.src = some a → RepV ρ ads h (.ref a) .src

/-- a list's items: the hole's words stand together -/
inductive Items (ρ : Rho) (ads : List Addr) (h : Heap) : List Value → List AV → Prop
  | nil : Items ρ ads h [] []
  | cons {v : Value} {x : AV} {vs : List Value} {xs : List AV} : RepV ρ ads h v x → Items ρ ads h vs xs → Items ρ ads h (v :: vs) (x :: xs)
  | inner {vs : List Value} {xs : List AV} : Items ρ ads h vs xs → Items ρ ads h (ρ.ivs ++ vs) (.inner :: xs)

noncomputable def Later (ads : List Addr) (h : Heap) (ads' : List Addr) (h' : Heap) : Prop :=
  (∃ r, ads' = ads ++ r) ∧ ∀ t vs n, h.get? t = some (tupObj vs n) → h'.get? t = some (tupObj vs n)
theorem Later.refl (ads : List Addr) (h : Heap) : Later ads h ads h := ⟨⟨[], by simp⟩, fun _ _ _ e => e⟩
theorem Later.trans {a₁ a₂ a₃ : List Addr} {h₁ h₂ h₃ : Heap} (x : Later a₁ h₁ a₂ h₂) (y : Later a₂ h₂ a₃ h₃) : Later a₁ h₁ a₃ h₃ := by
  obtain ⟨⟨r, rfl⟩, k⟩ := x
  obtain ⟨⟨r', rfl⟩, k'⟩ := y
  exact ⟨⟨r ++ r', by simp⟩, fun t vs n e => k' t vs n (k t vs n e)⟩
theorem Later.ext {ads : List Addr} {h h' : Heap} (k : ∀ b o, h.get? b = some o → h'.get? b = some o) : Later ads h ads h' := ⟨⟨[], by simp⟩, fun t _ _ e => k t _ e⟩
/-- what is changed is no tuple -/
theorem Later.but {ads : List Addr} {h h' : Heap} {c : Addr} {o : Obj} (k : Heap.ExtBut c h h') (e : h.get? c = some o) (hc : o.cls ≠ .type "tuple") : Later ads h ads h' :=
  ⟨⟨[], by simp⟩, fun t vs n q => k t _ (by rintro rfl; rw [e] at q; (first | exact ff q | exact nn q | exact ns q | exact tf q | exact ln q | exact lc q | cases q); exact hc rfl) q⟩

theorem nth_app {α : Type} {l r : List α} {i : Nat} {a : α} (h : l[i]? = some a) : (l ++ r)[i]? = some a := by
  obtain ⟨hl, he⟩ := List.getElem?_eq_some_iff.mp h
  rw [List.getElem?_append_left hl]; exact h
theorem RepV.mono {ρ : Rho} {ads ads' : List Addr} {h h' : Heap} (k : Later ads h ads' h') {v : Value} {x : AV} (r : RepV ρ ads h v x) : RepV ρ ads' h' v x := by
  induction r with
  | none => exact .none
  | bool b => exact .bool b
  | int i t => exact .int i t
  | num i t => exact .num i t
  | sym c t => exact .sym c t
  | str t m => exact .str t m
  | words e => exact .words e
  | lst e => obtain ⟨⟨r, rfl⟩, _⟩ := k; exact .lst (nth_app e)
  | tup e l _ ih => exact .tup (k.2 _ _ _ e) l ih
  | any v => exact .any v
  | src e => exact .src e
theorem Items.mono {ρ : Rho} {ads ads' : List Addr} {h h' : Heap} (k : Later ads h ads' h') {vs : List Value} {xs : List AV} (r : Items ρ ads h vs xs) : Items ρ ads' h' vs xs := by
  induction r with
  | nil => exact .nil
  | cons q _ ih => exact .cons (q.mono k) ih
  | inner _ ih => exact .inner ih

/-- the words that are still to be read -/
inductive Match (ρ : Rho) : List TK → List (Str × Str) → Prop
  | nil : Match ρ [] ρ.tail
  | tok {t : Wo} {r : List TK} {x : Str} {l : List (Str × Str)} : x ∈ t.texts → Match ρ r l → Match ρ (.tok t :: r) ((t.kind, x) :: l)
  | hole {t : Wo} {r : List TK} {x : Str} {l i : List (Str × Str)} : ρ.inner = (t.kind, x) :: i → x ∈ t.texts → Match ρ r l → Match ρ (.hole ρ.blk t :: r) (ρ.inner ++ l)

structure Frm where
  A₀ : Around
  base : Heap
  g : Heap
  outer : List Env
  L : Addr
  a : Addr
  name : Str
  scope : Scope
  cd : Value
noncomputable abbrev Frm.env (fr : Frm) : Env := envOf fr.name fr.scope fr.L fr.a fr.cd
noncomputable abbrev Frm.A (fr : Frm) : Around := fr.A₀.deeper fr.env

noncomputable def muts (ρ : Rho) (ads : List Addr) : List Addr := (match ρ.wd with | some ω => [ω.D] | none => []) ++ (match ρ.src with | some a => [a] | none => []) ++ ads

noncomputable def SrcAt (h : Heap) (S : Addr) : Prop := ∃ (i j : Int) (ti tj : Tok) (o : Obj) (n : Nat), h.get? S = some o ∧ o.cls = .type "list" ∧ o.data = .seq #[.int i ti, .int j tj] n ∧ 0 ≤ i ∧ 0 ≤ j ∧ j < 2147483647
noncomputable def ListsAt (ρ : Rho) (ads : List Addr) (h : Heap) (ls : List (List AV)) : Prop :=
  ads.length = ls.length ∧ ∀ (i : Nat) a xs, ads[i]? = some a → ls[i]? = some xs → ∃ vs n, h.get? a = some (listObj vs n) ∧ Items ρ ads h vs xs

noncomputable abbrev Kp := Addr → Obj → Prop
structure Core (ρ : Rho) (kp : Kp) (st : St) (s : Shared) (ads : List Addr) : Prop where
  lists : ListsAt ρ ads s.heap st.lists
  words : ∀ ω, ρ.wd = some ω → ∃ i, WordsAt ω s.heap i (ρ.d0 + st.ws.lvl) ∧ Match ρ st.ws.rest (ω.toks.drop i) ∧
    (∀ t, st.ws.prev = some t → ∃ x, 0 < i ∧ ω.toks[i - 1]? = some (t.kind, x) ∧ x ∈ t.texts) ∧ ω.R ∉ muts ρ ads
  src : ∀ S, ρ.src = some S → SrcAt s.heap S
  kept : ∀ b o, kp b o → s.heap.get? b = some o ∧ b ∉ muts ρ ads
  apart : (muts ρ ads).Nodup
  lv : ρ.d0 + st.ws.lvl ≤ 60 ∧ ρ.d0 + st.ws.mp ≤ 60 ∧ (st.ws.mh = 0 ∨ ρ.d0 + (st.ws.mh - 1) + ρ.e ≤ 60)
  out : s.gens = ρ.s0.gens ∧ s.drawn = ρ.s0.drawn ∧ s.os = ρ.s0.os
structure Sim (ρ : Rho) (fr : Frm) (kp : Kp) (st : St) (s : Shared) (ads : List Addr) : Prop extends Core ρ kp st s ads where
  loc : ∃ m, Fr fr.g fr.L s.heap m ∧ ∀ x v, find x st.loc = some v → ∃ u, m x = some u ∧ RepV ρ ads s.heap u v
  new : ∀ a ∈ muts ρ ads, fr.g.get? a = none ∧ a ≠ fr.L
  off : ∀ b o, kp b o → b ≠ fr.L

theorem muts_app (ρ : Rho) (ads r : List Addr) : muts ρ (ads ++ r) = muts ρ ads ++ r := by unfold muts; simp
theorem mem_wd {ρ : Rho} {ω : Wd} {ads : List Addr} (h : ρ.wd = some ω) : ω.D ∈ muts ρ ads := by unfold muts; rw [h]; simp
theorem mem_src {ρ : Rho} {S : Addr} {ads : List Addr} (h : ρ.src = some S) : S ∈ muts ρ ads := by unfold muts; rw [h]; simp
theorem mem_ads {ρ : Rho} {ads : List Addr} {i : Nat} {a : Addr} (h : ads[i]? = some a) : a ∈ muts ρ ads := by
  unfold muts; simp only [List.mem_append]; exact .inr (List.mem_of_getElem? h)

theorem frBut {g h h' : Heap} {L c : Addr} {m : Str → Option Value} (F : Fr g L h m) (k : Heap.ExtBut c h h') (hg : g.get? c = none) (hL : c ≠ L) : Fr g L h' m :=
  ⟨F.ns.extBut k (Ne.symm hL), fun b o e => k b o (by rintro rfl; rw [hg] at e; (first | exact ff e | exact nn e | exact ns e | exact tf e | exact ln e | exact lc e | cases e)) (F.keep b o e), F.above⟩
theorem frExt {g h h' : Heap} {L : Addr} {m : Str → Option Value} (F : Fr g L h m) (k : ∀ b o, h.get? b = some o → h'.get? b = some o) : Fr g L h' m := by
  obtain ⟨oL, a1, a2, hL, a3⟩ := F.ns
  exact ⟨⟨oL, a1, a2, k _ _ hL, a3⟩, fun b o e => k b o (F.keep b o e), F.above⟩

/-- what is new to the heap is not of the frame -/
theorem fr_none {g h : Heap} {L a : Addr} {m : Str → Option Value} (F : Fr g L h m) (hn : h.get? a = none) : g.get? a = none := by
  cases q : g.get? a with
  | none => rfl
  | some o => exact nn (hn.symm.trans (F.keep a o q))
theorem fr_ne {g h : Heap} {L a : Addr} {m : Str → Option Value} (F : Fr g L h m) (hn : h.get? a = none) : a ≠ L := by
  rintro rfl
  obtain ⟨o, _, _, z, _⟩ := F.ns
  exact nn (hn.symm.trans z)
theorem WordsAt.but {ω : Wd} {h h' : Heap} {i d : Nat} {c : Addr} {o : Obj} (x : WordsAt ω h i d) (k : Heap.ExtBut c h h') (e : h.get? c = some o) (hD : ω.D ≠ c) (hR : ω.R ≠ c)
    (hW : ∀ C, o.cls ≠ .ref C) (hT : o.cls ≠ .type "tuple") : WordsAt ω h' i d := by
  have ne : ∀ b o', h.get? b = some o' → o'.cls ≠ o.cls → b ≠ c := by rintro b o' q hne rfl; rw [e] at q; (first | exact ff q | exact nn q | exact ns q | exact tf q | exact ln q | exact lc q | cases q); exact hne rfl
  refine ⟨k _ _ (ne _ _ x.inst (hW _).symm) x.inst, ?_, ?_, x.len, ?_, x.lt, x.small⟩
  · obtain ⟨ti, td, q⟩ := x.dict; exact ⟨ti, td, k _ _ hD q⟩
  · obtain ⟨n, q⟩ := x.rows; exact ⟨n, k _ _ hR q⟩
  · intro j t a h1 h2
    obtain ⟨k1, k2, k3, n, q⟩ := x.tok j t a h1 h2
    exact ⟨k1, k2, k3, n, k _ _ (ne _ _ q hT.symm) q⟩
theorem WordsAt.ext {ω : Wd} {h h' : Heap} {i d : Nat} (x : WordsAt ω h i d) (k : ∀ b o, h.get? b = some o → h'.get? b = some o) : WordsAt ω h' i d := by
  refine ⟨k _ _ x.inst, ?_, ?_, x.len, ?_, x.lt, x.small⟩
  · obtain ⟨ti, td, q⟩ := x.dict; exact ⟨ti, td, k _ _ q⟩
  · obtain ⟨n, q⟩ := x.rows; exact ⟨n, k _ _ q⟩
  · intro j t a h1 h2
    obtain ⟨k1, k2, k3, n, q⟩ := x.tok j t a h1 h2
    exact ⟨k1, k2, k3, n, k _ _ q⟩
section
variable {ρ : Rho} {ads : List Addr} {h : Heap} {v : Value}
noncomputable def RepV.Inv (ρ : Rho) (ads : List Addr) (h : Heap) (v : Value) : AV → Prop
  | .none => v = .none
  | .bool b => v = .bool b
  | .int i => ∃ t, v = .int i t
  | .num => ∃ i t, v = .int i t
  | .sym c => ∃ t, v = .int (ρ.dsym + c) t
  | .str ss => ∃ x t, v = .str x t ∧ x ∈ ss
  | .words => ∃ ω, ρ.wd = some ω ∧ v = .ref ω.W
  | .lst i => ∃ a, ads[i]? = some a ∧ v = .ref a
  | .tup xs => ∃ t vs n, v = .ref t ∧ h.get? t = some (tupObj vs n) ∧ vs.length = xs.length ∧ ∀ (i : Nat) v x, vs[i]? = some v → xs[i]? = some x → RepV ρ ads h v x
  | .any => True
  | .src => ∃ a, ρ.src = some a ∧ v = .ref a
  | .inner => False
theorem RepV.inv {x : AV} (r : RepV ρ ads h v x) : RepV.Inv ρ ads h v x := by
  induction r with
  | none => exact rfl
  | bool b => exact rfl
  | int i t => exact ⟨t, rfl⟩
  | num i t => exact ⟨i, t, rfl⟩
  | sym c t => exact ⟨t, rfl⟩
  | str t m => exact ⟨_, t, rfl, m⟩
  | words e => exact ⟨_, e, rfl⟩
  | lst e => exact ⟨_, e, rfl⟩
  | tup e l k _ => exact ⟨_, _, _, rfl, e, l, k⟩
  | any v => exact trivial
  | src e => exact ⟨_, e, rfl⟩
theorem RepV.none_inv (r : RepV ρ ads h v .none) : v = .none := r.inv
theorem RepV.bool_inv {b : Bool} (r : RepV ρ ads h v (.bool b)) : v = .bool b := r.inv
theorem RepV.int_inv {i : Int} (r : RepV ρ ads h v (.int i)) : ∃ t, v = .int i t := r.inv
theorem RepV.num_inv (r : RepV ρ ads h v .num) : ∃ i t, v = .int i t := r.inv
theorem RepV.sym_inv {c : Int} (r : RepV ρ ads h v (.sym c)) : ∃ t, v = .int (ρ.dsym + c) t := r.inv
theorem RepV.str_inv {ss : List Str} (r : RepV ρ ads h v (.str ss)) : ∃ x t, v = .str x t ∧ x ∈ ss := r.inv
theorem RepV.words_inv (r : RepV ρ ads h v .words) : ∃ ω, ρ.wd = some ω ∧ v = .ref ω.W := r.inv
theorem RepV.lst_inv {i : Nat} (r : RepV ρ ads h v (.lst i)) : ∃ a, ads[i]? = some a ∧ v = .ref a := r.inv
theorem RepV.tup_inv {xs : List AV} (r : RepV ρ ads h v (.tup xs)) : ∃ t vs n, v = .ref t ∧ h.get? t = some (tupObj vs n) ∧ vs.length = xs.length ∧ ∀ (i : Nat) v x, vs[i]? = some v → xs[i]? = some x → RepV ρ ads h v x := r.inv
theorem RepV.src_inv (r : RepV ρ ads h v .src) : ∃ a, ρ.src = some a ∧ v = .ref a := r.inv
theorem R_int {x : AV} {f : Int → Bool} {P : Value → Prop} (r : RepV ρ ads h v x) (hf : intS x f = true) (k : ∀ i t, f i = true → P (.int i t)) : P v := by
  obtain ⟨i, rfl, hf⟩ := intS_is hf
  obtain ⟨t, rfl⟩ := r.int_inv
  exact k i t hf
theorem R_nat {x : AV} {f : Nat → Bool} {P : Value → Prop} (r : RepV ρ ads h v x) (hf : natS x f = true) (k : ∀ (n : Nat) t, f n = true → P (.int n t)) : P v := by
  obtain ⟨i, rfl, hf⟩ := natS_is hf
  obtain ⟨t, rfl⟩ := r.int_inv
  exact k i t hf
theorem R_lst {x : AV} {f : Nat → Bool} {P : Value → Prop} (r : RepV ρ ads h v x) (hf : lstS x f = true) (k : ∀ i a, ads[i]? = some a → f i = true → P (.ref a)) : P v := by
  obtain ⟨i, rfl, hf⟩ := lstS_is hf
  obtain ⟨a, ha, rfl⟩ := r.lst_inv
  exact k i a ha hf
theorem R_str {x : AV} {f : List Str → Bool} {P : Value → Prop} (r : RepV ρ ads h v x) (hf : strS x f = true) (k : ∀ ss y t, y ∈ ss → f ss = true → P (.str y t)) : P v := by
  obtain ⟨i, rfl, hf⟩ := strS_is hf
  obtain ⟨y, t, rfl, hy⟩ := r.str_inv
  exact k i y t hy hf
theorem R_str1 {x : AV} {f : Str → Bool} {P : Value → Prop} (r : RepV ρ ads h v x) (hf : strS x (fun ss => one ss f) = true) (k : ∀ y t, f y = true → P (.str y t)) : P v := by
  refine R_str (P := P) r hf fun ss y t hy hf => ?_
  obtain ⟨z, rfl, hf⟩ := one_is hf
  rw [List.mem_singleton.mp hy]
  exact k z t hf
theorem RepV.inner_inv {p : Prop} (r : RepV ρ ads h v .inner) : p := False.elim r.inv
end
end Mine

namespace Mine

theorem eqN_iff : ∀ {a b : List Nat}, eqN a b = true ↔ a = b
  | [], [] => ⟨fun _ => rfl, fun _ => rfl⟩
  | [], _ :: _ => ⟨fun h => ff h, fun h => ln h⟩
  | _ :: _, [] => ⟨fun h => ff h, fun h => lc h⟩
  | x :: l, y :: r => by
    show (match Nat.beq x y with | true => eqN l r | false => false) = true ↔ _
    cases h : Nat.beq x y with
    | true =>
      obtain rfl := Nat.eq_of_beq_eq_true h
      exact ⟨fun q => congrArg _ (eqN_iff.mp q), fun q => eqN_iff.mpr (List.cons.inj q).2⟩
    | false => exact ⟨fun q => ff q, fun q => by rw [(List.cons.inj q).1, Nat.beq_refl] at h; exact tf h⟩
theorem eqS_iff {x y : Str} : eqS x y = true ↔ x = y := by
  unfold eqS
  rw [eqN_iff]
  constructor
  · intro h; (first | exact ff x | exact nn x | exact ns x | exact tf x | exact ln x | exact lc x | cases x); cases y; simp only [Str.mk.injEq]; exact Array.toList_inj.mp h
  · rintro rfl; rfl
theorem eqS_false {x y : Str} : eqS x y = false ↔ x ≠ y := by
  rw [← Bool.not_eq_true, eqS_iff]
theorem eqS_eq (x y : Str) : eqS x y = (x == y) := by
  cases h : eqS x y with
  | true => rw [eqS_iff.mp h]; simp
  | false => have := eqS_false.mp h; simp [this]
theorem eqS_refl (x : Str) : eqS x x = true := eqS_iff.mpr rfl
theorem find_eq {α : Type} (x : Str) : ∀ l : List (Str × α), find x l = l.lookup x
  | [] => rfl
  | p :: r => by
    obtain ⟨y, v⟩ := p
    unfold find
    rw [List.lookup_cons, ← eqS_eq, find_eq x r]
    cases eqS x y <;> rfl
theorem find_put {α : Type} (x : Str) (v : α) (y : Str) : ∀ l : List (Str × α), find y (put x v l) = if y = x then some v else find y l
  | [] => by
    show (match eqS y x with | true => some v | false => none) = _
    cases h : eqS y x with
    | true => rw [if_pos (eqS_iff.mp h)]
    | false => rw [if_neg (eqS_false.mp h)]; rfl
  | p :: r => by
    obtain ⟨z, w⟩ := p
    unfold put
    cases h : eqS x z with
    | true =>
      obtain rfl := eqS_iff.mp h
      show (match eqS y x with | true => some v | false => find y r) = if y = x then some v else (match eqS y x with | true => some w | false => find y r)
      cases q : eqS y x with
      | true => rw [if_pos (eqS_iff.mp q)]
      | false => rw [if_neg (eqS_false.mp q)]
    | false =>
      show (match eqS y z with | true => some w | false => find y (put x v r)) = if y = x then some v else (match eqS y z with | true => some w | false => find y r)
      rw [find_put x v y r]
      cases q : eqS y z with
      | true =>
        have hyx : y ≠ x := by
          rintro rfl
          rw [q] at h
          (first | exact ff h | exact nn h | exact ns h | exact tf h | exact ln h | exact lc h | cases h)
        simp [hyx]
      | false => rfl
theorem inS_iff {x : Str} : ∀ {l : List Str}, inS x l = true ↔ x ∈ l
  | [] => by simp [inS]
  | y :: r => by
    unfold inS
    cases h : eqS x y with
    | true => simp [eqS_iff.mp h]
    | false => simp only [List.mem_cons, eqS_false.mp h, false_or]; exact inS_iff
theorem inS_false {x : Str} {l : List Str} : inS x l = false ↔ x ∉ l := by rw [← Bool.not_eq_true, inS_iff]
theorem amid_true {l : List Str} : ∀ {xs : List Str} {b : Bool}, amid xs l = some b → ∀ x ∈ xs, inS x l = b
  | [], _, h => by (first | exact ff h | exact nn h | exact ns h | exact tf h | exact ln h | exact lc h | cases h)
  | [x], b, h => by
    intro y hy
    simp only [List.mem_singleton] at hy
    subst hy
    exact Option.some.inj h
  | x :: z :: r, b, h => by
    have key : inS x l = b ∧ amid (z :: r) l = some b := by
      revert h
      show (match inS x l, amid (z :: r) l with | true, some true => some true | false, some false => some false | _, _ => none) = some b → _
      cases inS x l <;> rcases amid (z :: r) l with _ | _ | _ <;> intro h <;> first | exact nn h | exact ⟨Option.some.inj h, h⟩
    intro y hy
    rcases List.mem_cons.mp hy with rfl | hy
    · exact key.1
    · exact amid_true key.2 y hy
theorem sameOne_is {xs ys : List Str} {b : Bool} (h : sameOne xs ys = some b) : ∀ x ∈ xs, ∀ y ∈ ys, (x == y) = b := by
  unfold sameOne at h
  split at h
  · rename_i y
    intro x hx z hz
    simp only [List.mem_singleton] at hz
    subst hz
    have := amid_true h x hx
    cases b with
    | true => have := inS_iff.mp this; simp only [List.mem_singleton] at this; simp [this]
    | false => have := inS_false.mp this; simp only [List.mem_singleton] at this; simpa using this
  · (first | exact ff h | exact nn h | exact ns h | exact tf h | exact ln h | exact lc h | cases h)

section
variable {ρ : Rho} {fr : Frm} {kp : Kp} {st : St} {s : Shared} {ads : List Addr}
theorem ListsAt.mono {h h' : Heap} {ls : List (List AV)} (x : ListsAt ρ ads h ls) (k : Later ads h ads h') (l : ∀ a ∈ ads, ∀ o, h.get? a = some o → h'.get? a = some o) : ListsAt ρ ads h' ls :=
  ⟨x.1, fun i a xs h1 h2 => let ⟨vs, n, e, it⟩ := x.2 i a xs h1 h2; ⟨vs, n, l a (List.mem_of_getElem? h1) _ e, it.mono k⟩⟩
theorem SrcAt.mono {h h' : Heap} {S : Addr} (x : SrcAt h S) (k : ∀ o, h.get? S = some o → h'.get? S = some o) : SrcAt h' S := by
  obtain ⟨i, j, ti, tj, o, n, e, r⟩ := x
  exact ⟨i, j, ti, tj, o, n, k _ e, r⟩

/-- nothing that stood is changed -/
theorem Core.ext (x : Core ρ kp st s ads) {h' : Heap} {tk : Nat} (k : ∀ b o, s.heap.get? b = some o → h'.get? b = some o) : Core ρ kp st { s with heap := h', toks := tk } ads := by
  refine ⟨x.lists.mono (Later.ext k) fun a _ o e => k a o e, fun ω e => ?_, fun S e => (x.src S e).mono fun o q => k _ _ q,
    fun b o hp => ⟨k _ _ (x.kept b o hp).1, (x.kept b o hp).2⟩, x.apart, x.lv, x.out⟩
  obtain ⟨i, W, r⟩ := x.words ω e
  exact ⟨i, W.ext k, r⟩
theorem Sim.ext (x : Sim ρ fr kp st s ads) {h' : Heap} {tk : Nat} (k : ∀ b o, s.heap.get? b = some o → h'.get? b = some o) : Sim ρ fr kp st { s with heap := h', toks := tk } ads := by
  obtain ⟨m, F, hm⟩ := x.loc
  exact ⟨x.toCore.ext k, ⟨m, frExt F k, fun y v e => let ⟨u, e', r⟩ := hm y v e; ⟨u, e', r.mono (Later.ext k)⟩⟩, x.new, x.off⟩
theorem Sim.toks (x : Sim ρ fr kp st s ads) (tk : Nat) : Sim ρ fr kp st { s with toks := tk } ads := Sim.ext (s := s) (h' := s.heap) (tk := tk) x fun _ _ e => e

theorem Sim.L_dict (x : Sim ρ fr kp st s ads) : ∃ o es ep, s.heap.get? fr.L = some o ∧ o.data = .dict es ep := by
  obtain ⟨m, F, _⟩ := x.loc
  obtain ⟨o, es, ep, h1, h2, _⟩ := F.ns
  exact ⟨o, es, ep, h1, h2⟩

/-- a name of the frame's own is stored -/
theorem Sim.store (x : Sim ρ fr kp st s ads) {y : Str} {u : Value} {v : AV} (r : RepV ρ ads s.heap u v) {m : Str → Option Value} (F : Fr fr.g fr.L s.heap m)
    (hm : ∀ x v, find x st.loc = some v → ∃ u, m x = some u ∧ RepV ρ ads s.heap u v) {h' : Heap} {tk : Nat} (hn : h'.Ns fr.L fun z => if z = y then some u else m z) (hs : Heap.SameBut fr.L s.heap h') :
    Sim ρ fr kp ⟨put y v st.loc, st.lists, st.ws⟩ { s with heap := h', toks := tk } ads ∧ Later ads s.heap ads h' := by
  obtain ⟨oL, es, ep, hL, hd⟩ := x.L_dict
  have ne : ∀ b o', s.heap.get? b = some o' → (∀ es ep, o'.data ≠ .dict es ep) → h'.get? b = some o' := fun b o' q hne =>
    (hs.2 b (by rintro rfl; rw [hL] at q; (first | exact ff q | exact nn q | exact ns q | exact tf q | exact ln q | exact lc q | cases q); exact hne _ _ hd)).trans q
  have kt : Later ads s.heap ads h' := ⟨⟨[], by simp⟩, fun t vs n q => ne _ _ q (by intro _ _ z; (first | exact ff z | exact nn z | exact ns z | exact tf z | exact ln z | exact lc z | cases z))⟩
  have off : ∀ b ∈ muts ρ ads, ∀ o, s.heap.get? b = some o → h'.get? b = some o := fun b hb o q => (hs.2 b (x.new b hb).2).trans q
  refine ⟨⟨⟨x.lists.mono kt fun a ha o q => off a ?_ o q, fun ω e => ?_, fun S e => (x.src S e).mono fun o q => off S (mem_src e) o q,
    fun b o hp => ⟨(hs.2 _ (x.off b o hp)).trans (x.kept b o hp).1, (x.kept b o hp).2⟩, x.apart, x.lv, x.out⟩, ⟨_, F.set hn hs, fun z w e => ?_⟩, x.new, x.off⟩, kt⟩
  · obtain ⟨i, hi⟩ := List.getElem?_of_mem ha; exact mem_ads hi
  · obtain ⟨i, W, M, p, nR⟩ := x.words ω e
    refine ⟨i, ⟨ne _ _ W.inst (by intro _ _ z; (first | exact ff z | exact nn z | exact ns z | exact tf z | exact ln z | exact lc z | cases z)), ?_, ?_, W.len, ?_, W.lt, W.small⟩, M, p, nR⟩
    · obtain ⟨ti, td, q⟩ := W.dict; exact ⟨ti, td, off _ (mem_wd e) _ q⟩
    · obtain ⟨n, q⟩ := W.rows; exact ⟨n, ne _ _ q (by intro _ _ z; (first | exact ff z | exact nn z | exact ns z | exact tf z | exact ln z | exact lc z | cases z))⟩
    · intro j t a h1 h2
      obtain ⟨k1, k2, k3, n, q⟩ := W.tok j t a h1 h2
      exact ⟨k1, k2, k3, n, ne _ _ q (by intro _ _ z; (first | exact ff z | exact nn z | exact ns z | exact tf z | exact ln z | exact lc z | cases z))⟩
  · rw [find_put] at e
    by_cases hz : z = y
    · rw [if_pos hz] at e; (first | exact ff e | exact nn e | exact ns e | exact tf e | exact ln e | exact lc e | cases e); exact ⟨u, by simp [hz], r.mono kt⟩
    · rw [if_neg hz] at e
      obtain ⟨u', e', r'⟩ := hm z w e
      exact ⟨u', by simp [hz, e'], r'.mono kt⟩

/-- a new list -/
theorem Sim.newL (x : Sim ρ fr kp st s ads) {vs : List Value} {xs : List AV} (it : Items ρ ads s.heap vs xs) {h' : Heap} {tk n : Nat} {D : Addr} (k : ∀ b o, s.heap.get? b = some o → h'.get? b = some o)
    (hD : h'.get? D = some (listObj vs n)) (hf : s.heap.get? D = none) :
    Sim ρ fr kp ⟨st.loc, st.lists ++ [xs], st.ws⟩ { s with heap := h', toks := tk } (ads ++ [D]) ∧ Later ads s.heap (ads ++ [D]) h' ∧ RepV ρ (ads ++ [D]) h' (.ref D) (.lst st.lists.length) := by
  have kt : Later ads s.heap (ads ++ [D]) h' := ⟨⟨[D], rfl⟩, fun t vs n q => k _ _ q⟩
  have nD : D ∉ muts ρ ads := fun hm => by
    have : ∃ o, s.heap.get? D = some o := by
      unfold muts at hm
      simp only [List.mem_append] at hm
      rcases hm with (hm | hm) | hm
      · cases e : ρ.wd with
        | none => rw [e] at hm; simp at hm
        | some ω =>
          rw [e] at hm
          simp only [List.mem_singleton] at hm
          obtain ⟨i, W, _⟩ := x.words ω e
          obtain ⟨ti, td, q⟩ := W.dict
          exact ⟨_, hm ▸ q⟩
      · cases e : ρ.src with
        | none => rw [e] at hm; simp at hm
        | some S =>
          rw [e] at hm
          simp only [List.mem_singleton] at hm
          obtain ⟨i, j, ti, tj, oS, n, q, _⟩ := x.src S e
          exact ⟨_, hm ▸ q⟩
      · obtain ⟨i, hi⟩ := List.getElem?_of_mem hm
        have hl : i < st.lists.length := by rw [← x.lists.1]; exact (List.getElem?_eq_some_iff.mp hi).1
        obtain ⟨vs, n, q, _⟩ := x.lists.2 i D st.lists[i] hi (by simp [hl])
        exact ⟨_, q⟩
    obtain ⟨o, ho⟩ := this
    rw [hf] at ho; (first | exact ff ho | exact nn ho | exact ns ho | exact tf ho | exact ln ho | exact lc ho | cases ho)
  obtain ⟨m, F, hm⟩ := x.loc
  refine ⟨⟨⟨⟨by simp [x.lists.1], fun i a ys h1 h2 => ?_⟩, fun ω e => ?_, fun S e => (x.src S e).mono fun o q => k _ _ q, fun b o hp => ⟨k _ _ (x.kept b o hp).1, ?_⟩, ?_, x.lv, x.out⟩,
    ⟨m, frExt F k, fun y v e => let ⟨u, e', r⟩ := hm y v e; ⟨u, e', r.mono kt⟩⟩, fun a ha => ?_, x.off⟩, kt, .lst (by rw [← x.lists.1]; simp)⟩
  · by_cases hi : i < ads.length
    · rw [List.getElem?_append_left hi] at h1
      rw [List.getElem?_append_left (x.lists.1 ▸ hi)] at h2
      obtain ⟨vs', n', q, r⟩ := x.lists.2 i a ys h1 h2
      exact ⟨vs', n', k _ _ q, r.mono kt⟩
    · have hi' : i = ads.length := by
        have := (List.getElem?_eq_some_iff.mp h1).1
        simp at this; omega
      subst hi'
      rw [List.getElem?_append_right (Nat.le_refl _)] at h1
      rw [x.lists.1, List.getElem?_append_right (Nat.le_refl _)] at h2
      simp at h1 h2
      subst h1; subst h2
      exact ⟨vs, n, hD, it.mono kt⟩
  · obtain ⟨i, W, M, p, nR⟩ := x.words ω e
    refine ⟨i, W.ext k, M, p, ?_⟩
    rw [muts_app]
    simp only [List.mem_append, List.mem_singleton, not_or]
    refine ⟨nR, ?_⟩
    rintro rfl
    obtain ⟨n', q⟩ := W.rows
    rw [hf] at q; (first | exact ff q | exact nn q | exact ns q | exact tf q | exact ln q | exact lc q | cases q)
  · rw [muts_app]
    simp only [List.mem_append, List.mem_singleton, not_or]
    refine ⟨(x.kept b o hp).2, ?_⟩
    rintro rfl
    have := (x.kept b o hp).1
    rw [hf] at this; (first | exact ff this | exact nn this | exact ns this | exact tf this | exact ln this | exact lc this | cases this)
  · rw [muts_app]
    refine List.nodup_append.mpr ⟨x.apart, by simp, ?_⟩
    intro a ha b hb
    simp only [List.mem_singleton] at hb
    subst hb
    rintro rfl
    exact nD ha
  · rw [muts_app] at ha
    simp only [List.mem_append, List.mem_singleton] at ha
    rcases ha with ha | rfl
    · exact x.new a ha
    · refine ⟨?_, ?_⟩
      · cases q : fr.g.get? a with
        | none => rfl
        | some o => have := F.keep a o q; rw [hf] at this; (first | exact ff this | exact nn this | exact ns this | exact tf this | exact ln this | exact lc this | cases this)
      · rintro rfl
        obtain ⟨o, es, ep, hL, _⟩ := x.L_dict
        rw [hf] at hL; (first | exact ff hL | exact nn hL | exact ns hL | exact tf hL | exact ln hL | exact lc hL | cases hL)
end
end Mine

namespace Mine

structure Gl where
  prog : Program
  w : World
  p : Program
  loose : List Str
  mg : Str → Option Value
  mb : Str → Option Value
  cf : Cf
  ρ : Rho
  /-- the class of what is raised -/
  GF : Addr

structure FrmOk (G : Gl) (fr : Frm) (cx : Cx) : Prop where
  scope : fr.scope = cx.scope
  below : Below fr.A₀ fr.base fr.outer fr.g
  X : G.cf.K.In fr.g
  T : TopRead G.p G.loose G.mg G.mb fr.g
  kind : fr.scope.kind = .function
  hh : fr.A₀.handled = none
  dbg : find (Str.ofString "__debug__") cx.scope.names = none
  room : fr.A₀.depth + cx.cb + G.ρ.sz + 20 ≤ recursionLimit
  units : fr.A₀.units + 10 * (cx.cb + G.ρ.sz + 20) ≤ cLine
  ivs : G.ρ.ivs.length ≤ 1000

noncomputable def Over (G : Gl) : Prop := 60 < G.ρ.d0 + G.cf.top ∨ 60 < G.ρ.d0 + G.cf.holeTop + G.ρ.e
noncomputable def OutAs (s0 s : Shared) : Prop := s.gens = s0.gens ∧ s.drawn = s0.drawn ∧ s.os = s0.os
/-- an exception of the class flies here -/
noncomputable def Flies (G : Gl) (fr : Frm) (x : Value) (s : Shared) : Prop :=
  ∃ e a0, x = .ref e ∧ (Heap.FlyingW fr.base (fr.env :: fr.outer) e (.ref G.GF) a0 s.heap ∨ Heap.HeldW fr.base (fr.env :: fr.outer) e (.ref G.GF) a0 fr.L s.heap) ∧ fr.g.UpToSlots s.heap ∧ OutAs G.ρ.s0 s
noncomputable def Exc (G : Gl) (fr : Frm) (x : Value) (s : Shared) : Prop := Over G ∧ Flies G fr x s

section
variable (ρ : Rho) (fr : Frm) (kp : Kp) (s : Shared) (ads : List Addr)
noncomputable def Post (k : AV → St → Bool) (v : Value) (s' : Shared) : Prop := ∃ x st ads', RepV ρ ads' s'.heap v x ∧ Sim ρ fr kp st s' ads' ∧ Later ads s.heap ads' s'.heap ∧ k x st = true
noncomputable def PostB (k : Bool → St → Bool) (c : Bool) (s' : Shared) : Prop := ∃ st ads', Sim ρ fr kp st s' ads' ∧ Later ads s.heap ads' s'.heap ∧ k c st = true
inductive RepVs (ads : List Addr) (h : Heap) : List Value → List AV → Prop
  | nil : RepVs ads h [] []
  | cons {v : Value} {x : AV} {vs : List Value} {xs : List AV} : RepV ρ ads h v x → RepVs ads h vs xs → RepVs ads h (v :: vs) (x :: xs)
noncomputable def PostL (k : List AV → St → Bool) (vs : List Value) (s' : Shared) : Prop := ∃ xs st ads', RepVs ρ ads' s'.heap vs xs ∧ Sim ρ fr kp st s' ads' ∧ Later ads s.heap ads' s'.heap ∧ k xs st = true
inductive RepF (ads : List Addr) (h : Heap) : Flow → Fl → Prop
  | next : RepF ads h .next .next
  | brk : RepF ads h .brk .brk
  | ret {v : Value} {x : AV} : RepV ρ ads h v x → RepF ads h (.ret v) (.ret x)
noncomputable def PostF (k : Fl → St → Bool) (f : Flow) (s' : Shared) : Prop := ∃ x st ads', RepF ρ ads' s'.heap f x ∧ Sim ρ fr kp st s' ads' ∧ Later ads s.heap ads' s'.heap ∧ k x st = true
end
theorem RepVs.mono {ρ : Rho} {ads ads' : List Addr} {h h' : Heap} (k : Later ads h ads' h') {vs : List Value} {xs : List AV} (r : RepVs ρ ads h vs xs) : RepVs ρ ads' h' vs xs := by
  induction r with
  | nil => exact .nil
  | cons q _ ih => exact .cons (q.mono k) ih
theorem RepVs.items {ρ : Rho} {ads : List Addr} {h : Heap} {vs : List Value} {xs : List AV} (r : RepVs ρ ads h vs xs) : Items ρ ads h vs xs := by
  induction r with
  | nil => exact .nil
  | cons q _ ih => exact .cons q ih
theorem RepVs.length {ρ : Rho} {ads : List Addr} {h : Heap} {vs : List Value} {xs : List AV} (r : RepVs ρ ads h vs xs) : vs.length = xs.length := by
  induction r with
  | nil => rfl
  | cons q _ ih => simp [ih]
theorem RepVs.at {ρ : Rho} {ads : List Addr} {h : Heap} {vs : List Value} {xs : List AV} (r : RepVs ρ ads h vs xs) : ∀ (i : Nat) v x, vs[i]? = some v → xs[i]? = some x → RepV ρ ads h v x := by
  induction r with
  | nil => intro i v x h1; simp at h1
  | cons q _ ih =>
    intro i v x h1 h2
    cases i with
    | zero => simp at h1 h2; subst h1; subst h2; exact q
    | succ i => exact ih i v x (by simpa using h1) (by simpa using h2)
theorem RepVs.of_at {ρ : Rho} {ads : List Addr} {h : Heap} : ∀ {vs : List Value} {xs : List AV}, vs.length = xs.length → (∀ (i : Nat) v x, vs[i]? = some v → xs[i]? = some x → RepV ρ ads h v x) → RepVs ρ ads h vs xs
  | [], [], _, _ => .nil
  | [], _ :: _, e, _ => by simp at e
  | _ :: _, [], e, _ => by simp at e
  | v :: vs, x :: xs, e, k => .cons (k 0 v x rfl rfl) (RepVs.of_at (by simpa using e) fun i v x h1 h2 => k (i + 1) v x (by simpa using h1) (by simpa using h2))
theorem plain_cons {x : AV} {xs : List AV} (e : plainItems (x :: xs) = true) : plainItems xs = true := by
  cases x with
  | inner => exact ff e
  | _ => exact e
theorem Items.plain {ρ : Rho} {ads : List Addr} {h : Heap} {vs : List Value} {xs : List AV} (r : Items ρ ads h vs xs) : plainItems xs = true → RepVs ρ ads h vs xs := by
  induction r with
  | nil => exact fun _ => .nil
  | cons q _ ih => exact fun e => .cons q (ih (plain_cons e))
  | inner _ ih => exact fun e => ff e
theorem RepVs.inv {ρ : Rho} {ads : List Addr} {h : Heap} {vs : List Value} {xs : List AV} (r : RepVs ρ ads h vs xs) : List.rec (motive := fun _ => Prop) (vs = []) (fun x xs _ => ∃ v ws, vs = v :: ws ∧ RepV ρ ads h v x ∧ RepVs ρ ads h ws xs) xs := by
  induction r with
  | nil => exact rfl
  | cons a b _ => exact ⟨_, _, rfl, a, b⟩
theorem RepVs.nil_inv {ρ : Rho} {ads : List Addr} {h : Heap} {vs : List Value} (r : RepVs ρ ads h vs []) : vs = [] := r.inv
theorem RepVs.cons_inv {ρ : Rho} {ads : List Addr} {h : Heap} {vs : List Value} {x : AV} {xs : List AV} (r : RepVs ρ ads h vs (x :: xs)) : ∃ v ws, vs = v :: ws ∧ RepV ρ ads h v x ∧ RepVs ρ ads h ws xs := r.inv
theorem RepVs.one_inv {ρ : Rho} {ads : List Addr} {h : Heap} {vs : List Value} {x : AV} (r : RepVs ρ ads h vs [x]) : ∃ v, vs = [v] ∧ RepV ρ ads h v x := by
  obtain ⟨v, ws, rfl, a, b⟩ := r.cons_inv
  obtain rfl := b.nil_inv
  exact ⟨v, rfl, a⟩
theorem RepVs.two_inv {ρ : Rho} {ads : List Addr} {h : Heap} {vs : List Value} {x y : AV} (r : RepVs ρ ads h vs [x, y]) : ∃ u v, vs = [u, v] ∧ RepV ρ ads h u x ∧ RepV ρ ads h v y := by
  obtain ⟨u, ws, rfl, a, b⟩ := r.cons_inv
  obtain ⟨v, rfl, c⟩ := b.one_inv
  exact ⟨u, v, rfl, a, c⟩
theorem Rs_one {ρ : Rho} {ads : List Addr} {h : Heap} {vs : List Value} {xs : List AV} {f : AV → Bool} {P : List Value → Prop} (r : RepVs ρ ads h vs xs) (hf : one xs f = true) (k : ∀ v x, RepV ρ ads h v x → f x = true → P [v]) : P vs := by
  obtain ⟨x, rfl, hf⟩ := one_is hf
  obtain ⟨v, rfl, rv⟩ := r.one_inv
  exact k v x rv hf
theorem R_tup {ρ : Rho} {ads : List Addr} {h : Heap} {v : Value} {x : AV} {f : List AV → Bool} {P : Value → Prop} (r : RepV ρ ads h v x) (hf : tupS x f = true) (k : ∀ T vs n xs, h.get? T = some (tupObj vs n) → RepVs ρ ads h vs xs → f xs = true → P (.ref T)) : P v := by
  obtain ⟨xs, rfl, hf⟩ := tupS_is hf
  obtain ⟨T, vs, n, rfl, hT, hlen, hat⟩ := r.tup_inv
  exact k T vs n xs hT (RepVs.of_at hlen hat) hf
theorem Post.later {ρ : Rho} {fr : Frm} {kp : Kp} {s s₁ : Shared} {ads ads₁ : List Addr} {k : AV → St → Bool} {v : Value} {s' : Shared} (l : Later ads s.heap ads₁ s₁.heap) (x : Post ρ fr kp s₁ ads₁ k v s') : Post ρ fr kp s ads k v s' :=
  by obtain ⟨y, st, ads', a, b, c, d⟩ := x; exact ⟨y, st, ads', a, b, l.trans c, d⟩
theorem PostB.later {ρ : Rho} {fr : Frm} {kp : Kp} {s s₁ : Shared} {ads ads₁ : List Addr} {k : Bool → St → Bool} {v : Bool} {s' : Shared} (l : Later ads s.heap ads₁ s₁.heap) (x : PostB ρ fr kp s₁ ads₁ k v s') : PostB ρ fr kp s ads k v s' :=
  by obtain ⟨st, ads', b, c, d⟩ := x; exact ⟨st, ads', b, l.trans c, d⟩
theorem PostF.later {ρ : Rho} {fr : Frm} {kp : Kp} {s s₁ : Shared} {ads ads₁ : List Addr} {k : Fl → St → Bool} {v : Flow} {s' : Shared} (l : Later ads s.heap ads₁ s₁.heap) (x : PostF ρ fr kp s₁ ads₁ k v s') : PostF ρ fr kp s ads k v s' :=
  by obtain ⟨y, st, ads', a, b, c, d⟩ := x; exact ⟨y, st, ads', a, b, l.trans c, d⟩
/-- an end: nothing but counters has changed -/
theorem Post.here {ρ : Rho} {fr : Frm} {kp : Kp} {st : St} {s : Shared} {ads : List Addr} {k : AV → St → Bool} {v : Value} {x : AV} (S : Sim ρ fr kp st s ads) (r : RepV ρ ads s.heap v x) (e : k x st = true) (tk : Nat) :
    Post ρ fr kp s ads k v { s with toks := tk } := ⟨x, st, ads, r, S.toks tk, Later.refl _ _, e⟩
theorem Post.now {ρ : Rho} {fr : Frm} {kp : Kp} {st : St} {s : Shared} {ads : List Addr} {k : AV → St → Bool} {v : Value} {x : AV} (S : Sim ρ fr kp st s ads) (r : RepV ρ ads s.heap v x) (e : k x st = true) :
    Post ρ fr kp s ads k v s := ⟨x, st, ads, r, S, Later.refl _ _, e⟩

theorem Post_el {ρ : Rho} {fr : Frm} {kp : Kp} {s s' : Shared} {ads : List Addr} {k : AV → St → Bool} {v : Value} {P : Prop} (h : Post ρ fr kp s ads k v s') (q : ∀ x st ads', RepV ρ ads' s'.heap v x → Sim ρ fr kp st s' ads' → Later ads s.heap ads' s'.heap → k x st = true → P) : P := by
  obtain ⟨x, st, ads', a, b, c, d⟩ := h
  exact q x st ads' a b c d
/-- what is laid back of a call: all that stood and may not be changed stands -/
noncomputable def AllBut (ρ : Rho) (s : Shared) (ads : List Addr) : Kp := fun b o => s.heap.get? b = some o ∧ b ∉ muts ρ ads
noncomputable def PostC (ρ : Rho) (loc : List (Str × AV)) (s : Shared) (ads : List Addr) (k : AV → St → Bool) (v : Value) (s' : Shared) : Prop :=
  ∃ x st ads', RepV ρ ads' s'.heap v x ∧ Core ρ (AllBut ρ s ads) st s' ads' ∧ Later ads s.heap ads' s'.heap ∧ st.loc = loc ∧ k x st = true

/-- the run is sound up to n -/
structure Snd (G : Gl) (n : Nat) : Prop where
  e : ∀ {fr kp cx st s ads x k}, run G.cf n (.e x k) cx st = true → FrmOk G fr cx → Sim G.ρ fr kp st s ads →
    wpAny (model G.prog G.w) fr.A (eval x fr.env) (Post G.ρ fr kp s ads k) (Exc G fr) s
  t : ∀ {fr kp cx st s ads x k}, run G.cf n (.t x k) cx st = true → FrmOk G fr cx → Sim G.ρ fr kp st s ads →
    wpAny (model G.prog G.w) fr.A (isTrue x fr.env (eval x fr.env)) (PostB G.ρ fr kp s ads k) (Exc G fr) s
  as : ∀ {fr kp cx st s ads xs k} {pos : Pos}, run G.cf n (.as xs k) cx st = true → noStar xs = true → FrmOk G fr cx → Sim G.ρ fr kp st s ads →
    wpAny (model G.prog G.w) fr.A (spliced (backTo pos (starEach xs fr.env))) (PostL G.ρ fr kp s ads k) (Exc G fr) s
  s : ∀ {fr kp cx st s ads x k}, run G.cf n (.s x k) cx st = true → FrmOk G fr cx → Sim G.ρ fr kp st s ads →
    wpAny (model G.prog G.w) fr.A (exec x fr.env) (PostF G.ρ fr kp s ads k) (Exc G fr) s
  ss : ∀ {fr kp cx st s ads xs k}, run G.cf n (.ss xs k) cx st = true → FrmOk G fr cx → Sim G.ρ fr kp st s ads →
    wpAny (model G.prog G.w) fr.A (execs xs fr.env) (PostF G.ρ fr kp s ads k) (Exc G fr) s
  call : ∀ {fr cx st s ads f vs xs k} {m : Str → Option Value}, run G.cf n (.call f xs k) cx st = true → FrmOk G fr cx → Fr fr.g fr.L s.heap m → (∀ a ∈ muts G.ρ ads, fr.g.get? a = none ∧ a ≠ fr.L) →
    Core G.ρ (AllBut G.ρ s ads) st s ads → RepVs G.ρ ads s.heap vs xs →
    wpAny (model G.prog G.w) fr.A (call (.ref f) vs) (PostC G.ρ st.loc s ads k) (Exc G fr) s

section
variable {G : Gl} {fr : Frm} {kp : Kp} {cx : Cx} {st : St} {s : Shared} {ads : List Addr}
theorem e_then {n : Nat} {x : Expr} {k : AV → St → Bool} {Q : Value → Shared → Prop} (H : Snd G n) (h : run G.cf n (.e x k) cx st = true) (O : FrmOk G fr cx) (S : Sim G.ρ fr kp st s ads)
    (q : ∀ v s' y st' ads', RepV G.ρ ads' s'.heap v y → Sim G.ρ fr kp st' s' ads' → Later ads s.heap ads' s'.heap → k y st' = true → Q v s') : wpAny (model G.prog G.w) fr.A (eval x fr.env) Q (Exc G fr) s :=
  wpAny_mono (H.e h O S) (fun v s' p => Post_el p (q v s')) fun _ _ e => e
theorem e_back {n : Nat} {x : Expr} {k : AV → St → Bool} {s₀ : Shared} {ads₀ : List Addr} (H : Snd G n) (h : run G.cf n (.e x k) cx st = true) (O : FrmOk G fr cx) (S : Sim G.ρ fr kp st s ads) (l : Later ads₀ s₀.heap ads s.heap) : wpAny (model G.prog G.w) fr.A (eval x fr.env) (Post G.ρ fr kp s₀ ads₀ k) (Exc G fr) s :=
  wpAny_mono (H.e h O S) (fun _ _ p => p.later l) fun _ _ e => e
theorem t_then {n : Nat} {x : Expr} {k : Bool → St → Bool} {Q : Bool → Shared → Prop} (H : Snd G n) (h : run G.cf n (.t x k) cx st = true) (O : FrmOk G fr cx) (S : Sim G.ρ fr kp st s ads)
    (q : ∀ c s' st' ads', Sim G.ρ fr kp st' s' ads' → Later ads s.heap ads' s'.heap → k c st' = true → Q c s') : wpAny (model G.prog G.w) fr.A (isTrue x fr.env (eval x fr.env)) Q (Exc G fr) s :=
  wpAny_mono (H.t h O S) (fun c s' p => by obtain ⟨st', ads', a, b, d⟩ := p; exact q c s' st' ads' a b d) fun _ _ e => e
theorem as_then {n : Nat} {xs : List Expr} {pos : Pos} {k : List AV → St → Bool} {Q : List Value → Shared → Prop} (H : Snd G n) (h : run G.cf n (.as xs k) cx st = true) (hs : noStar xs = true) (O : FrmOk G fr cx) (S : Sim G.ρ fr kp st s ads)
    (q : ∀ vs s' ys st' ads', RepVs G.ρ ads' s'.heap vs ys → Sim G.ρ fr kp st' s' ads' → Later ads s.heap ads' s'.heap → k ys st' = true → Q vs s') : wpAny (model G.prog G.w) fr.A (spliced (backTo pos (starEach xs fr.env))) Q (Exc G fr) s :=
  wpAny_mono (H.as h hs O S) (fun vs s' p => by obtain ⟨ys, st', ads', a, b, c, d⟩ := p; exact q vs s' ys st' ads' a b c d) fun _ _ e => e
theorem ss_then {n : Nat} {xs : List Stmt} {k : Fl → St → Bool} {Q : Flow → Shared → Prop} (H : Snd G n) (h : run G.cf n (.ss xs k) cx st = true) (O : FrmOk G fr cx) (S : Sim G.ρ fr kp st s ads)
    (q : ∀ f s' y st' ads', RepF G.ρ ads' s'.heap f y → Sim G.ρ fr kp st' s' ads' → Later ads s.heap ads' s'.heap → k y st' = true → Q f s') : wpAny (model G.prog G.w) fr.A (execs xs fr.env) Q (Exc G fr) s :=
  wpAny_mono (H.ss h O S) (fun f s' p => by obtain ⟨y, st', ads', a, b, c, d⟩ := p; exact q f s' y st' ads' a b c d) fun _ _ e => e
theorem s_then {n : Nat} {x : Stmt} {k : Fl → St → Bool} {Q : Flow → Shared → Prop} (H : Snd G n) (h : run G.cf n (.s x k) cx st = true) (O : FrmOk G fr cx) (S : Sim G.ρ fr kp st s ads)
    (q : ∀ f s' y st' ads', RepF G.ρ ads' s'.heap f y → Sim G.ρ fr kp st' s' ads' → Later ads s.heap ads' s'.heap → k y st' = true → Q f s') : wpAny (model G.prog G.w) fr.A (exec x fr.env) Q (Exc G fr) s :=
  wpAny_mono (H.s h O S) (fun f s' p => by obtain ⟨y, st', ads', a, b, c, d⟩ := p; exact q f s' y st' ads' a b c d) fun _ _ e => e
theorem FrmOk.kindOf (O : FrmOk G fr cx) (x : Str) : fr.env.kindOf x = find x cx.scope.names := by
  show fr.scope.names.lookup x = _
  rw [find_eq, O.scope]
theorem local_kind (O : FrmOk G fr cx) {x : Str} (h : isLocal cx x = true) : fr.env.kindOf x = some .local := by
  rw [O.kindOf]; unfold isLocal at h; split at h <;> first | assumption | (first | exact ff h | exact nn h | exact ns h | exact tf h | exact ln h | exact lc h | cases h)
theorem global_kind (O : FrmOk G fr cx) {x : Str} (h : isGlobal cx x = true) : fr.env.kindOf x = some .globalImplicit := by
  rw [O.kindOf]; unfold isGlobal at h; split at h <;> first | assumption | (first | exact ff h | exact nn h | exact ns h | exact tf h | exact ln h | exact lc h | cases h)
theorem not_debug (O : FrmOk G fr cx) {x : Str} {k : NameKind} (h : fr.env.kindOf x = some k) : (x == ("__debug__" : Str)) = false := by
  rw [← eqS_eq, eqS_false]
  rintro rfl
  rw [O.kindOf, O.dbg] at h; (first | exact ff h | exact nn h | exact ns h | exact tf h | exact ln h | exact lc h | cases h)

theorem mapO_at {α β : Type} {f : α → Option β} {l : List α} : ∀ {r : List β}, mapO f l = some r → l.length = r.length ∧ ∀ (i : Nat) a b, l[i]? = some a → r[i]? = some b → f a = some b := by
  induction l with
  | nil =>
    intro r h
    obtain rfl := Option.some.inj h
    exact ⟨rfl, fun i a b h => nn h⟩
  | cons x l ih =>
    intro r
    show (match f x, mapO f l with | some y, some l => some (y :: l) | _, _ => none) = some r → _
    cases h1 : f x with
    | none => exact fun h => nn h
    | some y =>
      cases h2 : mapO f l with
      | none => exact fun h => nn h
      | some r' =>
        intro h
        obtain rfl := Option.some.inj h
        obtain ⟨e, k⟩ := ih h2
        refine ⟨congrArg (· + 1) e, fun i a b h3 h4 => ?_⟩
        cases i with
        | zero => rw [← Option.some.inj h3, ← Option.some.inj h4]; exact h1
        | succ i => exact k i a b h3 h4
theorem tupItems_is {o : Option Obj} {l : List Value} (h : tupItems o = some l) : ∃ n, o = some (tupObj l n) := by
  rcases o with _ | ⟨c, d, b, sl⟩
  · exact nn h
  cases c with
  | type t =>
    cases d with
    | none =>
      cases b with
      | seq items n =>
        revert h
        show (match decide (t = "tuple"), sl.toList with | true, [] => some items.toList | _, _ => none) = some l → _
        cases q : decide (t = "tuple") with
        | false => exact fun h => nn h
        | true =>
          rcases sl with ⟨_ | ⟨z, zs⟩⟩
          · intro h
            obtain rfl := of_decide_eq_true q
            obtain rfl := Option.some.inj h
            exact ⟨n, rfl⟩
          · exact fun h => nn h
      | _ => exact nn h
    | some _ => exact nn h
  | _ => exact nn h
theorem tupO_is {o : Option (List AV)} {x : AV} (h : tupO o = some x) : ∃ l, o = some l ∧ x = .tup l := by
  cases o with
  | none => exact nn h
  | some l => exact ⟨l, rfl, (Option.some.inj h).symm⟩
theorem litV_ref {K : Frag} {n : Nat} {a : Addr} {x : AV} (e : litV K (n + 1) (.ref a) = some x) : ∃ vs xs m, K.lookup a = some (tupObj vs m) ∧ mapO (litV K n) vs = some xs ∧ x = .tup xs := by
  revert e
  show (match tupItems (K.lookup a) with | some l => tupO (mapO (litV K n) l) | none => none) = some x → _
  cases q : tupItems (K.lookup a) with
  | none => exact fun e => nn e
  | some vs =>
    intro e
    obtain ⟨m, hm⟩ := tupItems_is q
    obtain ⟨xs, h1, h2⟩ := tupO_is e
    exact ⟨vs, xs, m, hm, h1, h2⟩
theorem litV_rep {K : Frag} {ρ : Rho} {ads : List Addr} {h : Heap} (X : K.In h) : ∀ (n : Nat) {v : Value} {x : AV}, litV K n v = some x → RepV ρ ads h v x := by
  intro n
  induction n with
  | zero => exact fun e => nn e
  | succ n ih =>
    intro v x e
    cases v with
    | none => obtain rfl := Option.some.inj e; exact .none
    | bool b => obtain rfl := Option.some.inj e; exact .bool b
    | int i t => obtain rfl := Option.some.inj e; exact .int i t
    | str y t => obtain rfl := Option.some.inj e; exact .str t (.head _)
    | ref a =>
      obtain ⟨vs, xs, m, h1, h2, rfl⟩ := litV_ref e
      obtain ⟨hlen, hat⟩ := mapO_at h2
      exact RepV.tup (X _ _ h1) hlen fun i v x h1 h2 => ih (hat i v x h1 h2)
    | _ => exact nn e
theorem globA_rep (O : FrmOk G fr cx) (S : Sim G.ρ fr kp st s ads) {id : Str} {x : AV} : globA G.cf id = some x → ∃ v, nsIn G.cf.K mainGlobals id = some (some v) ∧ RepV G.ρ ads s.heap v x := by
  unfold globA
  rcases hv : nsIn G.cf.K mainGlobals id with _ | _ | v
  · exact fun h => nn h
  · exact fun h => nn h
  · intro h
    obtain ⟨m, F, _⟩ := S.loc
    exact ⟨v, rfl, litV_rep (O.X.keeps F.keep) _ h⟩

theorem eName_is {cf : Cf} {id : Str} {k : KV} {cx : Cx} {st : St} : eName cf id k cx st = true → (isLocal cx id = true ∧ ∃ v, find id st.loc = some v ∧ k v st = true) ∨ (isGlobal cx id = true ∧ ∃ v, globA cf id = some v ∧ k v st = true) := by
  unfold eName
  cases isLocal cx id with
  | true =>
    cases find id st.loc with
    | none => exact fun h => ff h
    | some v => exact fun h => .inl ⟨rfl, v, rfl, h⟩
  | false =>
    cases isGlobal cx id with
    | false => exact fun h => ff h
    | true =>
      cases globA cf id with
      | none => exact fun h => ff h
      | some v => exact fun h => .inr ⟨rfl, v, rfl, h⟩
theorem e_name (O : FrmOk G fr cx) (S : Sim G.ρ fr kp st s ads) {id : Str} {pos : Pos} {k : KV} (h : eName G.cf id k cx st = true) :
    wpAny (model G.prog G.w) fr.A (eval (.Name id pos) fr.env) (Post G.ρ fr kp s ads k) (Exc G fr) s := by
  obtain ⟨m, F, hm⟩ := S.loc
  rcases eName_is h with ⟨hl, v, hv, h⟩ | ⟨hg, v, hv, h⟩
  · obtain ⟨u, hu, r⟩ := hm _ _ hv
    exact ld F hu (Post.now S r h) O.kind (local_kind O hl) (not_debug O (local_kind O hl))
  · obtain ⟨u, hu, r⟩ := globA_rep O S hv
    exact name_K F O.X O.T hu (Post.now S r h) O.kind (global_kind O hg) (not_debug O (global_kind O hg))

theorem e_const (S : Sim G.ρ fr kp st s ads) {c : Const} {a : Nat} {pos : Pos} {k : KV} (h : eConst c k st = true) :
    wpAny (model G.prog G.w) fr.A (eval (.Constant c a pos) fr.env) (Post G.ρ fr kp s ads k) (Exc G fr) s := by
  cases c with
  | none => exact Constant_none (Post.now S .none h)
  | bool b => exact Constant_bool (Post.now S (.bool _) h)
  | int i => exact wpAny_Constant_int (Post.here S (.int _ _) h _)
  | str x => exact wpAny_Constant_str (Post.here S (.str _ (.head _)) h _)
  | _ => exact ff h
theorem allStr_of {xs : List AV} : ∀ {l : List Str}, allStr xs = some l → xs = l.map fun x => .str [x] := by
  induction xs with
  | nil => intro l h; obtain rfl := Option.some.inj h; rfl
  | cons x r ih =>
    intro l h
    cases x with
    | str ss =>
      rcases ss with _ | ⟨y, _ | ⟨z, t⟩⟩
      · exact nn h
      · revert h
        show (match allStr r with | some l => some (y :: l) | none => none) = some l → _
        cases hl : allStr r with
        | none => exact fun h => nn h
        | some l' => intro h; rw [← Option.some.inj h, ih hl]; rfl
      · exact nn h
    | _ => exact nn h
theorem rep_strs {ρ : Rho} {ads : List Addr} {h : Heap} {vs : List Value} {l : List Str} (e : vs.length = (l.map fun x => AV.str [x]).length)
    (k : ∀ (i : Nat) v x, vs[i]? = some v → (l.map fun x => AV.str [x])[i]? = some x → RepV ρ ads h v x) : ∀ (i : Nat) v, vs[i]? = some v → ∃ x t, l[i]? = some x ∧ v = .str x t := by
  intro i v hv
  have hi : i < l.length := List.length_map (f := fun x => AV.str [x]) ▸ e ▸ (List.getElem?_eq_some_iff.mp hv).1
  have he := List.getElem?_eq_getElem hi
  obtain ⟨x, t, rfl, hx⟩ := (k i v (.str [l[i]]) hv (by rw [List.getElem?_map, he]; rfl)).str_inv
  exact ⟨x, t, by rw [he, List.mem_singleton.mp hx], rfl⟩
end
end Mine

namespace Mine
section
variable {G : Gl} {fr : Frm} {kp : Kp} {cx : Cx} {st : St} {s : Shared} {ads : List Addr}

theorem any_str {x : Str} {vs : List Value} {l : List Str} (hl : vs.length = l.length) (k : ∀ (i : Nat) v, vs[i]? = some v → ∃ x t, l[i]? = some x ∧ v = .str x t) :
    vs.toArray.any (isStrOf x) = inS x l := by
  have : ∀ (vs : List Value) (l : List Str), vs.length = l.length → (∀ (i : Nat) v, vs[i]? = some v → ∃ x t, l[i]? = some x ∧ v = .str x t) → vs.any (isStrOf x) = inS x l := by
    intro vs
    induction vs with
    | nil => intro l h _; cases l with
      | nil => rfl
      | cons _ _ => simp at h
    | cons v vs ih =>
      intro l h k
      cases l with
      | nil => simp at h
      | cons y l =>
        obtain ⟨z, u, h1, h2⟩ := k 0 v rfl
        simp at h1
        subst h1; subst h2
        have := ih l (by simpa using h) fun i v hv => by
          obtain ⟨z, u, h1, h2⟩ := k (i + 1) v (by simpa using hv)
          exact ⟨z, u, by simpa using h1, h2⟩
        rw [List.any_cons, this]
        show (y == x || inS x l) = (match eqS x y with | true => true | false => inS x l)
        rw [eqS_eq]
        by_cases h : x = y
        · subst h; simp
        · have h' : (x == y) = false := by simpa using h
          have h'' : (y == x) = false := by simpa using Ne.symm h
          rw [h', h'']; rfl
  rw [← this vs l hl k]
  simp

theorem eqA_el {P : AV → AV → Prop} {a b : AV} {c : Bool} (h : eqA a b = some c) (k1 : ∀ xs ys, sameOne xs ys = some c → P (.str xs) (.str ys)) (k2 : ∀ i j, intEq i j = c → P (.int i) (.int j)) : P a b := by
  cases a with
  | str xs => cases b with
    | str ys => exact k1 xs ys h
    | _ => exact nn h
  | int i => cases b with
    | int j => exact k2 i j (Option.some.inj h)
    | _ => exact nn h
  | _ => exact nn h
theorem ltA_el {P : AV → AV → Prop} {a b : AV} {c : Bool} (h : ltA a b = some c) (k : ∀ i j, intLt i j = c → P (.int i) (.int j)) : P a b := by
  cases a with
  | int i => cases b with
    | int j => exact k i j (Option.some.inj h)
    | _ => exact nn h
  | _ => exact nn h
theorem amidO_is {xs : List Str} {o : Option (List Str)} {c : Bool} (h : amidO xs o = some c) : ∃ l, o = some l ∧ amid xs l = some c := by
  cases o with
  | none => exact nn h
  | some l => exact ⟨l, rfl, h⟩
theorem inA_el {P : AV → AV → Prop} {a b : AV} {c : Bool} (h : inA a b = some c) (k : ∀ xs ys l, allStr ys = some l → amid xs l = some c → P (.str xs) (.tup ys)) : P a b := by
  cases a with
  | str xs => cases b with
    | tup ys =>
      obtain ⟨l, h1, h2⟩ := amidO_is h
      exact k xs ys l h1 h2
    | _ => exact nn h
  | _ => exact nn h
theorem isA_el {P : AV → AV → Prop} {a b : AV} {c : Bool} (h : isA a b = some c) (k1 : true = c → P .none .none) (k2 : ∀ xs, false = c → P (.tup xs) .none) (k3 : ∀ b, false = c → P (.bool b) .none) : P a b := by
  cases a with
  | none => cases b with
    | none => exact k1 (Option.some.inj h)
    | _ => exact nn h
  | tup xs => cases b with
    | none => exact k2 xs (Option.some.inj h)
    | _ => exact nn h
  | bool x => cases b with
    | none => exact k3 x (Option.some.inj h)
    | _ => exact nn h
  | _ => exact nn h
theorem notO_is {o : Option Bool} {c : Bool} (h : notO o = some c) : ∃ d, o = some d ∧ (!d) = c := by
  cases o with
  | none => exact nn h
  | some d => exact ⟨d, rfl, Option.some.inj h⟩
theorem eqA_find {u v : Value} {a b : AV} {c : Bool} (ra : RepV G.ρ ads s.heap u a) (rb : RepV G.ρ ads s.heap v b) (h : eqA a b = some c) :
    (∃ x t y t', u = .str x t ∧ v = .str y t' ∧ (x == y) = c) ∨ (∃ i t j t', u = .int i t ∧ v = .int j t' ∧ intEq i j = c) := by
  revert ra rb
  apply eqA_el h
  · intro xs ys h ra rb
    obtain ⟨x, t, rfl, hx⟩ := ra.str_inv
    obtain ⟨y, t', rfl, hy⟩ := rb.str_inv
    exact .inl ⟨x, t, y, t', rfl, rfl, sameOne_is h _ hx _ hy⟩
  · intro i j h ra rb
    obtain ⟨t, rfl⟩ := ra.int_inv
    obtain ⟨t', rfl⟩ := rb.int_inv
    exact .inr ⟨i, t, j, t', rfl, rfl, h⟩
theorem ltA_find {u v : Value} {a b : AV} {c : Bool} (ra : RepV G.ρ ads s.heap u a) (rb : RepV G.ρ ads s.heap v b) (h : ltA a b = some c) : ∃ i t j t', u = .int i t ∧ v = .int j t' ∧ intLt i j = c := by
  revert ra rb
  apply ltA_el h
  intro i j h ra rb
  obtain ⟨t, rfl⟩ := ra.int_inv
  obtain ⟨t', rfl⟩ := rb.int_inv
  exact ⟨i, t, j, t', rfl, rfl, h⟩
theorem isA_find {u v : Value} {a b : AV} {c : Bool} (ra : RepV G.ρ ads s.heap u a) (rb : RepV G.ρ ads s.heap v b) (h : isA a b = some c) : v = .none ∧ (u == .none) = c := by
  revert ra rb
  apply isA_el h
  · intro h ra rb
    rw [ra.none_inv, ← h]
    exact ⟨rb.none_inv, rfl⟩
  · intro xs h ra rb
    obtain ⟨_, _, _, rfl, _⟩ := ra.tup_inv
    exact ⟨rb.none_inv, h⟩
  · intro b h ra rb
    rw [ra.bool_inv, ← h]
    exact ⟨rb.none_inv, rfl⟩
theorem inA_find {u v : Value} {a b : AV} {c : Bool} (ra : RepV G.ρ ads s.heap u a) (rb : RepV G.ρ ads s.heap v b) (h : inA a b = some c) : ∃ x t T vs n, u = .str x t ∧ v = .ref T ∧ s.heap.get? T = some (tupObj vs n) ∧
    (∀ y ∈ vs.toArray, ∃ z t, y = .str z t) ∧ vs.toArray.any (isStrOf x) = c := by
  revert ra rb
  apply inA_el h
  intro xs ys l hl h ra rb
  obtain ⟨x, t, rfl, hx⟩ := ra.str_inv
  obtain ⟨T, vs, n, rfl, hT, hlen, hat⟩ := rb.tup_inv
  obtain rfl := allStr_of hl
  have hk := rep_strs hlen hat
  refine ⟨x, t, T, vs, n, rfl, rfl, hT, fun y hy => ?_, (any_str (hlen.trans (List.length_map _)) hk).trans (amid_true h x hx)⟩
  obtain ⟨i, hi⟩ := List.getElem?_of_mem (List.mem_toArray.mp hy)
  obtain ⟨z, u, _, rfl⟩ := hk i y hi
  exact ⟨z, u, rfl⟩
theorem cmp_rule {A : Around} {E : Value → Shared → Prop} {op : CmpOp} {u v : Value} {a b : AV} {c : Bool} (ra : RepV G.ρ ads s.heap u a) (rb : RepV G.ρ ads s.heap v b) (h : cmpA op a b = some c) :
    wpAny (model G.prog G.w) A (compareOp op u v) (fun y s' => y = .bool c ∧ s' = s) E s := by
  refine wpAny_abs fun Q hQ => ?_
  have hQ := hQ (.bool c) s ⟨rfl, rfl⟩
  revert h
  cases op with
  | Eq =>
    intro (h : eqA a b = some c)
    rcases eqA_find ra rb h with ⟨x, t, y, t', rfl, rfl, rfl⟩ | ⟨i, t, j, t', rfl, rfl, rfl⟩
    · exact eq_str hQ
    · exact PyProof.Rows.eq_int hQ
  | NotEq =>
    intro (h : notO (eqA a b) = some c)
    obtain ⟨d, h', rfl⟩ := notO_is h
    rcases eqA_find ra rb h' with ⟨x, t, y, t', rfl, rfl, rfl⟩ | ⟨i, t, j, t', rfl, rfl, rfl⟩
    · exact ne_str hQ
    · exact PyProof.Rows.ne_int hQ
  | Lt =>
    intro (h : ltA a b = some c)
    obtain ⟨i, t, j, t', rfl, rfl, rfl⟩ := ltA_find ra rb h
    exact PyProof.Rows.lt_int hQ
  | In =>
    intro (h : inA a b = some c)
    obtain ⟨x, t, T, vs, n, rfl, rfl, hT, hk, rfl⟩ := inA_find ra rb h
    refine SeqRoads2.in_tuple (isStrOf x) (fun y hy => ?_) hT hQ
    obtain ⟨z, u, rfl⟩ := hk y hy
    exact PyProof.Rows.eqGives_str z x u t
  | NotIn =>
    intro (h : notO (inA a b) = some c)
    obtain ⟨d, h', rfl⟩ := notO_is h
    obtain ⟨x, t, T, vs, n, rfl, rfl, hT, hk, rfl⟩ := inA_find ra rb h'
    refine SeqRoads2.notIn_tuple (isStrOf x) (fun y hy => ?_) hT hQ
    obtain ⟨z, u, rfl⟩ := hk y hy
    exact PyProof.Rows.eqGives_str z x u t
  | Is =>
    intro (h : isA a b = some c)
    obtain ⟨rfl, rfl⟩ := isA_find ra rb h
    exact is_none_gen hQ
  | IsNot =>
    intro (h : notO (isA a b) = some c)
    obtain ⟨d, h', rfl⟩ := notO_is h
    obtain ⟨rfl, rfl⟩ := isA_find ra rb h'
    exact isnot_none_gen hQ
  | _ => exact fun h => nn h

theorem truth_rule {A : Around} {E : Value → Shared → Prop} {v : Value} {x : AV} {c : Bool} (r : RepV G.ρ ads s.heap v x) (h : truth x = some c) :
    wpAny (model G.prog G.w) A (truthy v) (fun y s' => y = c ∧ ∃ tk, s' = { s with toks := tk }) E s := by
  cases x with
  | none =>
    rw [r.none_inv, ← Option.some.inj h]
    exact PyProof.Rows.truthy_none ⟨rfl, s.toks, rfl⟩
  | bool b =>
    rw [r.bool_inv, ← Option.some.inj h]
    exact wpAny_truthy_bool ⟨rfl, s.toks, rfl⟩
  | _ => exact nn h
end
end Mine

namespace Mine
section
variable {G : Gl} {fr : Frm} {kp : Kp} {cx : Cx} {st : St} {s : Shared} {ads : List Addr} {n : Nat}

theorem e_cmp (H : Snd G n) (O : FrmOk G fr cx) (S : Sim G.ρ fr kp st s ads) {l : Expr} {ops : List CmpOp} {rs : List Expr} {pos : Pos} {k : KV} (h : eCmp (run G.cf n) l ops rs k cx st = true) :
    wpAny (model G.prog G.w) fr.A (eval (.Compare l ops rs pos) fr.env) (Post G.ρ fr kp s ads k) (Exc G fr) s := by
  apply one_el h
  intro op h
  apply one_el h
  intro r h
  refine and_el h fun hm h => ?_
  refine wpAny_Compare1 (e_then H h O S fun a s₁ xa st₁ ads₁ ra S₁ l₁ h₁ => ?_) (not_b hm)
  refine e_then H h₁ O S₁ fun b s₂ xb st₂ ads₂ rb S₂ l₂ h₂ => ?_
  refine onS_el h₂ fun c hc h₂ => ?_
  refine wpAny_mono (cmp_rule (ra.mono l₂) rb hc) (fun y s' e => ?_) fun _ _ e => e
  rw [e.1, e.2]
  exact (Post.now S₂ (.bool c) h₂).later (l₁.trans l₂)

theorem truth_then {A : Around} {E : Value → Shared → Prop} {v : Value} {x : AV} {c : Bool} {Q : Bool → Shared → Prop} (r : RepV G.ρ ads s.heap v x) (h : truth x = some c) (q : ∀ tk, Q c { s with toks := tk }) : wpAny (model G.prog G.w) A (truthy v) Q E s :=
  wpAny_mono (truth_rule r h) (fun y s' p => by obtain ⟨rfl, tk, rfl⟩ := p; exact q tk) fun _ _ e => e
theorem e_bool (H : Snd G n) (O : FrmOk G fr cx) (S : Sim G.ρ fr kp st s ads) {op : BoolOp} {es : List Expr} {pos : Pos} {k : KV} (h : eBool (run G.cf n) op es pos k cx st = true) :
    wpAny (model G.prog G.w) fr.A (eval (.BoolOp op es pos) fr.env) (Post G.ρ fr kp s ads k) (Exc G fr) s := by
  rcases es with _ | ⟨e₁, _ | ⟨e₂, rest⟩⟩
  · exact ff h
  · exact BoolOp_one (H.e h O S)
  · cases op with
    | And =>
      refine BoolOp_and (e_then H h O S fun v s₁ x st₁ ads₁ r S₁ l₁ h₁ => ?_)
      refine onS_el h₁ fun c ht h₁ => ?_
      refine truth_then r ht fun tk => ?_
      cases c with
      | true => exact e_back H h₁ O (S₁.toks tk) l₁
      | false => exact (Post.here S₁ r h₁ tk).later l₁
    | Or =>
      refine BoolOp_or (e_then H h O S fun v s₁ x st₁ ads₁ r S₁ l₁ h₁ => ?_)
      refine onS_el h₁ fun c ht h₁ => ?_
      refine truth_then r ht fun tk => ?_
      cases c with
      | true => exact (Post.here S₁ r h₁ tk).later l₁
      | false => exact e_back H h₁ O (S₁.toks tk) l₁

theorem e_un (H : Snd G n) (O : FrmOk G fr cx) (S : Sim G.ρ fr kp st s ads) {op : UnaryOp} {e : Expr} {pos : Pos} {k : KV} (h : run G.cf n (.e e fun v st => kUn op k v st) cx st = true) :
    wpAny (model G.prog G.w) fr.A (eval (.UnaryOp op e pos) fr.env) (Post G.ρ fr kp s ads k) (Exc G fr) s := by
  refine UnaryOp_ (e_then H h O S fun v s₁ x st₁ ads₁ r S₁ l₁ h₁ => ?_)
  cases op with
  | Not => exact onS_el (o := truth x) h₁ fun c hc h₁ => not_of (truth_then r hc fun tk => (Post.here S₁ (.bool _) h₁ tk).later l₁)
  | USub =>
    replace h₁ : intS x (fun i => k (.int (-i)) st₁) = true := h₁
    apply R_int r h₁
    exact fun i t h₁ => PyProof.Rows.neg_int ((Post.here S₁ (.int _ _) h₁ _).later l₁)
  | _ => exact ff h₁
theorem e_if (H : Snd G n) (O : FrmOk G fr cx) (S : Sim G.ρ fr kp st s ads) {t b o : Expr} {pos : Pos} {k : KV} (h : eIf (run G.cf n) t b o k cx st = true) :
    wpAny (model G.prog G.w) fr.A (eval (.IfExp t b o pos) fr.env) (Post G.ρ fr kp s ads k) (Exc G fr) s := by
  refine IfExp_ (t_then H h O S fun c s₁ st₁ ads₁ S₁ l₁ h₁ => ?_)
  cases c with
  | true => exact e_back H h₁ O S₁ l₁
  | false => exact e_back H h₁ O S₁ l₁
theorem size_ok {vs : List Value} {k : Nat} (h : vs.length = k) (hb : Nat.ble k 1000 = true) : vs.length ≤ sizeLine := by
  have := Nat.le_of_ble_eq_true hb
  rw [sizeLine_eq]; omega
theorem size_arr {vs : List Value} {k : Nat} (h : vs.length = k) (hb : Nat.ble k 1000 = true) : vs.toArray.size ≤ sizeLine := by
  rw [List.size_toArray]; exact size_ok h hb

theorem e_tup (H : Snd G n) (O : FrmOk G fr cx) (S : Sim G.ρ fr kp st s ads) {es : List Expr} {a : Nat} {pos : Pos} {k : KV} (h : eTup (run G.cf n) es k cx st = true) :
    wpAny (model G.prog G.w) fr.A (eval (.Tuple es a pos) fr.env) (Post G.ρ fr kp s ads k) (Exc G fr) s := by
  refine and_el h fun hs h => ?_
  refine Tuple_ (as_then H h hs O S fun vs s₁ xs st₁ ads₁ r S₁ l₁ h₁ => ?_)
  refine and_el h₁ fun hb h₁ => ?_
  have hk : ∀ b o, s₁.heap.get? b = some o → (s₁.heap.push (tupObj vs 0)).get? b = some o := fun b o e => Heap.get?_push_of_some _ e
  refine wpAny_newObj_type (T := "tuple") (data := .seq vs.toArray) (dict := none) ?_ (size_arr r.length hb)
  exact ⟨.tup xs, st₁, ads₁, .tup (n := 0) (Heap.get?_push_size _ rfl) r.length fun i v x h1 h2 => (r.at i v x h1 h2).mono (Later.ext hk), S₁.ext (tk := s₁.toks) hk, l₁.trans (Later.ext hk), h₁⟩

theorem e_list (H : Snd G n) (O : FrmOk G fr cx) (S : Sim G.ρ fr kp st s ads) {es : List Expr} {pos : Pos} {k : KV} (h : eList (run G.cf n) es k cx st = true) :
    wpAny (model G.prog G.w) fr.A (eval (.List es pos) fr.env) (Post G.ρ fr kp s ads k) (Exc G fr) s := by
  refine and_el h fun hs h => ?_
  refine List_ (as_then H h hs O S fun vs s₁ xs st₁ ads₁ r S₁ l₁ h₁ => ?_)
  refine and_el h₁ fun _ h₁ => and_el h₁ fun hb h₁ => ?_
  have hk : ∀ b o, s₁.heap.get? b = some o → (s₁.heap.push (listObj vs 0)).get? b = some o := fun b o e => Heap.get?_push_of_some _ e
  refine wpAny_newObj_type (T := "list") (data := .seq vs.toArray) (dict := none) ?_ (size_arr r.length hb)
  obtain ⟨S₂, l₂, r₂⟩ := S₁.newL (tk := s₁.toks) r.items hk (Heap.get?_push_size s₁.heap rfl) (Heap.get?_none_of_le (Nat.le_refl _))
  exact ⟨_, _, _, r₂, S₂, l₁.trans l₂, h₁⟩

theorem no_star {e : Expr} {r : List Expr} (hs : noStar (e :: r) = true) : isStar e = false ∧ noStar r = true := by
  revert hs
  show (match isStar e with | true => false | false => noStar r) = true → _
  cases isStar e with
  | true => exact fun h => ff h
  | false => exact fun h => ⟨rfl, h⟩
theorem star_is {e : Expr} {r : List Expr} {env : Env} (h : isStar e = false) : starEach (e :: r) env = (false, eval e env) :: starEach r env := by
  cases e with
  | Starred _ _ => exact tf h
  | _ => rfl
theorem as_rule (H : Snd G n) (O : FrmOk G fr cx) (S : Sim G.ρ fr kp st s ads) {xs : List Expr} {pos : Pos} {k : List AV → St → Bool} (h : stAs (run G.cf n) xs k cx st = true) (hs : noStar xs = true) :
    wpAny (model G.prog G.w) fr.A (spliced (backTo pos (starEach xs fr.env))) (PostL G.ρ fr kp s ads k) (Exc G fr) s := by
  cases xs with
  | nil => exact args_nil ⟨[], st, ads, .nil, S, Later.refl _ _, h⟩
  | cons e r =>
    obtain ⟨he, hs⟩ := no_star hs
    refine args_cons (e_then H h O S fun v s₁ x st₁ ads₁ ra S₁ l₁ h₁ => ?_) (star_is he)
    refine as_then H h₁ hs O S₁ fun vs s₂ ys st₂ ads₂ rs S₂ l₂ h₂ => ?_
    exact ⟨x :: ys, st₂, ads₂, .cons (ra.mono l₂) rs, S₂, l₁.trans l₂, h₂⟩
end
end Mine

namespace Mine
section
variable {G : Gl} {fr : Frm} {kp : Kp} {cx : Cx} {st : St} {s : Shared} {ads : List Addr} {n : Nat}

theorem t_back {x : Expr} {k : KB} {s₀ : Shared} {ads₀ : List Addr} (H : Snd G n) (h : run G.cf n (.t x k) cx st = true) (O : FrmOk G fr cx) (S : Sim G.ρ fr kp st s ads) (l : Later ads₀ s₀.heap ads s.heap) :
    wpAny (model G.prog G.w) fr.A (isTrue x fr.env (eval x fr.env)) (PostB G.ρ fr kp s₀ ads₀ k) (Exc G fr) s :=
  wpAny_mono (H.t h O S) (fun _ _ p => p.later l) fun _ _ e => e
theorem ss_back {xs : List Stmt} {k : KF} {s₀ : Shared} {ads₀ : List Addr} (H : Snd G n) (h : run G.cf n (.ss xs k) cx st = true) (O : FrmOk G fr cx) (S : Sim G.ρ fr kp st s ads) (l : Later ads₀ s₀.heap ads s.heap) :
    wpAny (model G.prog G.w) fr.A (execs xs fr.env) (PostF G.ρ fr kp s₀ ads₀ k) (Exc G fr) s :=
  wpAny_mono (H.ss h O S) (fun _ _ p => p.later l) fun _ _ e => e
theorem t_plain (H : Snd G n) (O : FrmOk G fr cx) (S : Sim G.ρ fr kp st s ads) {x : Expr} {k : KB} (h : tPlain (run G.cf n) x k cx st = true)
    (he : isTrue x fr.env (eval x fr.env) = (do let v ← eval x fr.env; standAt x.pos; holding [v] (truthy v))) :
    wpAny (model G.prog G.w) fr.A (isTrue x fr.env (eval x fr.env)) (PostB G.ρ fr kp s ads k) (Exc G fr) s := by
  refine isTrue_plain (e_then H h O S fun v s₁ y st₁ ads₁ r S₁ l₁ h₁ => ?_) he
  exact onS_el h₁ fun c hc h₁ => truth_then r hc fun tk => ⟨st₁, ads₁, S₁.toks tk, l₁, h₁⟩

theorem t_bool (H : Snd G n) (O : FrmOk G fr cx) (S : Sim G.ρ fr kp st s ads) {op : BoolOp} {es : List Expr} {pos : Pos} {k : KB} (h : stT (run G.cf n) (.BoolOp op es pos) k cx st = true) :
    wpAny (model G.prog G.w) fr.A (isTrue (.BoolOp op es pos) fr.env (eval (.BoolOp op es pos) fr.env)) (PostB G.ρ fr kp s ads k) (Exc G fr) s := by
  cases op with
  | And =>
    cases es with
    | nil => exact isTrue_and_nil ⟨st, ads, S, Later.refl _ _, h⟩
    | cons e r =>
      refine isTrue_and (t_then H h O S fun c s₁ st₁ ads₁ S₁ l₁ h₁ => ?_)
      cases c with
      | true => exact t_back H h₁ O S₁ l₁
      | false => exact ⟨st₁, ads₁, S₁, l₁, h₁⟩
  | Or =>
    cases es with
    | nil => exact isTrue_or_nil ⟨st, ads, S, Later.refl _ _, h⟩
    | cons e r =>
      refine isTrue_or (t_then H h O S fun c s₁ st₁ ads₁ S₁ l₁ h₁ => ?_)
      cases c with
      | true => exact ⟨st₁, ads₁, S₁, l₁, h₁⟩
      | false => exact t_back H h₁ O S₁ l₁
theorem t_cmp (H : Snd G n) (O : FrmOk G fr cx) (S : Sim G.ρ fr kp st s ads) {l : Expr} {ops : List CmpOp} {rs : List Expr} {pos : Pos} {k : KB} (h : tCmp (run G.cf n) l ops rs k cx st = true) :
    wpAny (model G.prog G.w) fr.A (isTrue (.Compare l ops rs pos) fr.env (eval (.Compare l ops rs pos) fr.env)) (PostB G.ρ fr kp s ads k) (Exc G fr) s := by
  apply one_el h
  intro op h
  apply one_el h
  intro r h
  refine and_el h fun hm h => ?_
  refine wpAny_isTrue_Compare1 (e_then H h O S fun a s₁ xa st₁ ads₁ ra S₁ l₁ h₁ => ?_) (not_b hm)
  refine e_then H h₁ O S₁ fun b s₂ xb st₂ ads₂ rb S₂ l₂ h₂ => ?_
  refine onS_el h₂ fun c hc h₂ => ?_
  refine wpAny_mono (cmp_rule (ra.mono l₂) rb hc) (fun y s' e => ?_) fun _ _ e => e
  rw [e.1, e.2]
  exact wpAny_truthy_bool ⟨st₂, ads₂, S₂, l₁.trans l₂, h₂⟩
theorem t_rule (H : Snd G n) (O : FrmOk G fr cx) (S : Sim G.ρ fr kp st s ads) {x : Expr} {k : KB} (h : stT (run G.cf n) x k cx st = true) :
    wpAny (model G.prog G.w) fr.A (isTrue x fr.env (eval x fr.env)) (PostB G.ρ fr kp s ads k) (Exc G fr) s := by
  cases x with
  | UnaryOp op e pos => cases op with
    | Not => exact isTrue_not (wpAny_mono (H.t h O S) (fun c s₁ h₁ => h₁) fun _ _ e => e)
    | _ => exact ff h
  | BoolOp op es pos => exact t_bool H O S h
  | Compare l ops rs pos => exact t_cmp H O S h
  | Name i p => exact t_plain H O S h rfl
  | Constant c a p => exact t_plain H O S h rfl
  | Call f as ks p => exact t_plain H O S h rfl
  | _ => exact ff h

theorem no_swap {v : Expr} {t : Option Expr} {l : Nat} {env : Env} (h : isComp v = false) : swapsWith v t l env = pure false := by
  cases v <;> first | exact rfl | exact tf h
theorem no_inter (O : FrmOk G fr cx) : interactive fr.env = false := by
  unfold interactive
  show (fr.scope.kind == .module && _) = false
  rw [O.kind]; rfl
theorem store_rule (O : FrmOk G fr cx) (S : Sim G.ρ fr kp st s ads) {y : Str} {u : Value} {v : AV} (r : RepV G.ρ ads s.heap u v) (hl : isLocal cx y = true) {E : Value → Shared → Prop} :
    wpAny (model G.prog G.w) fr.A (storeName fr.env y u) (fun _ s' => Sim G.ρ fr kp ⟨put y v st.loc, st.lists, st.ws⟩ s' ads ∧ Later ads s.heap ads s'.heap) E s := by
  obtain ⟨m, F, hm⟩ := S.loc
  exact wpAny_storeName_local (local_kind O hl) F.ns (fun h' hn hs => S.store r F hm hn hs) (by show (fr.scope.kind == .class || (fr.scope.kind == .module && _)) = false; rw [O.kind]; rfl)

theorem s_expr (H : Snd G n) (O : FrmOk G fr cx) (S : Sim G.ρ fr kp st s ads) {e : Expr} {pos : Pos} {k : KF} (h : sExpr (run G.cf n) e k cx st = true) :
    wpAny (model G.prog G.w) fr.A (exec (.Expr e pos) fr.env) (PostF G.ρ fr kp s ads k) (Exc G fr) s := by
  refine and_el h fun hc h => ?_
  refine wpAny_Expr_any (e_then H h O S fun v s₁ x st₁ ads₁ r S₁ l₁ h₁ => ?_) (no_inter O) (no_swap (not_b hc))
  exact ⟨.next, st₁, ads₁, .next, S₁, l₁, h₁⟩

theorem s_name (H : Snd G n) (O : FrmOk G fr cx) (S : Sim G.ρ fr kp st s ads) {x : Str} {p pos : Pos} {e : Expr} {k : KF} (hc : isComp e = false) (h : sName (run G.cf n) x e k cx st = true) :
    wpAny (model G.prog G.w) fr.A (exec (.Assign [.Name x p] e pos) fr.env) (PostF G.ρ fr kp s ads k) (Exc G fr) s := by
  refine and_el h fun hl h => ?_
  refine wpAny_Assign_Name (e_then H h O S fun v s₁ y st₁ ads₁ r S₁ l₁ h₁ => ?_) (no_swap hc)
  exact wpAny_mono (store_rule O S₁ r hl) (fun _ s' e => ⟨.next, _, ads₁, .next, e.1, l₁.trans e.2, h₁⟩) fun _ _ e => e
theorem s_ret (H : Snd G n) (O : FrmOk G fr cx) (S : Sim G.ρ fr kp st s ads) {v : Option Expr} {pos : Pos} {k : KF}
    (h : (match v with | none => k (.ret .none) st | some e => run G.cf n (.e e fun v st => k (.ret v) st) cx st) = true) :
    wpAny (model G.prog G.w) fr.A (exec (.Return v pos) fr.env) (PostF G.ρ fr kp s ads k) (Exc G fr) s := by
  cases v with
  | none => exact wpAny_Return_none ⟨.ret .none, st, ads, .ret .none, S, Later.refl _ _, h⟩
  | some e => exact wpAny_Return_some (e_then H h O S fun v s₁ y st₁ ads₁ r S₁ l₁ h₁ => ⟨.ret y, st₁, ads₁, .ret r, S₁, l₁, h₁⟩)

theorem s_if (H : Snd G n) (O : FrmOk G fr cx) (S : Sim G.ρ fr kp st s ads) {t : Expr} {b o : List Stmt} {pos : Pos} {k : KF} (h : sIf (run G.cf n) t b o k cx st = true) :
    wpAny (model G.prog G.w) fr.A (exec (.If t b o pos) fr.env) (PostF G.ρ fr kp s ads k) (Exc G fr) s := by
  refine wpAny_If (t_then H h O S fun c s₁ st₁ ads₁ S₁ l₁ h₁ => ?_)
  cases c with
  | true => exact ss_back H h₁ O S₁ l₁
  | false => exact ss_back H h₁ O S₁ l₁

theorem RepF.inv {ρ : Rho} {ads : List Addr} {h : Heap} {f : Flow} {x : Fl} (r : RepF ρ ads h f x) : Fl.rec (motive := fun _ => Prop) (f = .next) (f = .brk) (fun x => ∃ v, f = .ret v ∧ RepV ρ ads h v x) x := by
  induction r with
  | next => exact rfl
  | brk => exact rfl
  | ret r => exact ⟨_, rfl, r⟩
theorem ss_rule (H : Snd G n) (O : FrmOk G fr cx) (S : Sim G.ρ fr kp st s ads) {xs : List Stmt} {k : KF} (h : stSs (run G.cf n) xs k cx st = true) :
    wpAny (model G.prog G.w) fr.A (execs xs fr.env) (PostF G.ρ fr kp s ads k) (Exc G fr) s := by
  cases xs with
  | nil => exact wpAny_execs_nil ⟨.next, st, ads, .next, S, Later.refl _ _, h⟩
  | cons x xs =>
    refine wpAny_execs_cons (s_then H h O S fun f s₁ y st₁ ads₁ r S₁ l₁ h₁ => ?_)
    cases y with
    | next => cases r.inv; exact ss_back H h₁ O S₁ l₁
    | brk => cases r.inv; exact ⟨.brk, st₁, ads₁, .brk, S₁, l₁, h₁⟩
    | ret v =>
      obtain ⟨u, rfl, r'⟩ := r.inv
      exact ⟨.ret _, st₁, ads₁, .ret r', S₁, l₁, h₁⟩
end
end Mine

namespace Mine
section
variable {G : Gl} {fr : Frm} {kp : Kp} {cx : Cx} {st : St} {s : Shared} {ads : List Addr} {n : Nat}

theorem nth_eq {α : Type} : ∀ (l : List α) (n : Nat), nth l n = l[n]?
  | [], _ => rfl
  | _ :: _, 0 => rfl
  | _ :: r, n + 1 => nth_eq r n
theorem seqIndex_nat {n len : Nat} (h : n < len) : seqIndex? (n : Int) len = some n := by
  unfold seqIndex?
  first
  | (simp [h]; done)
  | (split <;> simp_all <;> omega)

/-- a list of the table -/
theorem list_at (S : Sim G.ρ fr kp st s ads) {i : Nat} {a : Addr} {xs : List AV} (ha : ads[i]? = some a) (h : nth st.lists i = some xs) :
    ∃ vs ep, s.heap.get? a = some (listObj vs ep) ∧ Items G.ρ ads s.heap vs xs := by
  rw [nth_eq] at h
  exact S.lists.2 i a xs ha h

theorem list_of (S : Sim G.ρ fr kp st s ads) {i : Nat} {u : Value} {xs : List AV} (r : RepV G.ρ ads s.heap u (.lst i)) (h : nth st.lists i = some xs) : ∃ a vs ep, u = .ref a ∧ s.heap.get? a = some (listObj vs ep) ∧ Items G.ρ ads s.heap vs xs := by
  obtain ⟨a, ha, rfl⟩ := r.lst_inv
  obtain ⟨vs, ep, h1, h2⟩ := list_at S ha h
  exact ⟨a, vs, ep, rfl, h1, h2⟩
theorem natO_R {ρ : Rho} {ads : List Addr} {h : Heap} {v : Value} {x c : AV} {f : Nat → Option AV} (r : RepV ρ ads h v x) (hf : natO x f = some c) : ∃ (n : Nat) (t : PySem.Tok), v = .int n t ∧ f n = some c := by
  cases x with
  | int i =>
    obtain ⟨t, rfl⟩ := r.int_inv
    cases i with
    | ofNat n => exact ⟨n, t, rfl, hf⟩
    | negSucc n => exact nn hf
  | _ => exact nn hf
theorem idx_find (S : Sim G.ρ fr kp st s ads) {u v : Value} {a b c : AV} (ra : RepV G.ρ ads s.heap u a) (rb : RepV G.ρ ads s.heap v b) (hc : itemOf st a b = some c) :
    ∃ T l ep j t x, u = .ref T ∧ v = .int (j : Nat) t ∧ j ≤ 1000 ∧ l[j]? = some x ∧ RepV G.ρ ads s.heap x c ∧ (s.heap.get? T = some (tupObj l ep) ∨ s.heap.get? T = some (listObj l ep)) := by
  cases a with
  | tup xs =>
    obtain ⟨j, t, rfl, hc⟩ := natO_R rb hc
    obtain ⟨hb, hc⟩ := gd_is hc
    obtain ⟨T, vs, ep, rfl, hT, hlen, hat⟩ := ra.tup_inv
    rw [nth_eq] at hc
    have hj := List.getElem?_eq_getElem (hlen ▸ (List.getElem?_eq_some_iff.mp hc).1)
    exact ⟨T, vs, ep, j, t, _, rfl, rfl, Nat.le_of_ble_eq_true hb, hj, hat j _ _ hj hc, .inl hT⟩
  | lst l =>
    obtain ⟨j, t, rfl, hc⟩ := natO_R rb hc
    obtain ⟨xs, hxs, hc⟩ := onO_is hc
    obtain ⟨hb, hc⟩ := gd_is hc
    obtain ⟨hp, hb⟩ := and_b hb
    obtain ⟨a, vs, ep, rfl, hl, it⟩ := list_of S ra hxs
    have r := it.plain hp
    rw [nth_eq] at hc
    have hj := List.getElem?_eq_getElem (r.length.symm ▸ (List.getElem?_eq_some_iff.mp hc).1)
    exact ⟨a, vs, ep, j, t, _, rfl, rfl, Nat.le_of_ble_eq_true hb, hj, r.at j _ _ hj hc, .inr hl⟩
  | _ => exact nn hc

theorem subs_idx {i : Expr} (hi : isSl i = false) (o u : Value) : subscripted i false o u = operate [o, u] (getItem o u) := by
  cases i <;> first | exact rfl | exact tf hi
theorem e_idx (H : Snd G n) (O : FrmOk G fr cx) (S : Sim G.ρ fr kp st s ads) {v i : Expr} {pos : Pos} {k : KV} (hi : isSl i = false)
    (h : run G.cf n (.e v fun a st => run G.cf n (.e i fun b st => kItem k a b st) cx st) cx st = true) :
    wpAny (model G.prog G.w) fr.A (eval (.Subscript v i pos) fr.env) (Post G.ρ fr kp s ads k) (Exc G fr) s := by
  refine Subscript_ (e_then H h O S fun a s₁ xa st₁ ads₁ ra S₁ l₁ h₁ => ?_)
  refine e_then H h₁ O S₁ fun b s₂ xb st₂ ads₂ rb S₂ l₂ h₂ => ?_
  refine onS_el h₂ fun c hc h₂ => ?_
  obtain ⟨T, l, ep, j, t, x, rfl, rfl, hj, hx, rx, hT⟩ := idx_find S₂ (ra.mono l₂) rb hc
  have hj' := (List.getElem?_eq_some_iff.mp hx).1
  have P := (Post.now S₂ rx h₂).later (l₁.trans l₂)
  have j0 : (0 : Int) ≤ j := Int.natCast_nonneg j
  have j1 : (j : Int) < 1001 := Int.ofNat_lt.mpr (Nat.lt_succ_of_le hj)
  clear hc h₂ ra rb h₁ h S S₁ S₂ rx l₁ l₂ hj
  rcases hT with hT | hT
  · exact item_tupleT (l := l) (k := (j : Int)) (x := x) ⟨_, hT, rfl, ep, rfl⟩ (by omega) (by omega) (seqIndex_nat hj') hx P (subs_idx hi _ _)
  · have hil : s₂.heap.IsList T l.toArray := ⟨_, hT, rfl, ep, rfl⟩
    exact tail_any hil.typeIs PySem.slot_list_getitem.lookup (wpAny_getItem_list (k := (j : Int)) (x := x) hil (by omega) (by omega) (by simp [hx]) P) (subs_idx hi _ _)
end
end Mine

namespace Mine
section
variable {G : Gl} {fr : Frm} {kp : Kp} {cx : Cx} {st : St} {s : Shared} {ads : List Addr} {n : Nat}

theorem strip_made (t u : PySem.Tok) : sliceMade (Str.ofString "+=") t none (some (-1, u)) none = .str (Str.ofString "+") := by
  have h1 : slicePicked (Str.ofString "+=") none (some (-1, u)) none = [0] := by
    unfold slicePicked
    kernel_rfl
  unfold sliceMade
  rw [h1]
  rfl

theorem e_strip (H : Snd G n) (O : FrmOk G fr cx) (S : Sim G.ρ fr kp st s ads) {v i : Expr} {pos p : Pos} {a : Nat} {b c : Pos} {k : KV} (hi : i = .Slice none (some (.UnaryOp .USub (.Constant (.int 1) a b) c)) none p)
    (h : run G.cf n (.e v fun a st => kStrip k a st) cx st = true) :
    wpAny (model G.prog G.w) fr.A (eval (.Subscript v i pos) fr.env) (Post G.ρ fr kp s ads k) (Exc G fr) s := by
  subst hi
  refine Subscript_ (e_then H h O S fun o s₁ x st₁ ads₁ r S₁ l₁ h₁ => ?_)
  replace h₁ : strS x (fun ss => one ss fun x => eqS x (Str.ofString "+=") && k .any st₁) = true := h₁
  apply R_str1 r h₁
  intro y t h₁
  obtain ⟨hy, h₁⟩ := and_b h₁
  rw [eqS_iff.mp hy]
  refine wpAny_Slice ?_
  rw [evalPart_none, evalPart_some]
  refine wpAny_pure ?_
  refine UnaryOp_ (wpAny_Constant_int (PyProof.Rows.neg_int ?_))
  refine wpAny_pure ?_
  refine tail_any (ops := [.ref s₁.heap.objs.size, .str (Str.ofString "+=") t]) (typeIs_str _ _ t) F.slot_str_getitem.lookup (wpAny_getItem_str_slice (l := none) (u := some (-1, s₁.toks + 1)) (st := none) ⟨_, Heap.get?_push_size _ rfl, rfl, rfl⟩ rfl ?_) rfl
  rw [strip_made]
  have hk : ∀ (o : Obj) b o', s₁.heap.get? b = some o' → (s₁.heap.push o).get? b = some o' := fun o b o' e => Heap.get?_push_of_some _ e
  exact ⟨by decide +kernel, ⟨.any, st₁, ads₁, .any _, S₁.ext (hk _), l₁.trans (Later.ext (hk _)), h₁⟩⟩
end
end Mine

namespace Mine
section
variable {G : Gl} {fr : Frm} {kp : Kp} {cx : Cx} {st : St} {s : Shared} {ads : List Addr} {n : Nat}

theorem wt_cons (x : AV) (r : List AV) : wt r + 1 ≤ wt (x :: r) := by
  cases x with
  | inner => exact Nat.add_le_add_left (by decide) _
  | _ => exact Nat.le_refl _
theorem Items.len {ρ : Rho} {ads : List Addr} {h : Heap} {vs : List Value} {xs : List AV} (r : Items ρ ads h vs xs) (hi : ρ.ivs.length ≤ 1000) : vs.length ≤ wt xs := by
  induction r with
  | nil => exact Nat.le_refl _
  | cons q _ ih => exact Nat.le_trans (Nat.succ_le_succ ih) (wt_cons _ _)
  | inner _ ih => rw [List.length_append, Nat.add_comm]; exact Nat.add_le_add ih hi
theorem fits_size {ρ : Rho} {ads : List Addr} {h : Heap} {vs : List Value} {xs : List AV} (r : Items ρ ads h vs xs) (hi : ρ.ivs.length ≤ 1000) (hf : fits xs = true) : vs.length ≤ 1000000 :=
  Nat.le_trans (r.len hi) (Nat.le_of_ble_eq_true hf)
theorem line_of {k : Nat} (h : k ≤ 1000000) : k ≤ sizeLine := by rw [sizeLine_eq]; omega

theorem takeP_items {ρ : Rho} {ads : List Addr} {h : Heap} {n : Nat} : ∀ {vs : List Value} {xs ys : List AV}, Items ρ ads h vs xs → takeP n xs = some ys →
    n ≤ vs.length ∧ Items ρ ads h (vs.take n) ys ∧ Items ρ ads h (vs.drop n) (xs.drop n) := by
  induction n with
  | zero =>
    intro vs xs ys r e
    rw [← Option.some.inj e]
    exact ⟨Nat.zero_le _, .nil, r⟩
  | succ n ih =>
    intro vs xs ys r
    induction r with
    | nil => exact fun e => nn e
    | @cons v x vs xs q r _ =>
      intro e
      refine gd_el e fun _ e => onO_el e fun l hl e => ?_
      rw [← Option.some.inj e]
      obtain ⟨h1, h2, h3⟩ := ih r hl
      exact ⟨Nat.succ_le_succ h1, .cons q h2, h3⟩
    | inner r _ => exact fun e => nn e

theorem to_find (hv : G.ρ.ivs.length ≤ 1000) (S : Sim G.ρ fr kp st s ads) {u v : Value} {a b : AV} {k : KV} (ra : RepV G.ρ ads s.heap u a) (rb : RepV G.ρ ads s.heap v b) (h : kTo k a b st = true) :
    ∃ A vs ep m t ys, u = .ref A ∧ v = .int (m : Nat) t ∧ s.heap.get? A = some (listObj vs ep) ∧ m ≤ vs.length ∧ vs.length ≤ sizeLine ∧ Items G.ρ ads s.heap (vs.take m) ys ∧ newL st ys k = true := by
  apply R_lst ra h
  intro i A hA h
  apply R_nat rb h
  intro m t h
  refine onS_el h fun xs hxs h => onS_el h fun ys hy h => and_el h fun hf h => ?_
  obtain ⟨vs, ep, hl, it⟩ := list_at S hA hxs
  obtain ⟨hle, it₁, _⟩ := takeP_items it hy
  exact ⟨A, vs, ep, m, t, ys, rfl, rfl, hl, hle, line_of (fits_size it hv hf), it₁, h⟩
theorem from_find (hv : G.ρ.ivs.length ≤ 1000) (S : Sim G.ρ fr kp st s ads) {u v : Value} {a b : AV} {k : KV} (ra : RepV G.ρ ads s.heap u a) (rb : RepV G.ρ ads s.heap v b) (h : kFrom k a b st = true) :
    ∃ A vs ep m t ys, u = .ref A ∧ v = .int (m : Nat) t ∧ s.heap.get? A = some (listObj vs ep) ∧ m ≤ vs.length ∧ vs.length ≤ sizeLine ∧ Items G.ρ ads s.heap (vs.drop m) ys ∧ newL st ys k = true := by
  apply R_lst ra h
  intro i A hA h
  apply R_nat rb h
  intro m t h
  refine onS_el h fun xs hxs h => onS_el h fun ys hy h => and_el h fun hf h => ?_
  obtain ⟨vs, ep, hl, it⟩ := list_at S hA hxs
  obtain ⟨hle, _, it₁⟩ := takeP_items it hy
  exact ⟨A, vs, ep, m, t, _, rfl, rfl, hl, hle, line_of (fits_size it hv hf), it₁, h⟩
theorem part_make (S : Sim G.ρ fr kp st s ads) {us : List Value} {ys : List AV} {k : KV} {o : Obj} (it : Items G.ρ ads s.heap us ys) (h : newL st ys k = true) :
    Post G.ρ fr kp s ads k (.ref (s.heap.objs.size + 1)) { s with heap := (s.heap.push o).push { cls := .type "list", data := .seq us.toArray } } := by
  have hk : ∀ (o : Obj) b o', s.heap.get? b = some o' → (s.heap.push o).get? b = some o' := fun o b o' e => Heap.get?_push_of_some _ e
  obtain ⟨S₃, l₃, r₃⟩ := S.newL (tk := s.toks) (n := 0) (vs := us) (D := s.heap.objs.size + 1) it (fun b o' e => Heap.get?_push_of_some _ (hk o b o' e))
    (by have := Heap.get?_push_size (s.heap.push o) (o := { cls := .type "list", data := .seq us.toArray }) rfl; rw [Heap.size_push] at this; exact this)
    (Heap.get?_none_of_le (Nat.le_succ _))
  exact ⟨_, _, _, r₃, S₃, l₃, h⟩

theorem name_go {v : Expr} (h : isNameE v = true) : ∀ o r, letTemporaryGo v o r = pure () := by
  intro o r
  obtain ⟨x, hx, _⟩ := onS_is h
  obtain ⟨p, rfl⟩ := nameO_is hx
  rfl
theorem e_to (H : Snd G n) (O : FrmOk G fr cx) (S : Sim G.ρ fr kp st s ads) {v u i : Expr} {pos p : Pos} {k : KV} (hi : i = .Slice none (some u) none p) (h : (isNameE v && run G.cf n (.e v fun a st => run G.cf n (.e u fun b st => kTo k a b st) cx st) cx st) = true) :
    wpAny (model G.prog G.w) fr.A (eval (.Subscript v i pos) fr.env) (Post G.ρ fr kp s ads k) (Exc G fr) s := by
  subst hi
  refine and_el h fun hn h => ?_
  refine wpAny_Subscript_list_slice (e_then H h O S fun o s₁ xa st₁ ads₁ ra S₁ l₁ h₁ => ?_) (name_go hn)
  rw [evalPart_none, evalPart_some]
  refine wpAny_pure (e_then H h₁ O S₁ fun b s₂ xb st₂ ads₂ rb S₂ l₂ h₂ => ?_)
  obtain ⟨a, vs, ep, m, t, ys, rfl, rfl, hl, hle, hsz, it, hn⟩ := to_find O.ivs S₂ (ra.mono l₂) rb h₂
  have P := fun o => (part_make (o := o) S₂ it hn).later (l₁.trans l₂)
  refine ⟨a, vs.toArray, none, some (m : Int), rfl, ⟨_, hl, rfl, ep, rfl⟩, by rw [List.size_toArray]; exact hsz, .none, .int _ _, ?_⟩
  rw [slicePick_upto _ _ hle]
  exact P _
theorem e_from (H : Snd G n) (O : FrmOk G fr cx) (S : Sim G.ρ fr kp st s ads) {v u i : Expr} {pos p : Pos} {k : KV} (hi : i = .Slice (some u) none none p) (h : (isNameE v && run G.cf n (.e v fun a st => run G.cf n (.e u fun b st => kFrom k a b st) cx st) cx st) = true) :
    wpAny (model G.prog G.w) fr.A (eval (.Subscript v i pos) fr.env) (Post G.ρ fr kp s ads k) (Exc G fr) s := by
  subst hi
  refine and_el h fun hn h => ?_
  refine wpAny_Subscript_list_slice (e_then H h O S fun o s₁ xa st₁ ads₁ ra S₁ l₁ h₁ => ?_) (name_go hn)
  rw [evalPart_none, evalPart_some]
  refine e_then H h₁ O S₁ fun b s₂ xb st₂ ads₂ rb S₂ l₂ h₂ => wpAny_pure ?_
  obtain ⟨a, vs, ep, m, t, ys, rfl, rfl, hl, hle, hsz, it, hn⟩ := from_find O.ivs S₂ (ra.mono l₂) rb h₂
  have P := fun o => (part_make (o := o) S₂ it hn).later (l₁.trans l₂)
  refine ⟨a, vs.toArray, some (m : Int), none, rfl, ⟨_, hl, rfl, ep, rfl⟩, by rw [List.size_toArray]; exact hsz, .int _ _, .none, ?_⟩
  rw [slicePick_from _ _ hle]
  exact P _
theorem e_part (H : Snd G n) (O : FrmOk G fr cx) (S : Sim G.ρ fr kp st s ads) {v i : Expr} {pos : Pos} {k : KV} (h : eSub (run G.cf n) v i k cx st = true) :
    wpAny (model G.prog G.w) fr.A (eval (.Subscript v i pos) fr.env) (Post G.ρ fr kp s ads k) (Exc G fr) s := by
  unfold eSub at h
  generalize sliceKind i = z at h
  cases z with
  | strip p a b c e => exact e_strip H O S e h
  | to u p e => exact e_to H O S e h
  | frm u p e => exact e_from H O S e h
  | bad => exact ff h
  | idx e => exact e_idx H O S e h
end
end Mine

namespace Mine
section
variable {G : Gl} {fr : Frm} {kp : Kp} {cx : Cx} {st : St} {s : Shared} {ads : List Addr} {n : Nat}

theorem Items.app {ρ : Rho} {ads : List Addr} {h : Heap} {vs us : List Value} {xs ys : List AV} (r : Items ρ ads h vs xs) (q : Items ρ ads h us ys) : Items ρ ads h (vs ++ us) (xs ++ ys) := by
  induction r with
  | nil => exact q
  | cons p _ ih => exact .cons p ih
  | inner _ ih => rw [List.append_assoc]; exact .inner ih
theorem Items.rep {ρ : Rho} {ads : List Addr} {h : Heap} {v : Value} {x : AV} (r : RepV ρ ads h v x) : ∀ n : Nat, Items ρ ads h (List.replicate n v) (List.replicate n x)
  | 0 => .nil
  | n + 1 => .cons r (Items.rep r n)

theorem push_list (S : Sim G.ρ fr kp st s ads) {vs : List Value} {xs : List AV} (it : Items G.ρ ads s.heap vs xs) {k : KV} (h : newL st xs k = true) (tk : Nat) :
    Post G.ρ fr kp s ads k (.ref s.heap.objs.size) { s with heap := s.heap.push { cls := .type "list", data := .seq vs.toArray }, toks := tk } := by
  have hk : ∀ b o, s.heap.get? b = some o → (s.heap.push (listObj vs 0)).get? b = some o := fun b o e => Heap.get?_push_of_some _ e
  obtain ⟨S₂, l₂, r₂⟩ := S.newL (tk := tk) it hk (Heap.get?_push_size s.heap rfl) (Heap.get?_none_of_le (Nat.le_refl _))
  exact ⟨_, _, _, r₂, S₂, l₂, h⟩

theorem fold_rep (v : Value) : ∀ n : Nat, List.foldl (fun x1 x2 => x1 ++ x2) #[] (List.replicate n #[v]) = (List.replicate n v).toArray := by
  have h : ∀ (n : Nat) (a : Array Value), List.foldl (fun x1 x2 => x1 ++ x2) a (List.replicate n #[v]) = a ++ (List.replicate n v).toArray := by
    intro n
    induction n with
    | zero => intro a; simp
    | succ n ih =>
      intro a
      rw [List.replicate_succ, List.foldl_cons, ih, List.replicate_succ]
      apply Array.toList_inj.mp
      simp
  intro n
  rw [h]
  simp

theorem mul_raw {prog : Program} {w : World} {A : Around} {E : Value → Shared → Prop} {s : Shared} {l : Addr} {items : Array Value} {k : Nat} {x : Int} {u : PySem.Tok} {Q : Value → Shared → Prop}
    (hl : s.heap.get? l = some { cls := .type "list", dict := none, data := .seq items k, slots := #[] })
    (hlo : -(2 ^ 63 : Int) ≤ x) (hhi : x < 2 ^ 63) (hsz : items.size * x.toNat ≤ 2 ^ 24)
    (h : Q (.ref s.heap.objs.size) { s with heap := s.heap.push { cls := .type "list", data := .seq (List.foldl (fun x1 x2 => x1 ++ x2) #[] (List.replicate (if items.isEmpty = true then 0 else x.toNat) items)) } }) :
    wpAny (model prog w) A (binaryOp .Mult (.ref l) (.int x u)) Q E s :=
  wpAny_binaryOp_repeat_ref (T := "list") (U := "int") (by decide) ⟨_, hl, rfl⟩ (fun s' => typeIs_int s' x u) noFill_list_mul F.fills_int_mul F.slot_int_rmul repeat_list F.slot_int_index.lookup
    (call_meets F.slot_int_rmul (typeIs_int s x u) F.entry_int_rmul (F.args_int_rmul_2 _ _) (int___rmul___int_list x u l items k)
      ⟨hl, rfl, ⟨_, hl, rfl⟩, call_meets F.slot_list_mul ⟨_, hl, rfl⟩ F.entry_list_mul (F.args_list_mul_2 _ _)
        (AutoListH.list___mul___list_int_3 l items k x u (by simp [Builtin.List.listFitsIndex]; omega) (by omega) (by simp [Builtin.List.listTooLong, sizeLine]; omega))
        ⟨hl, h⟩⟩)

theorem addA_el {P : AV → AV → AV → Prop} {a b c : AV} (h : addA a b = some c) (k1 : ∀ i j, P (.int i) (.int j) (.int (i + j))) (k2 : ∀ j, P .num (.int j) .num) (k3 : ∀ i, P (.int i) .num .num) (k4 : P .num .num .num)
    (k5 : ∀ c j, P (.sym c) (.int j) (.sym (c + j))) : P a b c := by
  cases a with
  | int i => cases b with
    | int j => rw [← Option.some.inj h]; exact k1 i j
    | num => rw [← Option.some.inj h]; exact k3 i
    | _ => exact nn h
  | num => cases b with
    | int j => rw [← Option.some.inj h]; exact k2 j
    | num => rw [← Option.some.inj h]; exact k4
    | _ => exact nn h
  | sym c => cases b with
    | int j => rw [← Option.some.inj h]; exact k5 c j
    | _ => exact nn h
  | _ => exact nn h
theorem subA_el {P : AV → AV → AV → Prop} {a b c : AV} (h : subA a b = some c) (k1 : ∀ i j, P (.int i) (.int j) (.int (i - j))) (k2 : ∀ j, P .num (.int j) .num) (k5 : ∀ c j, P (.sym c) (.int j) (.sym (c - j))) : P a b c := by
  cases a with
  | int i => cases b with
    | int j => rw [← Option.some.inj h]; exact k1 i j
    | _ => exact nn h
  | num => cases b with
    | int j => rw [← Option.some.inj h]; exact k2 j
    | _ => exact nn h
  | sym c => cases b with
    | int j => rw [← Option.some.inj h]; exact k5 c j
    | _ => exact nn h
  | _ => exact nn h
theorem add_find {ρ : Rho} {h : Heap} {u v : Value} {a b c : AV} (ra : RepV ρ ads h u a) (rb : RepV ρ ads h v b) (hc : addA a b = some c) : ∃ i j t t', u = .int i t ∧ v = .int j t' ∧ ∀ t₂, RepV ρ ads h (.int (i + j) t₂) c := by
  revert ra rb
  apply addA_el hc
  · intro i j ra rb
    obtain ⟨t, rfl⟩ := ra.int_inv
    obtain ⟨t', rfl⟩ := rb.int_inv
    exact ⟨_, _, t, t', rfl, rfl, fun _ => .int _ _⟩
  · intro j ra rb
    obtain ⟨i, t, rfl⟩ := ra.num_inv
    obtain ⟨t', rfl⟩ := rb.int_inv
    exact ⟨_, _, t, t', rfl, rfl, fun _ => .num _ _⟩
  · intro j ra rb
    obtain ⟨t, rfl⟩ := ra.int_inv
    obtain ⟨j, t', rfl⟩ := rb.num_inv
    exact ⟨_, _, t, t', rfl, rfl, fun _ => .num _ _⟩
  · intro ra rb
    obtain ⟨i, t, rfl⟩ := ra.num_inv
    obtain ⟨j, t', rfl⟩ := rb.num_inv
    exact ⟨_, _, t, t', rfl, rfl, fun _ => .num _ _⟩
  · intro i j ra rb
    obtain ⟨t, rfl⟩ := ra.sym_inv
    obtain ⟨t', rfl⟩ := rb.int_inv
    exact ⟨_, _, t, t', rfl, rfl, fun _ => by rw [Int.add_assoc]; exact .sym _ _⟩
theorem sub_find {ρ : Rho} {h : Heap} {u v : Value} {a b c : AV} (ra : RepV ρ ads h u a) (rb : RepV ρ ads h v b) (hc : subA a b = some c) : ∃ i j t t', u = .int i t ∧ v = .int j t' ∧ ∀ t₂, RepV ρ ads h (.int (i - j) t₂) c := by
  revert ra rb
  apply subA_el hc
  · intro i j ra rb
    obtain ⟨t, rfl⟩ := ra.int_inv
    obtain ⟨t', rfl⟩ := rb.int_inv
    exact ⟨_, _, t, t', rfl, rfl, fun _ => .int _ _⟩
  · intro j ra rb
    obtain ⟨i, t, rfl⟩ := ra.num_inv
    obtain ⟨t', rfl⟩ := rb.int_inv
    exact ⟨_, _, t, t', rfl, rfl, fun _ => .num _ _⟩
  · intro i j ra rb
    obtain ⟨t, rfl⟩ := ra.sym_inv
    obtain ⟨t', rfl⟩ := rb.int_inv
    exact ⟨_, _, t, t', rfl, rfl, fun _ => by rw [Int.add_sub_assoc]; exact .sym _ _⟩
theorem sum_line {a b : Nat} (h1 : a ≤ 1000000) (h2 : b ≤ 1000000) : a + b ≤ sizeLine := by rw [sizeLine_eq]; omega
theorem addL_find (hv : G.ρ.ivs.length ≤ 1000) (S : Sim G.ρ fr kp st s ads) {A C : Addr} {i j : Nat} {k : KV} (ra : ads[i]? = some A) (rb : ads[j]? = some C) (h : kAddL k i j st = true) :
    ∃ vs us e1 e2 zs, s.heap.get? A = some (listObj vs e1) ∧ s.heap.get? C = some (listObj us e2) ∧ vs.length + us.length ≤ sizeLine ∧ Items G.ρ ads s.heap (vs ++ us) zs ∧ newL st zs k = true := by
  refine onS_el h fun xs hx h => onS_el h fun ys hy h => and_el h fun f1 h => and_el h fun f2 h => ?_
  obtain ⟨vs, e1, hl, it⟩ := list_at S ra hx
  obtain ⟨us, e2, hr, it'⟩ := list_at S rb hy
  exact ⟨vs, us, e1, e2, _, hl, hr, sum_line (fits_size it hv f1) (fits_size it' hv f2), it.app it', h⟩
theorem mulL_find (S : Sim G.ρ fr kp st s ads) {A : Addr} {i m : Nat} {k : KV} (ra : ads[i]? = some A) (h : kMulL k i m st = true) :
    ∃ x ep zs, s.heap.get? A = some (listObj [x] ep) ∧ m ≤ 100 ∧ Items G.ρ ads s.heap (List.replicate m x) zs ∧ newL st zs k = true := by
  refine onS_el h fun l hx h => ?_
  obtain ⟨x, rfl, h⟩ := one_is h
  refine and_el h fun hp h => and_el h fun hb h => ?_
  obtain ⟨vs, ep, hl, it⟩ := list_at S ra hx
  obtain ⟨v, rfl, rv⟩ := (it.plain hp).one_inv
  exact ⟨v, ep, _, hl, Nat.le_of_ble_eq_true hb, Items.rep rv m, h⟩
theorem mul_rule {A : Around} {E : Value → Shared → Prop} {l : Addr} {x : Value} {ep m : Nat} {t : PySem.Tok} {Q : Value → Shared → Prop} (hl : s.heap.get? l = some (listObj [x] ep)) (hm : m ≤ 100)
    (h : Q (.ref s.heap.objs.size) { s with heap := s.heap.push { cls := .type "list", data := .seq (List.replicate m x).toArray } }) : wpAny (model G.prog G.w) A (binaryOp .Mult (.ref l) (.int m t)) Q E s := by
  refine mul_raw hl (x := (m : Int)) (by omega) (by omega) (by simp; omega) ?_
  have e : (if (#[x] : Array Value).isEmpty = true then 0 else (m : Int).toNat) = m := by simp
  show Q _ _
  rw [e, fold_rep]
  exact h
theorem add_rule {A : Around} {E : Value → Shared → Prop} {u v : Value} {a b : AV} {k : KV} {Q : Value → Shared → Prop} (hv : G.ρ.ivs.length ≤ 1000) (S : Sim G.ρ fr kp st s ads) (ra : RepV G.ρ ads s.heap u a) (rb : RepV G.ρ ads s.heap v b) (h : kAdd k a b st = true)
    (hQ : ∀ v s', Post G.ρ fr kp s ads k v s' → Q v s') : wpAny (model G.prog G.w) A (binaryOp .Add u v) Q E s := by
  have go : onS (addA a b) (fun c => k c st) = true → wpAny (model G.prog G.w) A (binaryOp .Add u v) Q E s := fun h => onS_el h fun c hc h => by
    obtain ⟨i, j, t, t', rfl, rfl, r⟩ := add_find ra rb hc
    exact PyProof.Rows.add_int (hQ _ _ (Post.here S (r _) h _))
  revert h
  cases a with
  | lst i =>
    clear go
    intro h
    obtain ⟨A, hA, rfl⟩ := ra.lst_inv
    apply R_lst rb h
    intro j C hC h
    obtain ⟨vs, us, e1, e2, zs, hl, hr, hs, it, hn⟩ := addL_find hv S hA hC h
    refine P.add_list (items := vs.toArray) (items2 := us.toArray) hl hr ?_ hs
    rw [List.append_toArray]
    exact hQ _ _ (push_list S it hn _)
  | _ => exact go
theorem bin_rule {A : Around} {E : Value → Shared → Prop} {op : Operator} {u v : Value} {a b : AV} {k : KV} {Q : Value → Shared → Prop} (hv : G.ρ.ivs.length ≤ 1000) (S : Sim G.ρ fr kp st s ads) (ra : RepV G.ρ ads s.heap u a) (rb : RepV G.ρ ads s.heap v b) (h : kBin op k a b st = true)
    (hQ : ∀ v s', Post G.ρ fr kp s ads k v s' → Q v s') : wpAny (model G.prog G.w) A (binaryOp op u v) Q E s := by
  cases op with
  | Add => exact add_rule hv S ra rb h hQ
  | Sub =>
    refine onS_el (o := subA a b) h fun c hc h => ?_
    obtain ⟨i, j, t, t', rfl, rfl, r⟩ := sub_find ra rb hc
    exact PyProof.Rows.sub_int (hQ _ _ (Post.here S (r _) h _))
  | Mult =>
    replace h : lstS a (fun i => natS b fun n => kMulL k i n st) = true := h
    apply R_lst ra h
    intro i A hA h
    apply R_nat rb h
    intro m t h
    obtain ⟨x, ep, zs, hl, hm, it, hn⟩ := mulL_find S hA h
    exact mul_rule hl hm (hQ _ _ (push_list S it hn _))
  | _ => exact ff h
theorem e_bin (H : Snd G n) (O : FrmOk G fr cx) (S : Sim G.ρ fr kp st s ads) {l r : Expr} {op : Operator} {pos : Pos} {k : KV}
    (h : run G.cf n (.e l fun a st => run G.cf n (.e r fun b st => kBin op k a b st) cx st) cx st = true) :
    wpAny (model G.prog G.w) fr.A (eval (.BinOp l op r pos) fr.env) (Post G.ρ fr kp s ads k) (Exc G fr) s :=
  wpAny_BinOp (e_then H h O S fun a s₁ xa st₁ ads₁ ra S₁ l₁ h₁ => e_then H h₁ O S₁ fun b s₂ xb st₂ ads₂ rb S₂ l₂ h₂ => bin_rule O.ivs S₂ (ra.mono l₂) rb h₂ fun _ _ p => p.later (l₁.trans l₂))
end
end Mine

namespace Mine

structure MethHyp (G : Gl) : Prop where
  ga : ∀ ω, G.ρ.wd = some ω → findIn G.cf.K (.ref ω.C) "__getattribute__" = some (some (.builtin "object.__getattribute__")) ∧ findIn G.cf.K (.ref ω.C) "__getattr__" = some none
  fn : ∀ ω m, G.ρ.wd = some ω → whichMe m ≠ .other → ∃ f, findIn G.cf.K (.ref ω.C) m = some (some (.ref f)) ∧ typeIn G.cf.K (.ref f) = some (.type "function") ∧ keepIn G.cf.K (.ref f) = true ∧
    (∀ (i : Nat) ti (d : Nat) td, shadowIn (some (ω.dict i ti d td)) m = some false) ∧
    ∀ {fr cx st s ads vs xs k} {mm : Str → Option Value}, meth G.cf m xs st k = true → FrmOk G fr cx → Fr fr.g fr.L s.heap mm → (∀ a ∈ muts G.ρ ads, fr.g.get? a = none ∧ a ≠ fr.L) →
      Core G.ρ (AllBut G.ρ s ads) st s ads → RepVs G.ρ ads s.heap vs xs →
      wpAny (model G.prog G.w) fr.A (call (.ref f) (.ref ω.W :: vs)) (PostC G.ρ st.loc s ads k) (Exc G fr) s
  lev : ∀ d, globRef G.cf (Str.ofString "LEVELS") = some d → ∃ es n, G.cf.K.lookup d = some ⟨.type "dict", none, .dict es n, #[]⟩ ∧ KeysLit G.w.params es.toList ∧ (d == sysModules) = false

section
variable {G : Gl} {fr : Frm} {kp : Kp} {cx : Cx} {st : St} {s : Shared} {ads : List Addr} {n : Nat}

theorem Core.all {ρ : Rho} (x : Core ρ kp st s ads) : Core ρ (AllBut ρ s ads) st s ads := ⟨x.lists, x.words, x.src, fun _ _ e => e, x.apart, x.lv, x.out⟩

theorem Core.fresh {ρ : Rho} {st' : St} {s' : Shared} {rr : List Addr} (C : Core ρ (AllBut ρ s ads) st' s' (ads ++ rr)) {a : Addr} (ha : a ∈ rr) : s.heap.get? a = none := by
  cases q : s.heap.get? a with
  | none => rfl
  | some o =>
    exfalso
    have h1 := C.apart
    rw [muts_app] at h1
    by_cases hm : a ∈ muts ρ ads
    · exact (List.nodup_append.mp h1).2.2 a hm a ha rfl
    · have h2 := (C.kept a o ⟨q, hm⟩).2
      rw [muts_app] at h2
      exact h2 (List.mem_append.mpr (.inr ha))
theorem Core.frame {ρ : Rho} {st' : St} {s' : Shared} {ads' : List Addr} {m : Str → Option Value} (F : Fr fr.g fr.L s.heap m) (new : ∀ a ∈ muts ρ ads, fr.g.get? a = none ∧ a ≠ fr.L) (C : Core ρ (AllBut ρ s ads) st' s' ads') : Fr fr.g fr.L s'.heap m := by
  obtain ⟨⟨o, es, ep, h1, h2⟩, k, ab⟩ := F
  exact ⟨⟨o, es, ep, (C.kept fr.L o ⟨h1, fun q => (new _ q).2 rfl⟩).1, h2⟩, fun b o e => (C.kept b o ⟨k b o e, fun q => nn ((new b q).1.symm.trans e)⟩).1, ab⟩
theorem Core.newer {ρ : Rho} {st' : St} {s' : Shared} {rr : List Addr} {m : Str → Option Value} (F : Fr fr.g fr.L s.heap m) (new : ∀ a ∈ muts ρ ads, fr.g.get? a = none ∧ a ≠ fr.L) (C : Core ρ (AllBut ρ s ads) st' s' (ads ++ rr)) :
    ∀ a ∈ muts ρ (ads ++ rr), fr.g.get? a = none ∧ a ≠ fr.L := by
  intro a ha
  rw [muts_app] at ha
  rcases List.mem_append.mp ha with ha | ha
  · exact new a ha
  · exact ⟨fr_none F (C.fresh ha), fr_ne F (C.fresh ha)⟩
theorem PostC.back {ρ : Rho} {k : KV} {v : Value} {s' : Shared} (S : Sim ρ fr kp st s ads) (x : PostC ρ st.loc s ads k v s') : Post ρ fr kp s ads k v s' := by
  obtain ⟨y, st', ads', r, C, l, hloc, hk⟩ := x
  obtain ⟨⟨rr, rfl⟩, lt⟩ := id l
  obtain ⟨m, F, hm⟩ := S.loc
  refine ⟨y, st', _, r, ⟨⟨C.lists, C.words, C.src, fun b o hb => C.kept b o (S.kept b o hb), C.apart, C.lv, C.out⟩, ⟨m, C.frame F S.new, fun z w e => ?_⟩, C.newer F S.new, S.off⟩, l, hk⟩
  rw [hloc] at e
  obtain ⟨u, e', r'⟩ := hm z w e
  exact ⟨u, e', r'.mono l⟩

theorem plain_args {es : List Expr} {pos : Pos} {env : Env} : noStar es = true → (backTo pos (starEach es env)).any (·.1) = false := by
  induction es with
  | nil => exact fun _ => rfl
  | cons e r ih =>
    intro h
    rw [star_is (no_star h).1]
    exact ih (no_star h).2
theorem star_cons {e : Expr} {r : List Expr} {env : Env} (h : noStar (e :: r) = true) : starEach (e :: r) env = (false, eval e env) :: starEach r env ∧ noStar r = true := ⟨star_is (no_star h).1, (no_star h).2⟩

theorem size_list {us : List Value} (h : us.length ≤ 1000000) : us.toArray.size ≤ sizeLine := by rw [List.size_toArray]; exact line_of h
theorem small_list {us : List Value} (h : us.length ≤ 1000000) : (us.toArray.size : Int) < 2 ^ 63 := by rw [List.size_toArray]; omega
theorem len_rule {A : Around} {E : Value → Shared → Prop} {vs : List Value} {xs : List AV} {k : KV} {Q : Value → Shared → Prop} (hv : G.ρ.ivs.length ≤ 1000) (S : Sim G.ρ fr kp st s ads) (rs : RepVs G.ρ ads s.heap vs xs) (h : kLen k xs st = true)
    (hQ : ∀ v s', Post G.ρ fr kp s ads k v s' → Q v s') : wpAny (model G.prog G.w) A (call (.builtin "len") vs) Q E s := by
  apply Rs_one rs h
  intro v x r h
  cases x with
  | lst i =>
    refine onS_el (o := nth st.lists i) h fun xs hxs h => and_el h fun hp h => and_el h fun hf h => ?_
    obtain ⟨a, us, ep, rfl, hl, it⟩ := list_of S r hxs
    refine PyProof.Rows.len_list (items := us.toArray) ⟨_, hl, rfl, ep, rfl⟩ (small_list (fits_size it hv hf)) ?_
    rw [List.size_toArray, (it.plain hp).length]
    exact hQ _ _ (Post.here S (.int _ _) h _)
  | str ss =>
    obtain ⟨y, rfl, h⟩ := one_is (l := ss) h
    obtain ⟨hb, h⟩ := and_b h
    obtain ⟨x, t, rfl, hx⟩ := r.str_inv
    obtain rfl := List.mem_singleton.mp hx
    exact PyProof.Rows.len_str (by have := Nat.le_of_ble_eq_true hb; omega) (hQ _ _ (Post.here S (.int _ _) h _))
  | _ => exact ff h
theorem tuple_rule {A : Around} {E : Value → Shared → Prop} {vs : List Value} {xs : List AV} {k : KV} {Q : Value → Shared → Prop} (hv : G.ρ.ivs.length ≤ 1000) (S : Sim G.ρ fr kp st s ads) (rs : RepVs G.ρ ads s.heap vs xs) (h : kTuple k xs st = true)
    (hQ : ∀ v s', Post G.ρ fr kp s ads k v s' → Q v s') : wpAny (model G.prog G.w) A (call (.type "tuple") vs) Q E s := by
  apply Rs_one rs h
  intro v x r h
  apply R_lst r h
  intro i a ha h
  refine onS_el h fun xs hxs h => and_el h fun hp h => and_el h fun hf h => ?_
  obtain ⟨us, ep, hl, it⟩ := list_at S ha hxs
  have rp := it.plain hp
  refine call_tuple_list (items := us.toArray) ⟨_, hl, rfl, ep, rfl⟩ (fun h' hk => ?_) (size_list (fits_size it hv hf))
  have hk2 : ∀ b o, s.heap.get? b = some o → (h'.push (tupObj us 0)).get? b = some o := fun b o e => Heap.get?_push_of_some _ (hk b o e)
  exact hQ _ _ ⟨.tup xs, st, ads, .tup (n := 0) (Heap.get?_push_size _ rfl) rp.length fun i v x h1 h2 => (rp.at i v x h1 h2).mono (Later.ext hk2), S.ext hk2, Later.ext hk2, h⟩

theorem globRef_is {cf : Cf} {id : Str} {f : Addr} : globRef cf id = some f → nsIn cf.K mainGlobals id = some (some (.ref f)) := by
  unfold globRef
  rcases nsIn cf.K mainGlobals id with _ | _ | v
  · exact fun h => nn h
  · exact fun h => nn h
  · cases v with
    | ref a => exact fun h => by rw [Option.some.inj h]
    | _ => exact fun h => nn h
theorem globNone_is {cf : Cf} {id : Str} : globNone cf id = true → nsIn cf.K mainGlobals id = some none := by
  unfold globNone
  rcases nsIn cf.K mainGlobals id with _ | _ | v
  · exact fun h => ff h
  · exact fun _ => rfl
  · exact fun h => ff h
theorem e_builtin (H : Snd G n) (O : FrmOk G fr cx) (S : Sim G.ρ fr kp st s ads) {id : Str} {p pos : Pos} {as : List Expr} {k : KV} (hg : isGlobal cx id = true) (hs : noStar as = true) (hn : isNil as = false)
    (hno : globNone G.cf id = true) (h : eBuiltin (run G.cf n) id as k cx st = true) :
    wpAny (model G.prog G.w) fr.A (eval (.Call (.Name id p) as [] pos) fr.env) (Post G.ρ fr kp s ads k) (Exc G fr) s := by
  have hnone := globNone_is hno
  obtain ⟨m, F, _⟩ := S.loc
  cases as with
  | nil => exact tf hn
  | cons e r =>
    obtain ⟨he, hr⟩ := star_cons (env := fr.env) hs
    revert h
    unfold eBuiltin
    cases hid : eqS id (Str.ofString "len") with
    | true =>
      intro h
      obtain rfl := eqS_iff.mp hid
      refine Call_ (name_B F O.X O.T hnone PyProof.Rows.Boot.«len» (by decide +kernel) ?_ O.kind (global_kind O hg) (not_debug O (global_kind O hg)))
      refine PyProof.Rows.callWith_builtin1 (as_then H h hs O S fun vs s₁ xs st₁ ads₁ rs S₁ l₁ h₁ => ?_) he (plain_args hr)
      exact len_rule O.ivs S₁ rs h₁ fun _ _ p => p.later l₁
    | false =>
      intro h
      obtain ⟨hid, h⟩ := and_b h
      obtain rfl := eqS_iff.mp hid
      refine Call_ (name_B F O.X O.T hnone PyProof.Rows.Boot.«tuple» (by decide +kernel) ?_ O.kind (global_kind O hg) (not_debug O (global_kind O hg)))
      refine PyProof.Rows.callWith_type1 (as_then H h hs O S fun vs s₁ xs st₁ ads₁ rs S₁ l₁ h₁ => ?_) he (plain_args hr)
      exact tuple_rule O.ivs S₁ rs h₁ fun _ _ p => p.later l₁

theorem e_callK (H : Snd G n) (O : FrmOk G fr cx) (S : Sim G.ρ fr kp st s ads) {id : Str} {p pos : Pos} {as : List Expr} {k : KV} {f : Addr} (hg : isGlobal cx id = true) (hs : noStar as = true) (hn : isNil as = false) (hf : globRef G.cf id = some f)
    (h : (keepIn G.cf.K (.ref f) && run G.cf n (.as as fun vs st => run G.cf n (.call f vs k) cx st) cx st) = true) :
    wpAny (model G.prog G.w) fr.A (eval (.Call (.Name id p) as [] pos) fr.env) (Post G.ρ fr kp s ads k) (Exc G fr) s := by
  obtain ⟨hkeep, h⟩ := and_b h
  obtain ⟨m, F, _⟩ := S.loc
  cases as with
  | nil => exact tf hn
  | cons e r =>
    obtain ⟨he, hr⟩ := star_cons (env := fr.env) hs
    refine Call_ (name_K F O.X O.T (globRef_is hf) ?_ O.kind (global_kind O hg) (not_debug O (global_kind O hg)))
    refine callWith_K O.X hkeep (as_then H h hs O S fun vs s₁ xs st₁ ads₁ rs S₁ l₁ h₁ => ?_) he (plain_args hr)
    obtain ⟨m₁, F₁, _⟩ := S₁.loc
    exact ⟨O.X.keeps F₁.keep, wpAny_mono (H.call h₁ O F₁ S₁.new S₁.toCore.all rs) (fun v s' q => (PostC.back S₁ q).later l₁) fun _ _ e => e⟩
theorem e_callN (H : Snd G n) (O : FrmOk G fr cx) (S : Sim G.ρ fr kp st s ads) {id : Str} {p pos : Pos} {as : List Expr} {k : KV} (h : eCallN G.cf (run G.cf n) id as k cx st = true) :
    wpAny (model G.prog G.w) fr.A (eval (.Call (.Name id p) as [] pos) fr.env) (Post G.ρ fr kp s ads k) (Exc G fr) s := by
  refine and_el h fun hg h => and_el h fun hs h => and_el h fun hn h => ?_
  revert h
  cases hf : globRef G.cf id with
  | some f => exact fun h => e_callK H O S hg hs (not_b hn) hf h
  | none => exact fun h => and_el h fun hno h => e_builtin H O S hg hs (not_b hn) hno h
end
end Mine

namespace Mine
section
variable {G : Gl} {fr : Frm} {kp : Kp} {cx : Cx} {st : St} {s : Shared} {ads : List Addr} {n : Nat}

theorem setAt_same {α : Type} (v : α) {l : List α} : ∀ {i : Nat}, i < l.length → (setAt l i v)[i]? = some v := by
  induction l with
  | nil => exact fun h => absurd h (Nat.not_lt_zero _)
  | cons x r ih =>
    intro i h
    cases i with
    | zero => rfl
    | succ i => exact ih (Nat.lt_of_succ_lt_succ h)
theorem setAt_other {α : Type} (v : α) {l : List α} : ∀ {i j : Nat}, j ≠ i → (setAt l i v)[j]? = l[j]? := by
  induction l with
  | nil => exact fun _ => rfl
  | cons x r ih =>
    intro i j h
    cases i with
    | zero => cases j with
      | zero => exact (h rfl).elim
      | succ j => rfl
    | succ i => cases j with
      | zero => rfl
      | succ j => exact ih fun e => h (congrArg _ e)
theorem setAt_len {α : Type} (v : α) {l : List α} : ∀ {i : Nat}, (setAt l i v).length = l.length := by
  induction l with
  | nil => exact rfl
  | cons x r ih =>
    intro i
    cases i with
    | zero => rfl
    | succ i => exact congrArg (· + 1) ih

theorem nodup_inj {α : Type} {a : α} {l : List α} {i j : Nat} (nd : l.Nodup) (h1 : l[i]? = some a) (h2 : l[j]? = some a) : i = j :=
  (List.getElem?_inj (List.getElem?_eq_some_iff.mp h1).1 nd).mp (h1.trans h2.symm)
/-- a list of the table is changed -/
theorem Sim.setL {ρ : Rho} (x : Sim ρ fr kp st s ads) {i : Nat} {a : Addr} {vs : List Value} {xs : List AV} {ep : Nat} (ha : ads[i]? = some a) (it : Items ρ ads s.heap vs xs) {h' : Heap} {tk : Nat}
    (hs : Heap.SameBut a s.heap h') (he : h'.get? a = some (listObj vs ep)) :
    Sim ρ fr kp ⟨st.loc, setAt st.lists i xs, st.ws⟩ { s with heap := h', toks := tk } ads ∧ Later ads s.heap ads h' := by
  have hi : i < st.lists.length := by rw [← x.lists.1]; exact (List.getElem?_eq_some_iff.mp ha).1
  obtain ⟨us, ep', hold, _⟩ := x.lists.2 i a st.lists[i] ha (by simp [hi])
  have kt : Later ads s.heap ads h' := Later.but hs.extBut hold (by simp)
  have hm := mem_ads (ρ := ρ) ha
  have nd := x.apart
  have dj : ∀ b ∈ muts ρ [], b ≠ a := fun b hb => by
    have e : muts ρ ads = muts ρ [] ++ ads := by rw [← muts_app]; simp
    rw [e] at nd
    exact (List.nodup_append.mp nd).2.2 b hb a (List.mem_of_getElem? ha)
  have inj : ∀ j b, ads[j]? = some b → j ≠ i → b ≠ a := fun j b hj hne hab => by
    subst hab
    have nd' : ads.Nodup := by
      have e : muts ρ ads = muts ρ [] ++ ads := by rw [← muts_app]; simp
      rw [e] at nd
      exact (List.nodup_append.mp nd).2.1
    exact hne (nodup_inj nd' hj ha)
  obtain ⟨m, F, hmm⟩ := x.loc
  refine ⟨⟨⟨⟨by rw [setAt_len]; exact x.lists.1, fun j b ys h1 h2 => ?_⟩, fun ω e => ?_, fun S e => (x.src S e).mono fun o q => (hs.2 S (dj S (mem_src e))).trans q,
    fun b o hb => ⟨(hs.2 b fun q => (x.kept b o hb).2 (q ▸ hm)).trans (x.kept b o hb).1, (x.kept b o hb).2⟩, x.apart, x.lv, x.out⟩,
    ⟨m, frBut F hs.extBut (x.new a hm).1 (x.new a hm).2, fun z w e => (hmm z w e).elim fun u q => ⟨u, q.1, q.2.mono kt⟩⟩, x.new, x.off⟩, kt⟩
  · by_cases hj : j = i
    · subst hj
      rw [setAt_same _ hi] at h2
      rw [← Option.some.inj (ha.symm.trans h1), ← Option.some.inj h2]
      exact ⟨vs, ep, he, it.mono kt⟩
    · rw [setAt_other _ hj] at h2
      obtain ⟨ws, ep2, q, r⟩ := x.lists.2 j b ys h1 h2
      exact ⟨ws, ep2, (hs.2 b (inj j b h1 hj)).trans q, r.mono kt⟩
  · obtain ⟨j, W, M, p, nR⟩ := x.words ω e
    exact ⟨j, W.but hs.extBut hold (dj _ (mem_wd e)) (fun q => nR (q ▸ hm)) (by simp) (by simp), M, p, nR⟩

noncomputable def isIntOf (j : Int) : Value → Bool
  | .int i _ => i == j
  | _ => false
theorem index_step {j : Int} {v : Value} {vs : List Value} {at_ n : Nat} (hv : isIntOf j v = false) (h : ∃ m, n = at_ + 1 + m ∧ (∃ t, vs[m]? = some (.int j t)) ∧ ∀ (l : Nat) v, vs[l]? = some v → l < m → isIntOf j v = false) :
    ∃ m, n = at_ + m ∧ (∃ t, (v :: vs)[m]? = some (.int j t)) ∧ ∀ (l : Nat) w, (v :: vs)[l]? = some w → l < m → isIntOf j w = false := by
  obtain ⟨m, e1, e3, e5⟩ := h
  refine ⟨m + 1, e1.trans (by rw [Nat.add_assoc, Nat.add_comm 1]), e3, fun l w hl hm => ?_⟩
  cases l with
  | zero => rw [← Option.some.inj hl]; exact hv
  | succ l => exact e5 l w hl (Nat.lt_of_succ_lt_succ hm)
theorem index_find {ρ : Rho} {h : Heap} {j : Int} {vs : List Value} {xs : List AV} (r : Items ρ ads h vs xs) : ∀ {at_ n : Nat}, indexA j at_ xs = some n →
    ∃ m, n = at_ + m ∧ (∃ t, vs[m]? = some (.int j t)) ∧ ∀ (l : Nat) v, vs[l]? = some v → l < m → isIntOf j v = false := by
  induction r with
  | nil => exact fun e => nn e
  | inner _ _ => exact fun e => nn e
  | @cons v x vs xs q r ih =>
    intro at_ n
    cases x with
    | int i =>
      obtain ⟨t, rfl⟩ := q.int_inv
      show (match intEq i j with | true => some at_ | false => indexA j (at_ + 1) xs) = some n → _
      cases hij : intEq i j with
      | true => exact fun e => ⟨0, (Option.some.inj e).symm, ⟨t, by rw [of_decide_eq_true hij]; rfl⟩, fun l v _ hl => absurd hl (Nat.not_lt_zero _)⟩
      | false => exact fun e => index_step (beq_eq_false_iff_ne.mpr (of_decide_eq_false hij)) (ih e)
    | str ss =>
      obtain ⟨y, t, rfl, _⟩ := q.str_inv
      exact fun e => index_step rfl (ih e)
    | _ => exact fun e => nn e
theorem eq_str_int (x : Str) (t : PySem.Tok) (j : Int) (u : PySem.Tok) : MeetsSeq.EqGives (.str x t) (.int j u) false :=
  fun prog w A E s Q h => SeqAt.EqAt.str_int (A := A) (s := s) x t j u prog w E Q h
theorem allSI_are {ρ : Rho} {h : Heap} {j : Int} {u : PySem.Tok} {vs : List Value} {xs : List AV} (r : Items ρ ads h vs xs) : allSI xs = true → ∀ v ∈ vs, MeetsSeq.EqGives v (.int j u) (isIntOf j v) := by
  induction r with
  | nil => exact fun _ v hv => absurd hv List.not_mem_nil
  | inner _ _ => exact fun e => ff e
  | @cons v x vs xs q r ih =>
    cases x with
    | int i =>
      obtain ⟨t, rfl⟩ := q.int_inv
      exact fun e => List.forall_mem_cons.mpr ⟨MeetsSeq.EqGives.int i j t u, ih e⟩
    | str ss =>
      obtain ⟨y, t, rfl, _⟩ := q.str_inv
      exact fun e => List.forall_mem_cons.mpr ⟨eq_str_int y t j u, ih e⟩
    | _ => exact fun e => ff e

theorem m_index (H : Snd G n) (O : FrmOk G fr cx) (S : Sim G.ρ fr kp st s ads) {i : Nat} {a : Addr} {pos : Pos} {e : Expr} {k : KV} (ha : ads[i]? = some a) (hs : noStar [e] = true)
    (h : run G.cf n (.e e fun v st => kIndex i k [v] st) cx st = true) :
    wpAny (model G.prog G.w) fr.A (callWith pos (.builtin "list.index") [.ref a] (backTo pos (starEach [e] fr.env)) []) (Post G.ρ fr kp s ads k) (Exc G fr) s := by
  rw [(star_cons (env := fr.env) hs).1]
  refine P.index_list (e_then H h O S fun v s₁ x st₁ ads₁ r S₁ l₁ h₁ => ?_)
  obtain ⟨⟨rr, rfl⟩, _⟩ := id l₁
  replace h₁ : intS x (fun j => onS (nth st₁.lists i) fun xs => allSI xs && (fits xs && onS (indexA j 0 xs) fun n => k (.int n) st₁)) = true := h₁
  apply R_int r h₁
  intro j u h₁
  refine onS_el h₁ fun xs hxs h₁ => and_el h₁ fun hsi h₁ => and_el h₁ fun hf h₁ => onS_el h₁ fun m hm h₁ => ?_
  obtain ⟨vs, ep, hl, it⟩ := list_at S₁ (nth_app ha) hxs
  obtain ⟨m', e1, ⟨t', e3⟩, e5⟩ := index_find it hm
  obtain rfl : m = m' := e1.trans (Nat.zero_add _)
  have hz := small_list (fits_size it O.ivs hf)
  have P := (Post.here S₁ (.int _ s₁.toks) h₁ (s₁.toks + 1)).later l₁
  obtain ⟨hml, hg⟩ := List.getElem?_eq_some_iff.mp e3
  have q1 := fun y hy => allSI_are (j := j) (u := u) it hsi y (List.mem_toArray.mp hy)
  clear h₁ it S₁ l₁ r hm h S ha hxs hsi hf e1
  rw [List.size_toArray] at hz
  refine ⟨vs.toArray, ep, isIntOf j, m, by rw [List.size_toArray]; exact hml, hl, q1, by omega, ?_, fun l hl' hlm => ?_, P⟩
  · rw [List.getElem_toArray, hg]; exact beq_self_eq_true j
  · rw [List.getElem_toArray]; exact e5 l _ (List.getElem?_eq_getElem _) hlm
end
end Mine

namespace Mine
section
variable {G : Gl} {fr : Frm} {kp : Kp} {cx : Cx} {st : St} {s : Shared} {ads : List Addr} {n : Nat}

theorem intO_is {K : Frag} {d : Addr} {dv : Int} {x : Str} {j : Int} : intO dv (dictA K d x) = some j → (∃ v, nsIn K d x = some (some v) ∧ litV K litD v = some (.int j)) ∨ (nsIn K d x = some none ∧ j = dv) := by
  unfold dictA
  rcases nsIn K d x with _ | _ | v
  · exact fun h => nn h
  · exact fun h => .inr ⟨rfl, (Option.some.inj h).symm⟩
  · show intO dv (match litV K litD v with | some a => some (some a) | none => none) = some j → _
    cases hb : litV K litD v with
    | none => exact fun h => nn h
    | some a =>
      cases a with
      | int i => intro h; obtain rfl := Option.some.inj h; exact .inl ⟨v, rfl, hb⟩
      | _ => exact fun h => nn h
theorem sameI_is {a b : Option Int} {j : Int} (h : sameI a b = some j) : a = some j ∧ b = some j := by
  rcases a with _ | i
  · exact nn h
  rcases b with _ | i'
  · exact nn h
  revert h
  show (match intEq i i' with | true => some i' | false => none) = some j → _
  cases q : intEq i i' with
  | false => exact fun h => nn h
  | true =>
    intro h
    obtain rfl := Option.some.inj h
    exact ⟨congrArg some (of_decide_eq_true q), rfl⟩
theorem getInt_rule {K : Frag} {d : Addr} {dv : Int} {xs : List Str} : ∀ {j : Int}, getInt K d dv xs = some j → ∀ x ∈ xs, (∃ v, nsIn K d x = some (some v) ∧ litV K litD v = some (.int j)) ∨ (nsIn K d x = some none ∧ j = dv) := by
  induction xs with
  | nil => exact fun h => nn h
  | cons x r ih =>
    intro j h y hy
    cases r with
    | nil => rw [List.mem_singleton.mp hy]; exact intO_is h
    | cons z r =>
      obtain ⟨h1, h2⟩ := sameI_is (a := intO dv (dictA K d x)) (b := getInt K d dv (z :: r)) h
      rcases List.mem_cons.mp hy with rfl | hy
      · exact intO_is h1
      · exact ih h2 y hy

theorem litV_int {K : Frag} {v : Value} {j : Int} (h : litV K litD v = some (.int j)) : ∃ t, v = .int j t := by
  cases v with
  | int i t =>
    have e : i = j := AV.noConfusion (Option.some.inj h) id
    rw [e]; exact ⟨t, rfl⟩
  | ref a =>
    obtain ⟨_, _, _, _, _, hx⟩ := litV_ref (n := 2) h
    exact AV.noConfusion hx
  | none => exact AV.noConfusion (Option.some.inj h)
  | bool b => exact AV.noConfusion (Option.some.inj h)
  | str x t => exact AV.noConfusion (Option.some.inj h)
  | _ => exact nn h
theorem star_all {as : List Expr} {env : Env} : noStar as = true → (starEach as env).all (fun x => !x.1) = true := by
  induction as with
  | nil => exact fun _ => rfl
  | cons e r ih =>
    intro h
    rw [star_is (no_star h).1]
    exact ih (no_star h).2
theorem back_all {as : List Expr} {env : Env} {pos : Pos} (h : noStar as = true) : (backTo pos (starEach as env)).all (fun x => !x.1) = true := by
  have := star_all (env := env) h
  unfold backTo
  rw [List.all_map]
  exact this
theorem meth_rule {M : Model} {A : Around} {E : Value → Shared → Prop} {s : Shared} {env : Env} {id m : Str} {p ap pos : Pos} {as : List Expr} {Q : Value → Shared → Prop} (hs : noStar as = true) (hl : as.length ≤ 20) (hp : ap.endLine = pos.line)
    (h : wpAny M A (eval (.Name id p) env) (fun ov s₁ => wpAny M A (getMethod ov m (do return (← importBound (.Name id p) env).getD true)) (fun fx s₂ => wpAny M A (callWith pos fx.1 fx.2 (backTo pos (starEach as env)) []) Q E s₂) E s₁) E s) :
    wpAny M A (eval (.Call (.Attribute (.Name id p) m ap) as [] pos) env) Q E s := by
  show wpAny M A (do
    let ov ← eval (.Name id p) env
    standAt ap.atName
    methodCall (.Name id p) m ap pos env ov (as.length + 0) (backTo pos (starEach as env)) []) Q E s
  refine wpAny_bind (wpAny_mono h (fun ov s₁ h₁ => wpAny_bind (wpAny_standAt ?_)) fun _ _ e => e)
  have hf : methodCallForm (as.length + 0) (backTo pos (starEach as env)) [] = true := by
    unfold methodCallForm
    rw [back_all hs]
    have : as.length < 30 := by omega
    simp [this]
  unfold methodCall
  rw [hf]
  have hc : methodCallPos true (.Name id p) env ap pos = pure pos := by
    unfold methodCallPos
    simp [hp]
  rw [hc]
  refine wpAny_bind (wpAny_holding (wpAny_mono h₁ (fun fx s₂ h₂ => ?_) fun _ _ e => e))
  exact wpAny_bind (wpAny_pure h₂)

theorem append_rule (hv : G.ρ.ivs.length ≤ 1000) (S : Sim G.ρ fr kp st s ads) {A : Around} {E : Value → Shared → Prop} {i : Nat} {a : Addr} {vs : List Value} {xs : List AV} {k : KV} {Q : Value → Shared → Prop} (ha : ads[i]? = some a) (rs : RepVs G.ρ ads s.heap vs xs) (h : kAppend i k xs st = true)
    (hQ : ∀ v s', Post G.ρ fr kp s ads k v s' → Q v s') : wpAny (model G.prog G.w) A (call (.builtin "list.append") ([.ref a] ++ vs)) Q E s := by
  apply Rs_one rs h
  intro v0 x r0 h
  refine onS_el h fun ys hys h => and_el h fun hpl h => and_el h fun hf h => ?_
  obtain ⟨us, ep, hl1, it⟩ := list_at S ha hys
  refine append_at (its := us.toArray) (n := ep) hl1 (fun h' hsb he' => ?_) (size_list (fits_size it hv hf))
  rw [List.push_toArray] at he'
  obtain ⟨S₂, l₂⟩ := S.setL (tk := s.toks) ha (it.app (.cons r0 .nil)) hsb he'
  exact hQ _ _ ⟨.none, _, _, .none, S₂, l₂, h⟩
theorem get_rule (S : Sim G.ρ fr kp st s ads) (X : G.cf.K.In s.heap) {A : Around} {E : Value → Shared → Prop} {d : Addr} {es : Array DictEntry} {ep : Nat} {vs : List Value} {xs : List AV} {k : KV} {Q : Value → Shared → Prop}
    (hlk : G.cf.K.lookup d = some { cls := .type "dict", dict := none, data := .dict es ep, slots := #[] }) (hkeys : KeysLit G.w.params es.toList) (hsys : (d == sysModules) = false) (rs : RepVs G.ρ ads s.heap vs xs) (h : kGet G.cf d k xs st = true)
    (hQ : ∀ v s', Post G.ρ fr kp s ads k v s' → Q v s') : wpAny (model G.prog G.w) A (call (.builtin "dict.get") ([.ref d] ++ vs)) Q E s := by
  cases xs with
  | nil => exact ff h
  | cons a r =>
    obtain ⟨v0, ws, rfl, r0, rs1⟩ := rs.cons_inv
    apply Rs_one rs1 h
    intro v1 b r1 h
    apply R_str r0 h
    intro ss x t hx h
    apply R_int r1 h
    intro dv u h
    refine onS_el h fun j hj h => ?_
    have P := fun t => hQ _ _ (Post.here S (.int _ t) h (s.toks + 1))
    clear rs rs1 r0 r1 S hQ h
    refine call_meetsIn PySem.F.slot_dict_get ⟨_, X _ _ hlk, rfl⟩ PySem.F.entry_dict_get (PySem.F.args_dict_get_3 _ _ _) (meets_dict_get_default (strKind G.prog G.w) (k := x) d (strKind_is G.prog G.w x t) hsys (.int _ u)) ⟨_, mapOf_K X hlk hkeys, ?_⟩
    show Q ((findBy Value.isStrOf es x).getD _) _
    rcases getInt_rule hj x hx with ⟨v, hv, hlit⟩ | ⟨hv, rfl⟩
    · obtain ⟨tj, rfl⟩ := litV_int hlit
      rw [find_K hlk hv]
      exact P _
    · rw [find_K hlk hv]
      exact P _

theorem notOther_is {x : Me} (h : notOther x = true) : x ≠ .other := by
  rintro rfl
  exact ff h
theorem m_words (MH : MethHyp G) (H : Snd G n) (O : FrmOk G fr cx) (S : Sim G.ρ fr kp st s ads) {id m : Str} {p ap pos : Pos} {as : List Expr} {k : KV} (hs : noStar as = true) (hlen : as.length ≤ 20) (hp : ap.endLine = pos.line)
    (hl : isLocal cx id = true) (hv : find id st.loc = some .words) (h : mWords G.cf (run G.cf n) m as k cx st = true) :
    wpAny (model G.prog G.w) fr.A (eval (.Call (.Attribute (.Name id p) m ap) as [] pos) fr.env) (Post G.ρ fr kp s ads k) (Exc G fr) s := by
  refine and_el h fun hother h => ?_
  obtain ⟨mm, F, hm⟩ := S.loc
  obtain ⟨u, hu, r⟩ := hm _ _ hv
  obtain ⟨ω, hω, rfl⟩ := r.words_inv
  obtain ⟨f, hf, ht, hk, hsh, hc⟩ := MH.fn ω m hω (notOther_is hother)
  obtain ⟨g1, g2⟩ := MH.ga ω hω
  obtain ⟨i, W, _⟩ := S.words ω hω
  obtain ⟨ti, td, hD⟩ := W.dict
  refine meth_rule hs hlen hp (ld F hu ?_ O.kind (local_kind O hl) (not_debug O (local_kind O hl)))
  refine method_fn (O.X.keeps F.keep) (x := ω.W) (ox := ω.ox) (C := ω.C) (od := some (ω.dict i ti (G.ρ.d0 + st.ws.lvl) td)) ⟨W.inst, rfl, rfl, hD⟩ g1 g2 hf ht (hsh _ _ _ _) ?_
  have go : ∀ {vs : List Value} {xs : List AV} {s₁ : Shared} {st₁ : St} {ads₁ : List Addr}, RepVs G.ρ ads₁ s₁.heap vs xs → Sim G.ρ fr kp st₁ s₁ ads₁ → Later ads s.heap ads₁ s₁.heap → meth G.cf m xs st₁ k = true →
      wpAny (model G.prog G.w) fr.A (call (.ref f) ([.ref ω.W] ++ vs)) (Post G.ρ fr kp s ads k) (Exc G fr) s₁ := fun rs S₁ l₁ h₁ => by
    obtain ⟨m₁, F₁, _⟩ := S₁.loc
    exact wpAny_mono (hc h₁ O F₁ S₁.new S₁.toCore.all rs) (fun v s' q => (PostC.back S₁ q).later l₁) fun _ _ e => e
  cases as with
  | nil =>
    cases n with
    | zero => exact ff h
    | succ n => exact callWith_K0 (O.X.keeps F.keep) hk (go .nil S (Later.refl _ _) h)
  | cons e r =>
    obtain ⟨he, hr⟩ := star_cons (env := fr.env) hs
    refine callWith_K O.X hk (as_then H h hs O S fun vs s₁ xs st₁ ads₁ rs S₁ l₁ h₁ => ?_) he (plain_args hr)
    obtain ⟨m₁, F₁, _⟩ := S₁.loc
    exact ⟨O.X.keeps F₁.keep, go rs S₁ l₁ h₁⟩
theorem m_list (H : Snd G n) (O : FrmOk G fr cx) (S : Sim G.ρ fr kp st s ads) {id m : Str} {p ap pos : Pos} {as : List Expr} {k : KV} {i : Nat} (hs : noStar as = true) (hlen : as.length ≤ 20) (hp : ap.endLine = pos.line)
    (hl : isLocal cx id = true) (hv : find id st.loc = some (.lst i)) (h : mList (run G.cf n) i m as k cx st = true) :
    wpAny (model G.prog G.w) fr.A (eval (.Call (.Attribute (.Name id p) m ap) as [] pos) fr.env) (Post G.ρ fr kp s ads k) (Exc G fr) s := by
  obtain ⟨mm, F, hm⟩ := S.loc
  obtain ⟨u, hu, r⟩ := hm _ _ hv
  obtain ⟨a, ha, rfl⟩ := r.lst_inv
  have hls : i < st.lists.length := S.lists.1 ▸ (List.getElem?_eq_some_iff.mp ha).1
  obtain ⟨us, ep0, hl0, _⟩ := S.lists.2 i a st.lists[i] ha (List.getElem?_eq_getElem hls)
  have lk := local_kind O hl
  clear hm hv r
  revert h
  unfold mList
  cases hmn : eqS m (Str.ofString "append") with
  | true =>
    intro h
    obtain rfl := eqS_iff.mp hmn
    obtain ⟨hn, h⟩ := and_b h
    cases as with
    | nil => exact ff hn
    | cons e r =>
      obtain ⟨he, hr⟩ := star_cons (env := fr.env) hs
      refine meth_rule hs hlen hp (ld F hu (getMethod_list_append hl0 rfl rfl ?_) O.kind lk (not_debug O lk))
      refine callWith_method1 (as_then H h hs O S fun vs s₁ xs st₁ ads₁ rs S₁ l₁ h₁ => ?_) he (plain_args hr)
      have l2 := l₁
      obtain ⟨⟨rr, rfl⟩, _⟩ := l2
      exact append_rule O.ivs S₁ (nth_app ha) rs h₁ fun _ _ p => p.later l₁
  | false =>
    intro h
    obtain ⟨hmn, h⟩ := and_b h
    obtain rfl := eqS_iff.mp hmn
    obtain ⟨e, rfl, h⟩ := one_is h
    refine meth_rule hs hlen hp (ld F hu (getMethod_list_of (items := us.toArray) PySem.F.slot_list_index PySem.F.type_list_index ⟨_, hl0, rfl, ep0, rfl⟩ ⟨_, hl0, rfl⟩ ?_) O.kind lk (not_debug O lk))
    exact m_index H O S ha hs h
theorem m_get (MH : MethHyp G) (H : Snd G n) (O : FrmOk G fr cx) (S : Sim G.ρ fr kp st s ads) {id m : Str} {p ap pos : Pos} {as : List Expr} {k : KV} (hs : noStar as = true) (hlen : as.length ≤ 20) (hp : ap.endLine = pos.line)
    (h : mGet G.cf (run G.cf n) id m as k cx st = true) :
    wpAny (model G.prog G.w) fr.A (eval (.Call (.Attribute (.Name id p) m ap) as [] pos) fr.env) (Post G.ρ fr kp s ads k) (Exc G fr) s := by
  refine and_el h fun hg h => and_el h fun hmn h => and_el h fun hid h => and_el h fun hn h => onS_el h fun d hd h => ?_
  rw [eqS_iff.mp hid] at hd hg ⊢
  rw [eqS_iff.mp hmn]
  obtain ⟨mm, F, _⟩ := S.loc
  obtain ⟨es, ep, hlk, hkeys, hsys⟩ := MH.lev d hd
  have hdo := (O.X.keeps F.keep) _ _ hlk
  cases as with
  | nil => exact ff hn
  | cons e r =>
    obtain ⟨he, hr⟩ := star_cons (env := fr.env) hs
    refine meth_rule hs hlen hp (name_K F O.X O.T (globRef_is hd) ?_ O.kind (global_kind O hg) (not_debug O (global_kind O hg)))
    refine getMethod_builtin (T := "dict") ⟨_, hdo, rfl⟩ PySem.F.plainAttrs_dict PySem.F.slot_dict_get PySem.F.type_dict_get (fun b e => by cases e; exact ⟨_, hdo, rfl⟩) ?_
    refine callWith_method1 (as_then H h hs O S fun vs s₁ xs st₁ ads₁ rs S₁ l₁ h₁ => ?_) he (plain_args hr)
    obtain ⟨m₁, F₁, _⟩ := S₁.loc
    exact get_rule S₁ (O.X.keeps F₁.keep) hlk hkeys hsys rs h₁ fun _ _ p => p.later l₁
theorem e_meth (MH : MethHyp G) (H : Snd G n) (O : FrmOk G fr cx) (S : Sim G.ρ fr kp st s ads) {id m : Str} {p ap pos : Pos} {as : List Expr} {k : KV} (hs : noStar as = true) (hlen : as.length ≤ 20) (hp : ap.endLine = pos.line)
    (h : eMeth G.cf (run G.cf n) id m as k cx st = true) :
    wpAny (model G.prog G.w) fr.A (eval (.Call (.Attribute (.Name id p) m ap) as [] pos) fr.env) (Post G.ρ fr kp s ads k) (Exc G fr) s := by
  revert h
  unfold eMeth
  cases hl : isLocal cx id with
  | false => exact fun h => m_get MH H O S hs hlen hp h
  | true =>
    intro h
    refine onS_el h fun v hv h => ?_
    cases v with
    | words => exact m_words MH H O S hs hlen hp hl hv h
    | lst i => exact m_list H O S hs hlen hp hl hv h
    | _ => exact ff h

theorem e_callF (MH : MethHyp G) (H : Snd G n) (O : FrmOk G fr cx) (S : Sim G.ρ fr kp st s ads) {f : Expr} {as : List Expr} {pos : Pos} {k : KV} (h : eCallF G.cf (run G.cf n) f as pos k cx st = true) :
    wpAny (model G.prog G.w) fr.A (eval (.Call f as [] pos) fr.env) (Post G.ρ fr kp s ads k) (Exc G fr) s := by
  cases f with
  | Name id p => exact e_callN H O S h
  | Attribute o m ap =>
    refine onS_el (o := nameO o) h fun id ho h => and_el h fun hs h => and_el h fun hl h => and_el h fun hp h1 => ?_
    clear h
    obtain ⟨p, rfl⟩ := nameO_is ho
    exact e_meth MH H O S hs (Nat.le_of_ble_eq_true hl) (Nat.eq_of_beq_eq_true hp) h1
  | _ => exact ff h
theorem e_rule (MH : MethHyp G) (H : Snd G n) (O : FrmOk G fr cx) (S : Sim G.ρ fr kp st s ads) {x : Expr} {k : KV} (h : stE G.cf (run G.cf n) x k cx st = true) :
    wpAny (model G.prog G.w) fr.A (eval x fr.env) (Post G.ρ fr kp s ads k) (Exc G fr) s := by
  cases x with
  | Name id p => exact e_name O S h
  | Constant c a p => exact e_const S h
  | Compare l ops rs p => exact e_cmp H O S h
  | BoolOp op es p => exact e_bool H O S h
  | UnaryOp op e p => exact e_un H O S h
  | IfExp t b o p => exact e_if H O S h
  | Tuple es a p => exact e_tup H O S h
  | List es p => exact e_list H O S h
  | Subscript v i p => exact e_part H O S h
  | BinOp l op r p => exact e_bin H O S h
  | Call f as ks pos => cases ks with
    | nil => exact e_callF MH H O S h
    | cons _ _ => exact ff h
  | _ => exact ff h
end
end Mine

namespace Mine
section
variable {G : Gl} {fr : Frm} {kp : Kp} {cx : Cx} {st : St} {s : Shared} {ads : List Addr} {n : Nat}

noncomputable def ExcHeld (G : Gl) (fr : Frm) (x : Value) (s : Shared) : Prop :=
  Over G ∧ ∃ e a0, x = .ref e ∧ Heap.HeldW fr.base (fr.env :: fr.outer) e (.ref G.GF) a0 fr.L s.heap ∧ fr.g.UpToSlots s.heap ∧ OutAs G.ρ.s0 s

theorem fly_note (O : FrmOk G fr cx) {x : Value} {E : Value → Shared → Prop} (h : Exc G fr x s) : wpAny (model G.prog G.w) fr.A (noteFrame x fr.env) (fun _ s' => ExcHeld G fr x s') E s := by
  obtain ⟨o, e, a0, rfl, hf, hu, ho⟩ := h
  rcases hf with hf | hf
  · exact wpAny_looks_onW (Around.frames_deeper O.below.stack) rfl hf fun h' hh hs => ⟨o, e, a0, rfl, hh, hu.trans hs, ho⟩
  · exact wpAny_noteFrame_againW rfl hf.2.2.2 ⟨o, e, a0, rfl, hf, hu, ho⟩

theorem fly_back {x : Value} (h : ExcHeld G fr x s) : cameBackBy (model G.prog G.w) fr.A fr.env (Exc G fr) x s := by
  obtain ⟨o, e, a0, rfl, hh, hu, ho⟩ := h
  obtain ⟨f1, f2, f3, oe, vs, T, oT, ts, he, hcls, hd, h1, hnT, hTe, hT, hdT, h3⟩ := hh
  have hsz3 : 3 < ts.size := (Array.getElem?_eq_some_iff.mp h3).1
  have other : ∀ b, b ≠ T → (s.heap.update T (Obj.mapFields (·.setIfInBounds 3 (rawInt fr.L)))).get? b = s.heap.get? b := fun b hb => Heap.get?_update_other _ _ (Ne.symm hb)
  have noRecord : ∀ b o, s.heap.get? b = some o → (∀ vs, o.data ≠ .fields vs) → b ≠ T := fun b o hb hnf q => by
    rw [q, hT] at hb; injection hb with hb; subst hb; exact hnf ts hdT
  unfold cameBackBy
  refine wpAny_bind (wpAny_field he hd h1 ?_)
  rw [if_neg (show ¬ ((Value.ref T == Value.none) = true) from by simp)]
  unfold setFlight
  refine wpAny_bind (wpAny_field he hd h1 ?_)
  rw [if_pos (show (Value.ref T != Value.none) = true from by simp)]
  refine wpAny_setField hT hdT hsz3 ?_
  refine ⟨o, e, a0, rfl, .inr ⟨fun b o hbo => (other b fun q => by rw [q, hnT] at hbo; (first | exact ff hbo | exact nn hbo | exact ns hbo | exact tf hbo | exact ln hbo | exact lc hbo | cases hbo)).trans (f1 b o hbo), f2, f3.of_keeps fun b o hb hnf => ⟨o, (other b (noRecord b o hb hnf)).trans hb, rfl⟩, ?_⟩, ?_, ho⟩
  · exact ⟨oe, vs, T, _, _, (other e (Ne.symm hTe)).trans he, hcls, hd, h1, hnT, hTe, Heap.get?_update_self _ hT (Obj.isFreed_of_fields (Obj.data_mapFields hdT _)), Obj.data_mapFields hdT _, by simp [hsz3]; rfl⟩
  · exact hu.trans fun b o hb hnf => ⟨o.slots, (other b (noRecord b o hb hnf)).trans hb⟩

/-- an exception that leaves the frame -/
theorem fly_leave (O : FrmOk G fr cx) {x : Value} {Q : Unit → Shared → Prop} {E : Value → Shared → Prop} (h : Exc G fr x s)
    (k : ∀ e a0 h', x = .ref e → Heap.FlyingW fr.base fr.outer e (.ref G.GF) a0 h' → fr.g.UpToSlots h' → Q () { s with heap := h' }) :
    wpAny (model G.prog G.w) fr.A (leaving fr.env x) Q E s := by
  obtain ⟨o, e, a0, rfl, hf, hu, ho⟩ := h
  rcases hf with hf | hf
  · exact wpAny_leaves_onW (Around.frames_deeper O.below.stack) rfl hf fun h' hh hs => k e a0 h' rfl hh (hu.trans hs)
  · unfold leaving
    refine wpAny_bind (wpAny_noteFrame_againW rfl hf.2.2.2 ?_)
    refine wpAny_landsW hf fun h' hfl hs => k e a0 h' rfl ?_ (hu.trans hs)
    obtain ⟨k1, k2, ⟨_, _, k3⟩, k4⟩ := hfl
    exact ⟨k1, k2, k3, k4⟩

/-- what a loop's end says -/
noncomputable def LoopR (G : Gl) (fr : Frm) (kp : Kp) (s : Shared) (ads : List Addr) (k : KF) : Result → Shared → Prop := fun r s' => match r with
  | .ok f => PostF G.ρ fr kp s ads k f s'
  | .error e => cameBackBy (model G.prog G.w) fr.A fr.env (Exc G fr) e s'
theorem noted (O : FrmOk G fr cx) {k : KF} {x : Value} {s' : Shared} (h : Exc G fr x s') : notedBy (model G.prog G.w) fr.A fr.env (fun e s' => LoopR G fr kp s ads k (.error e) s') x s' :=
  wpAny_mono (fly_note O (E := fun e s'' => LoopR G fr kp s ads k (.error e) s'') h) (fun _ _ q => fly_back q) fun _ _ e => e

theorem turn_rest {b : List Stmt} {again : Job} {k : KF} {f : Flow} {s₂ : Shared} {st₂ : St} {ads₂ : List Addr} {y : Fl} {ih : IH} {P : Flow → Prop} (r : RepF G.ρ ads₂ s₂.heap f y) (S₂ : Sim G.ρ fr kp st₂ s₂ ads₂) (l₂ : Later ads s.heap ads₂ s₂.heap) (h : kTurn ih again k cx y st₂ = true)
    (k1 : ih again cx st₂ = true → P .next) (k2 : PostF G.ρ fr kp s ads k .next s₂ → P .brk) (k3 : ∀ v, PostF G.ρ fr kp s ads k (.ret v) s₂ → P (.ret v)) : P f := by
  cases y with
  | next => cases r.inv; exact k1 h
  | brk => cases r.inv; exact k2 ⟨.next, st₂, ads₂, .next, S₂, l₂, h⟩
  | ret v =>
    obtain ⟨u, rfl, r'⟩ := r.inv
    exact k3 u ⟨.ret _, st₂, ads₂, .ret r', S₂, l₂, h⟩
theorem s_while (H : ∀ m, m ≤ n → Snd G m) (O : FrmOk G fr cx) (S : Sim G.ρ fr kp st s ads) {t : Expr} {b : List Stmt} {pos : Pos} {k : KF} (h : run G.cf n (.wh t b k) cx st = true) :
    wpAny (model G.prog G.w) fr.A (exec (.While t b [] pos) fr.env) (PostF G.ρ fr kp s ads k) (Exc G fr) s := by
  refine wpAny_While ?_
  show codeAny _ _ _ (LoopR G fr kp s ads k) s
  refine opaque_inv (fun m s' => m ≤ n ∧ ∃ st' ads', Sim G.ρ fr kp st' s' ads' ∧ Later ads s.heap ads' s'.heap ∧ run G.cf m (.wh t b k) cx st' = true) fun J i1 i2 => codeAny_whileLoop J ?_ n (i2 _ _ ⟨Nat.le_refl _, st, ads, S, Later.refl _ _, h⟩)
  intro m s' hj
  obtain ⟨hm, st', ads', S', l', h'⟩ := i1 _ _ hj
  clear i1 hj h S
  cases m with
  | zero => exact ff h'
  | succ m =>
    have hs := H m (Nat.le_of_succ_le hm)
    refine wpAny_mono (t_then hs h' O S' (Q := fun c s₁ => ∃ st₁ ads₁, Sim G.ρ fr kp st₁ s₁ ads₁ ∧ Later ads s.heap ads₁ s₁.heap ∧ (match c with | true => run G.cf m (.ss b fun f st => kTurn (run G.cf m) (.wh t b k) k cx f st) cx st₁ | false => k .next st₁) = true) fun c s₁ st₁ ads₁ S₁ l₁ h₁ => ⟨st₁, ads₁, S₁, l'.trans l₁, h₁⟩) (fun c s₁ h₁ => ?_) fun _ _ e => noted O e
    obtain ⟨st₁, ads₁, S₁, l₁, h₁⟩ := h₁
    cases c with
    | false => exact wpAny_execs_nil ⟨.next, st₁, ads₁, .next, S₁, l₁, h₁⟩
    | true =>
      refine wpAny_mono (hs.ss h₁ O S₁) (fun f s₂ h₂ => ?_) fun _ _ e => noted O e
      obtain ⟨x, st₂, ads₂, r, S₂, l₂, h₂⟩ := h₂
      have l₂ := l₁.trans l₂
      apply turn_rest (b := b) r S₂ l₂ h₂
      · exact fun q => ⟨m, Nat.lt_succ_self m, i2 _ _ ⟨Nat.le_of_succ_le hm, st₂, ads₂, S₂, l₂, q⟩⟩
      · exact fun q => q
      · exact fun v q => q
end
end Mine

namespace Mine
section
variable {G : Gl} {fr : Frm} {kp : Kp} {cx : Cx} {st : St} {s : Shared} {ads : List Addr} {n : Nat}

theorem allLocal_cons {sc : Scope} {x : Str} {r : List Str} : allLocal sc (x :: r) = true → find x sc.names = some .local ∧ allLocal sc r = true := by
  show (match find x sc.names with | some .local => allLocal sc r | _ => false) = true → _
  rcases find x sc.names with _ | k
  · exact fun h => ff h
  · cases k <;> first | exact fun h => ff h | exact fun h => ⟨rfl, h⟩
theorem allLocal_at {cx : Cx} {xs : List Str} : allLocal cx.scope xs = true → ∀ x ∈ xs, isLocal cx x = true := by
  induction xs with
  | nil => exact fun _ x hx => absurd hx List.not_mem_nil
  | cons y r ih =>
    intro h
    obtain ⟨h1, h2⟩ := allLocal_cons h
    exact List.forall_mem_cons.mpr ⟨by unfold isLocal; rw [h1], ih h2⟩
theorem apart_cons {x : Str} {r : List Str} : apart (x :: r) = true → x ∉ r ∧ apart r = true := by
  show (match inS x r with | true => false | false => apart r) = true → _
  cases q : inS x r with
  | true => exact fun h => ff h
  | false => exact fun h => ⟨inS_false.mp q, h⟩

/-- names stored one behind the other -/
theorem store_all (O : FrmOk G fr cx) {E : Value → Shared → Prop} {ps : List (Str × Pos)} : ∀ {vs : List Value} {ys : List AV} {m : List (Str × AV)} {st : St} {s : Shared}, Sim G.ρ fr kp st s ads → RepVs G.ρ ads s.heap vs ys →
    allLocal cx.scope (ps.map (·.1)) = true → putAll (ps.map (·.1)) ys st.loc = some m →
    wpAny (model G.prog G.w) fr.A (assignInOrder (ps.map fun q => fun v => assign (.Name q.1 q.2) fr.env v) vs) (fun _ s' => Sim G.ρ fr kp ⟨m, st.lists, st.ws⟩ s' ads ∧ Later ads s.heap ads s'.heap) E s := by
  induction ps with
  | nil =>
    intro vs ys m st s S r _ h
    cases ys with
    | nil =>
      rw [r.nil_inv, ← Option.some.inj h]
      exact assignInOrder_nil ⟨S, Later.refl _ _⟩
    | cons _ _ => exact nn h
  | cons q ps ih =>
    intro vs ys m st s S r hl h
    cases ys with
    | nil => exact nn h
    | cons y ys =>
      obtain ⟨v, ws, rfl, rv, rs⟩ := r.cons_inv
      obtain ⟨h1, hl⟩ := allLocal_cons hl
      refine assignInOrder_cons (assign_Name (wpAny_mono (store_rule O S rv (by unfold isLocal; rw [h1])) (fun _ s₁ q₁ => ?_) fun _ _ e => e))
      exact wpAny_mono (ih q₁.1 (rs.mono q₁.2) hl h) (fun _ s₂ q₂ => ⟨q₂.1, q₁.2.trans q₂.2⟩) fun _ _ e => e
theorem find_putAll {α : Type} (z : Str) {xs : List Str} : ∀ {vs : List α} {m m' : List (Str × α)}, putAll xs vs m = some m' → apart xs = true → find z m' = if z ∈ xs then find z (xs.zip vs) else find z m := by
  induction xs with
  | nil =>
    intro vs m m' h _
    cases vs with
    | nil => rw [← Option.some.inj h]; exact (if_neg List.not_mem_nil).symm
    | cons _ _ => exact nn h
  | cons x xs ih =>
    intro vs m m' h ha
    cases vs with
    | nil => exact nn h
    | cons v vs =>
      obtain ⟨h1, h2⟩ := apart_cons ha
      rw [ih h h2, find_put]
      show _ = if z ∈ x :: xs then (match eqS z x with | true => some v | false => find z (xs.zip vs)) else find z m
      by_cases hz : z = x
      · subst hz
        rw [if_neg h1, if_pos rfl, if_pos (List.mem_cons_self), eqS_refl]
      · rw [if_neg hz, eqS_false.mpr hz]
        by_cases hzx : z ∈ xs
        · rw [if_pos hzx, if_pos (List.mem_cons_of_mem _ hzx)]
        · rw [if_neg hzx, if_neg fun q => (List.mem_cons.mp q).elim hz hzx]
end
end Mine

namespace Mine

theorem filter_all {f : Expr → Option Str} (hf : ∀ x p, f (.Name x p) = some x ∨ f (.Name x p) = none) {es : List Expr} : ∀ {xs : List Str}, tNames es = some xs → (es.filterMap f).length = es.length → es.filterMap f = xs := by
  induction es with
  | nil => intro xs h _; rw [← Option.some.inj h]; rfl
  | cons e r ih =>
    intro xs h hl
    refine onO_el h fun y hy h => onO_el h fun l hl' h3 => ?_
    clear h
    obtain ⟨p, rfl⟩ := nameO_is hy
    rw [← Option.some.inj h3]
    rcases hf y p with hc | hc
    · rw [List.filterMap_cons_some hc] at hl ⊢
      rw [ih hl' (Nat.succ.inj hl)]
    · rw [List.filterMap_cons_none hc] at hl
      exact absurd (hl ▸ List.length_filterMap_le _ r) (Nat.not_succ_le_self _)
theorem filter_names (c : Str → Pos → Bool) {es : List Expr} {xs : List Str} : tNames es = some xs →
    (es.filterMap fun e => match e with | .Name id pos => if c id pos = true then some id else none | _ => none).length = es.length →
    (es.filterMap fun e => match e with | .Name id pos => if c id pos = true then some id else none | _ => none) = xs :=
  filter_all fun x p => by
    by_cases hc : c x p = true
    · exact .inl (if_pos hc)
    · exact .inr (if_neg hc)

theorem swap_cases {es : List Expr} {xs : List Str} {e : Expr} {k : Nat} {tp : Pos} {env : Env} (hn : tNames es = some xs) (hf : swapFine e = true) :
    swappedStores [.Tuple es k tp] e env = pure none ∨ swappedStores [.Tuple es k tp] e env = pure (some xs) := by
  cases e with
  | Tuple vs a p =>
    unfold swappedStores
    dsimp only
    split
    · exact .inl rfl
    · split
      · exact .inl rfl
      · split
        · exact .inl rfl
        · rename_i h1 h2 h3
          split
          · exact .inl rfl
          · rename_i h4
            split
            · rename_i h5
              exfalso
              unfold swapFine at hf
              simp_all
            · right
              simp only [Bool.or_eq_true, not_or, bne_iff_ne, ne_eq, Decidable.not_not] at h3
              exact congrArg (fun l : List Str => (pure (some l) : Sem (Option (List Str)))) (filter_names (fun id pos => env.kindOf id == some NameKind.local && pos.line == (Option.map (fun x => (Expr.pos x).line) es.head?).getD 0) hn h3.1)
  | _ => exact .inl rfl

theorem zip_find {α : Type} (z : Str) {xs : List Str} : ∀ {vs : List α} {v : α}, apart xs = true → (z, v) ∈ xs.zip vs → find z (xs.zip vs) = some v := by
  induction xs with
  | nil => exact fun _ h => absurd h List.not_mem_nil
  | cons x xs ih =>
    intro vs v ha h
    cases vs with
    | nil => exact absurd h List.not_mem_nil
    | cons u vs =>
      obtain ⟨hx, ha⟩ := apart_cons ha
      show (match eqS z x with | true => some u | false => find z (xs.zip vs)) = some v
      rcases List.mem_cons.mp h with h | h
      · rw [Prod.mk.inj h |>.1, eqS_refl, (Prod.mk.inj h).2]
      · rw [eqS_false.mpr (show z ≠ x from fun q => hx (q ▸ (List.of_mem_zip h).1))]
        exact ih ha h
theorem apart_iff {xs : List Str} : apart xs = true ↔ xs.Nodup := by
  induction xs with
  | nil => exact ⟨fun _ => .nil, fun _ => rfl⟩
  | cons x xs ih =>
    rw [List.nodup_cons]
    refine ⟨fun h => ⟨(apart_cons h).1, ih.mp (apart_cons h).2⟩, fun h => ?_⟩
    show (match inS x xs with | true => false | false => apart xs) = true
    rw [inS_false.mpr h.1]
    exact ih.mpr h.2
theorem putAll_some {α : Type} {xs : List Str} : ∀ {vs : List α} {m : List (Str × α)}, xs.length = vs.length → ∃ m', putAll xs vs m = some m' := by
  induction xs with
  | nil =>
    intro vs m h
    cases vs with
    | nil => exact ⟨m, rfl⟩
    | cons _ _ => exact Nat.noConfusion h
  | cons x xs ih =>
    intro vs m h
    cases vs with
    | nil => exact Nat.noConfusion h
    | cons v vs => exact ih (Nat.succ.inj h)
theorem putAll_len {α : Type} {xs : List Str} : ∀ {vs : List α} {m m' : List (Str × α)}, putAll xs vs m = some m' → xs.length = vs.length := by
  induction xs with
  | nil =>
    intro vs m m' h
    cases vs with
    | nil => rfl
    | cons _ _ => exact nn h
  | cons x xs ih =>
    intro vs m m' h
    cases vs with
    | nil => exact nn h
    | cons v vs => exact congrArg (· + 1) (ih h)
theorem zip_rev {α β : Type} {xs : List α} : ∀ {vs : List β}, xs.length = vs.length → xs.reverse.zip vs.reverse = (xs.zip vs).reverse := by
  induction xs with
  | nil => exact fun _ => rfl
  | cons x xs ih =>
    intro vs h
    cases vs with
    | nil => exact Nat.noConfusion h
    | cons v vs =>
      have h' := Nat.succ.inj h
      rw [List.reverse_cons, List.reverse_cons, List.zip_append (by rw [List.length_reverse, List.length_reverse, h']), ih h']
      exact (List.reverse_cons (as := xs.zip vs)).symm
/-- the order of the stores is no matter -/
theorem putAll_rev {α : Type} {xs : List Str} {vs : List α} {m m₁ m₂ : List (Str × α)} (ha : apart xs = true) (h₁ : putAll xs vs m = some m₁) (h₂ : putAll xs.reverse vs.reverse m = some m₂) (z : Str) : find z m₁ = find z m₂ := by
  have ha' : apart xs.reverse = true := apart_iff.mpr (List.pairwise_reverse.mpr ((apart_iff.mp ha).imp Ne.symm))
  rw [find_putAll z h₁ ha, find_putAll z h₂ ha']
  by_cases hz : z ∈ xs
  · rw [if_pos hz, if_pos (by simpa using hz)]
    have hl := putAll_len h₁
    obtain ⟨i, hi⟩ := List.getElem?_of_mem hz
    obtain ⟨h1, h2⟩ := List.getElem?_eq_some_iff.mp hi
    have hm : (z, vs[i]'(hl ▸ h1)) ∈ xs.zip vs := by
      refine List.mem_of_getElem? (i := i) ?_
      rw [List.getElem?_zip_eq_some]
      exact ⟨hi, by simp⟩
    rw [zip_find z ha hm]
    have hr : xs.reverse.zip vs.reverse = (xs.zip vs).reverse := zip_rev hl
    rw [zip_find z ha' (by rw [hr]; simpa using hm)]
  · rw [if_neg hz, if_neg (by simpa using hz)]

section
variable {G : Gl} {fr : Frm} {kp : Kp} {cx : Cx} {st : St} {s : Shared} {ads : List Addr} {n : Nat}
theorem Sim.locs {ρ : Rho} {m₁ m₂ : List (Str × AV)} {l : List (List AV)} {ws : WS} (S : Sim ρ fr kp ⟨m₁, l, ws⟩ s ads) (h : ∀ z, find z m₂ = find z m₁) : Sim ρ fr kp ⟨m₂, l, ws⟩ s ads := by
  obtain ⟨m, F, hm⟩ := S.loc
  exact ⟨⟨S.lists, S.words, S.src, S.kept, S.apart, S.lv, S.out⟩, ⟨m, F, fun x v e => hm x v (by rw [← h]; exact e)⟩, S.new, S.off⟩
theorem RepVs.rev {ρ : Rho} {h : Heap} {vs : List Value} {xs : List AV} (r : RepVs ρ ads h vs xs) : RepVs ρ ads h vs.reverse xs.reverse := by
  refine RepVs.of_at (by simp [r.length]) fun i v x h1 h2 => ?_
  have e := r.length
  have hi : i < vs.length := by have := (List.getElem?_eq_some_iff.mp h1).1; simpa using this
  rw [List.getElem?_reverse hi] at h1
  rw [List.getElem?_reverse (e ▸ hi)] at h2
  exact r.at _ v x h1 (by rw [← e] at h2; exact h2)
end
end Mine

namespace Mine
section
variable {G : Gl} {fr : Frm} {kp : Kp} {cx : Cx} {st : St} {s : Shared} {ads : List Addr} {n : Nat}

theorem each_names {es : List Expr} : ∀ {xs : List Str}, tNames es = some xs → ∃ ps : List (Str × Pos), xs = ps.map (·.1) ∧ es = ps.map (fun q => Expr.Name q.1 q.2) := by
  induction es with
  | nil => intro xs h; exact ⟨[], (Option.some.inj h).symm, rfl⟩
  | cons e r ih =>
    intro xs h
    refine onO_el h fun y hy h => onO_el h fun l hl h3 => ?_
    obtain ⟨p, he⟩ := nameO_is hy
    obtain ⟨ps, e1, e2⟩ := ih hl
    exact ⟨(y, p) :: ps, by rw [← Option.some.inj h3, e1]; rfl, by rw [he, e2]; rfl⟩
theorem each_is (env : Env) {ps : List (Str × Pos)} : assignEach (ps.map fun q => Expr.Name q.1 q.2) env = ps.map fun q => (false, fun v => assign (.Name q.1 q.2) env v) := by
  induction ps with
  | nil => rfl
  | cons q ps ih => exact congrArg ((false, fun v => assign (.Name q.1 q.2) env v) :: ·) ih
theorem handled_A (O : FrmOk G fr cx) : fr.A.handled = none := O.hh

theorem ext_of {h h' : Heap} (k : Heap.ExtBut h.objs.size h h') : ∀ b o, h.get? b = some o → h'.get? b = some o := fun b o e => k b o (Nat.ne_of_lt (Heap.lt_size e)) e

theorem bind_tup (O : FrmOk G fr cx) (S : Sim G.ρ fr kp st s ads) {es : List Expr} {k : Nat} {tp : Pos} {t : Addr} {us : List Value} {ep : Nat} {ys : List AV} {xs : List Str} {m : List (Str × AV)} (hT : s.heap.get? t = some (tupObj us ep)) (rs : RepVs G.ρ ads s.heap us ys)
    (hx : tNames es = some xs) (hl : allLocal cx.scope xs = true) (h : putAll xs ys st.loc = some m) {E : Value → Shared → Prop} :
    wpAny (model G.prog G.w) fr.A (assign (.Tuple es k tp) fr.env (.ref t)) (fun _ s' => Sim G.ρ fr kp ⟨m, st.lists, st.ws⟩ s' ads ∧ Later ads s.heap ads s'.heap) E s := by
  obtain ⟨ps, rfl, rfl⟩ := each_names hx
  have hz : (assignEach (ps.map fun q => Expr.Name q.1 q.2) fr.env).length = us.toArray.size := by
    rw [each_is, List.length_map, List.size_toArray, rs.length, ← putAll_len h, List.length_map]
  refine assign_Tuple_tuple (items := us.toArray) (handled_A O) ⟨_, hT, rfl, ep, rfl⟩ hz (by rw [each_is]; exact List.findIdx?_eq_none_iff.mpr fun x hx => by obtain ⟨q, _, rfl⟩ := List.mem_map.mp hx; rfl) fun h' hk => ?_
  have l := Later.ext (ads := ads) (ext_of hk)
  rw [each_is, List.map_map]
  exact wpAny_mono (store_all O (S.ext (tk := s.toks) (ext_of hk)) (rs.mono l) hl h) (fun _ s₂ q => ⟨q.1, l.trans q.2⟩) fun _ _ e => e
theorem R_tupF {ρ : Rho} {h : Heap} {u : Value} {x : AV} {f : List AV → Option (List (Str × AV))} {m : List (Str × AV)} {P : Value → Prop} (r : RepV ρ ads h u x) (hf : tupF x f = some m) (k : ∀ T vs n xs, h.get? T = some (tupObj vs n) → RepVs ρ ads h vs xs → f xs = some m → P (.ref T)) : P u := by
  cases x with
  | tup xs =>
    obtain ⟨T, vs, n, rfl, hT, hlen, hat⟩ := r.tup_inv
    exact k T vs n xs hT (RepVs.of_at hlen hat) hf
  | _ => exact nn hf
theorem bind_rule (O : FrmOk G fr cx) (S : Sim G.ρ fr kp st s ads) {tgt : Expr} {u : Value} {v : AV} {m : List (Str × AV)} (r : RepV G.ρ ads s.heap u v) (h : bindT cx tgt v st.loc = some m) {E : Value → Shared → Prop} :
    wpAny (model G.prog G.w) fr.A (assign tgt fr.env u) (fun _ s' => Sim G.ρ fr kp ⟨m, st.lists, st.ws⟩ s' ads ∧ Later ads s.heap ads s'.heap) E s := by
  cases tgt with
  | Name x p =>
    obtain ⟨hl, h⟩ := gd_is h
    rw [← Option.some.inj h]
    exact assign_Name (store_rule O S r hl)
  | Tuple es a p =>
    refine onO_el (o := tNames es) h fun xs hx h => ?_
    apply R_tupF r h
    intro t us ep ys hT rs h
    exact gd_el h fun hl h => gd_el h fun ha h => bind_tup O S hT rs hx hl h
  | _ => exact nn h
theorem bind_all (O : FrmOk G fr cx) {E : Value → Shared → Prop} {xs : List Str} : ∀ {vs : List Value} {ys : List AV} {m : List (Str × AV)} {st : St} {s : Shared}, Sim G.ρ fr kp st s ads → RepVs G.ρ ads s.heap vs ys →
    (∀ x ∈ xs, isLocal cx x = true) → putAll xs ys st.loc = some m →
    wpAny (model G.prog G.w) fr.A (assignInOrder (xs.map fun x => bindName fr.env x) vs) (fun _ s' => Sim G.ρ fr kp ⟨m, st.lists, st.ws⟩ s' ads ∧ Later ads s.heap ads s'.heap) E s := by
  induction xs with
  | nil =>
    intro vs ys m st s S r _ h
    cases ys with
    | nil =>
      rw [r.nil_inv, ← Option.some.inj h]
      exact assignInOrder_nil ⟨S, Later.refl _ _⟩
    | cons _ _ => exact nn h
  | cons x xs ih =>
    intro vs ys m st s S r hl h
    cases ys with
    | nil => exact nn h
    | cons y ys =>
      obtain ⟨v, ws, rfl, rv, rs⟩ := r.cons_inv
      refine assignInOrder_cons (bindName_ (wpAny_mono (store_rule O S rv (hl x (.head _))) (fun _ s₁ q₁ => ?_) fun _ _ e => e))
      exact wpAny_mono (ih q₁.1 (rs.mono q₁.2) (fun y hy => hl y (.tail _ hy)) h) (fun _ s₂ q₂ => ⟨q₂.1, q₁.2.trans q₂.2⟩) fun _ _ e => e

theorem s_unpack (H : Snd G n) (O : FrmOk G fr cx) (S : Sim G.ρ fr kp st s ads) {es : List Expr} {a : Nat} {tp pos : Pos} {e : Expr} {k : KF} (hc : isComp e = false) (h : sTup (run G.cf n) es e k cx st = true) :
    wpAny (model G.prog G.w) fr.A (exec (.Assign [.Tuple es a tp] e pos) fr.env) (PostF G.ρ fr kp s ads k) (Exc G fr) s := by
  refine onS_el h fun xs hx h => and_el h fun hl h => and_el h fun ha h => and_el h fun hf h => ?_
  have hsw : swapsWithSole [.Tuple es a tp] e pos.line fr.env = pure false := by
    show swapsWith e (some (.Tuple es a tp)) pos.line fr.env = pure false
    exact no_swap hc
  rcases swap_cases (k := a) (tp := tp) (env := fr.env) hx hf with hw | hw
  · refine Assign_Tuple (e_then H h O S fun v s₁ y st₁ ads₁ r S₁ l₁ h₁ => ?_) hsw hw
    replace h₁ : tupS y (fun vs => onS (putAll xs vs st₁.loc) fun m => k .next ⟨m, st₁.lists, st₁.ws⟩) = true := h₁
    apply R_tup r h₁
    intro t us ep ys hT rs h₁
    exact onS_el h₁ fun m hm hk => wpAny_mono (bind_tup O S₁ hT rs hx hl hm) (fun _ s₂ q => ⟨.next, _, _, .next, q.1, l₁.trans q.2, hk⟩) fun _ _ e => e
  · refine Assign_Tuple_swapped (e_then H h O S fun v s₁ y st₁ ads₁ r S₁ l₁ h₁ => ?_) hsw hw
    replace h₁ : tupS y (fun vs => onS (putAll xs vs st₁.loc) fun m => k .next ⟨m, st₁.lists, st₁.ws⟩) = true := h₁
    apply R_tup r h₁
    intro t us ep ys hT rs h₁
    refine onS_el h₁ fun m hm hk => ?_
    rw [show xs.length = us.toArray.size from by rw [putAll_len hm, ← rs.length, List.size_toArray]]
    refine unpackItems_tuple (handled_A O) ⟨_, hT, rfl, ep, rfl⟩ fun h' hkk => ?_
    have l₂ := Later.ext (ads := ads₁) (ext_of hkk)
    obtain ⟨m', hm'⟩ := putAll_some (xs := xs.reverse) (vs := ys.reverse) (m := st₁.loc) (by rw [List.length_reverse, List.length_reverse, putAll_len hm])
    exact wpAny_mono (bind_all O (S₁.ext (tk := s₁.toks) (ext_of hkk)) ((rs.mono l₂).rev) (fun y hy => allLocal_at hl y (List.mem_reverse.mp hy)) hm')
      (fun _ s₂ q => ⟨.next, ⟨m, st₁.lists, st₁.ws⟩, _, .next, q.1.locs fun z => putAll_rev ha hm hm' z, (l₁.trans l₂).trans q.2, hk⟩) fun _ _ e => e
end
end Mine

namespace Mine
section
variable {G : Gl} {fr : Frm} {kp : Kp} {cx : Cx} {st : St} {s : Shared} {ads : List Addr} {n : Nat}

theorem muts_there {ρ : Rho} (x : Core ρ kp st s ads) {a : Addr} (hm : a ∈ muts ρ ads) : ∃ o, s.heap.get? a = some o ∧ (o.cls = .type "dict" ∨ o.cls = .type "list") := by
  unfold muts at hm
  simp only [List.mem_append] at hm
  rcases hm with (hm | hm) | hm
  · cases e : ρ.wd with
    | none => rw [e] at hm; simp at hm
    | some ω =>
      rw [e] at hm
      simp only [List.mem_singleton] at hm
      obtain ⟨i, W, _⟩ := x.words ω e
      obtain ⟨ti, td, q⟩ := W.dict
      exact ⟨_, hm ▸ q, .inl rfl⟩
  · cases e : ρ.src with
    | none => rw [e] at hm; simp at hm
    | some S =>
      rw [e] at hm
      simp only [List.mem_singleton] at hm
      obtain ⟨i, j, ti, tj, oS, n, q, hc, _⟩ := x.src S e
      exact ⟨_, hm ▸ q, .inr hc⟩
  · obtain ⟨i, hi⟩ := List.getElem?_of_mem hm
    have hl : i < st.lists.length := by rw [← x.lists.1]; exact (List.getElem?_eq_some_iff.mp hi).1
    obtain ⟨vs, n, q, _⟩ := x.lists.2 i a st.lists[i] hi (by simp [hl])
    exact ⟨_, q, .inr rfl⟩

/-- a loop's own iterator, what it goes over -/
noncomputable def kpI (kp : Kp) (I : Addr) (oI : Obj) (ax : Addr) (axo : Obj) : Kp := fun b o => kp b o ∨ (b = I ∧ o = oI) ∨ (b = ax ∧ o = axo)

theorem Sim.less {ρ : Rho} {kp' : Kp} (S : Sim ρ fr kp' st s ads) (h : ∀ b o, kp b o → kp' b o) : Sim ρ fr kp st s ads :=
  ⟨⟨S.lists, S.words, S.src, fun b o q => S.kept b o (h b o q), S.apart, S.lv, S.out⟩, S.loc, S.new, fun b o q => S.off b o (h b o q)⟩

/-- something of no one's is changed -/
theorem Sim.iter {ρ : Rho} {I : Addr} {oI : Obj} (S : Sim ρ fr kp st s ads) (hI : s.heap.get? I = some oI) (nI : I ∉ muts ρ ads) (LI : I ≠ fr.L) {h' : Heap} {T : String} (hT : oI.cls = .type T) (t1 : T ≠ "tuple") (t2 : T ≠ "list") (hs : Heap.ExtBut I s.heap h')
    (hk : ∀ o, ¬ kp I o) (hg : fr.g.get? I = none) {tk : Nat} : Sim ρ fr kp st { s with heap := h', toks := tk } ads ∧ Later ads s.heap ads h' := by
  have kt : Later ads s.heap ads h' := Later.but hs hI (by rw [hT]; simpa using t1)
  have off : ∀ b ∈ muts ρ ads, ∀ o, s.heap.get? b = some o → h'.get? b = some o := fun b hb o q => hs b o (fun z => nI (z ▸ hb)) q
  obtain ⟨m, F, hm⟩ := S.loc
  refine ⟨⟨⟨S.lists.mono kt fun a ha o q => off a ?_ o q, fun ω e => ?_, fun S' e => (S.src S' e).mono fun o q => off S' (mem_src e) o q, fun b o q => ?_, S.apart, S.lv, S.out⟩,
    ⟨m, frBut F hs hg LI, fun z w e => (hm z w e).elim fun u q => ⟨u, q.1, q.2.mono kt⟩⟩, S.new, S.off⟩, kt⟩
  · obtain ⟨i, hi⟩ := List.getElem?_of_mem ha; exact mem_ads hi
  · obtain ⟨i, W, M, p, nR⟩ := S.words ω e
    refine ⟨i, W.but hs hI (fun q => nI (q ▸ mem_wd e)) ?_ (by rw [hT]; intro C q; (first | exact ff q | exact nn q | exact ns q | exact tf q | exact ln q | exact lc q | cases q)) (by rw [hT]; simpa using t1), M, p, nR⟩
    intro q
    obtain ⟨n, hR⟩ := W.rows
    rw [q, hI] at hR
    (first | exact ff hR | exact nn hR | exact ns hR | exact tf hR | exact ln hR | exact lc hR | cases hR)
    simp only [Value.type.injEq] at hT
    exact t2 hT.symm
  · exact ⟨hs b o (fun z => hk o (z ▸ q)) (S.kept b o q).1, (S.kept b o q).2⟩
theorem Sim.more {ρ : Rho} {I ax : Addr} {oI axo : Obj} (S : Sim ρ fr kp st s ads) (hI : s.heap.get? I = some oI) (nI : I ∉ muts ρ ads) (LI : I ≠ fr.L) (hx : s.heap.get? ax = some axo) (nx : ax ∉ muts ρ ads) (Lx : ax ≠ fr.L) :
    Sim ρ fr (kpI kp I oI ax axo) st s ads := by
  refine ⟨⟨S.lists, S.words, S.src, fun b o q => ?_, S.apart, S.lv, S.out⟩, S.loc, S.new, fun b o q => ?_⟩
  · rcases q with q | ⟨rfl, rfl⟩ | ⟨rfl, rfl⟩
    · exact S.kept b o q
    · exact ⟨hI, nI⟩
    · exact ⟨hx, nx⟩
  · rcases q with q | ⟨rfl, rfl⟩ | ⟨rfl, rfl⟩
    · exact S.off b o q
    · exact LI
    · exact Lx

theorem letgo_rule {A : Around} {E : Value → Shared → Prop} {tgt : Expr} {I ax : Addr} {v : Value} {oI : Obj} {T : String} {i : Nat} (hI : s.heap.get? I = some oI) (hc : oI.cls = .type T) (hd : oI.data = .fields #[.ref ax, .int i 0])
    (hT : (["enumerate", "zip", "dict_itemiterator", "dict_reverseitemiterator", "odict_iterator", "itertools.zip_longest", "itertools.pairwise"] : List String).contains T = false) :
    wpAny (model G.prog G.w) A (letOwnedTupleGo tgt (.ref I) v) (fun _ s' => s' = s) E s := by
  have go : wpAny (model G.prog G.w) A (do
      let (.ref r, .ref a) := ((Value.ref I, v) : Value × Value) | return
      let o ← load r
      match o.cls, o.data with
      | .type n, .fields vs =>
        if ["enumerate", "zip", "dict_itemiterator", "dict_reverseitemiterator", "odict_iterator", "itertools.zip_longest", "itertools.pairwise"].contains n && vs[0]? == some (rawInt a) then
          rule "for.unpacks-the-owned-tuple"
          updateField r 0 .none
      | _, _ => pure ()) (fun _ s' => s' = s) E s := by
    cases v with
    | ref a =>
      refine wpAny_bind (wpAny_load hI ?_)
      rw [hc, hd]
      dsimp only
      rw [hT, Bool.false_and, if_neg (by decide)]
      exact wpAny_pure rfl
    | _ => exact wpAny_pure rfl
  unfold letOwnedTupleGo
  (first | exact ff tgt | exact nn tgt | exact ns tgt | exact tf tgt | exact ln tgt | exact lc tgt | cases tgt) <;> first | exact go | exact wpAny_pure rfl

theorem s_loop (H : ∀ m, m ≤ n → Snd G m) (O : FrmOk G fr cx) {tgt : Expr} {b : List Stmt} {k : KF} {T : String} {I ax : Addr} {axo oI₀ : Obj} {items : List Value} {xs : List AV}
    (t1 : T ≠ "tuple") (t2 : T ≠ "list") (t4 : (["enumerate", "zip", "dict_itemiterator", "dict_reverseitemiterator", "odict_iterator", "itertools.zip_longest", "itertools.pairwise"] : List String).contains T = false)
    (hax : ax ≠ I) (hk : ∀ o, ¬ kp I o) (hg : fr.g.get? I = none)
    (hItem : ∀ {s' : Shared} {i : Nat} {v : Value} {oI : Obj} {Q : Option Value → Shared → Prop} {E : Value → Shared → Prop}, s'.heap.get? I = some oI → oI.cls = .type T → oI.data = .fields #[.ref ax, .int i 0] → s'.heap.get? ax = some axo → items[i]? = some v →
      (∀ h' oI', h'.get? I = some oI' → oI'.cls = .type T → oI'.data = .fields #[.ref ax, .int (i + 1 : Nat) 0] → Heap.SameBut I s'.heap h' → Q (some v) { s' with heap := h' }) → wpAny (model G.prog G.w) fr.A (pyNext (.ref I)) Q E s')
    (hEnd : ∀ {s' : Shared} {i : Nat} {oI : Obj} {Q : Option Value → Shared → Prop} {E : Value → Shared → Prop}, s'.heap.get? I = some oI → oI.cls = .type T → oI.data = .fields #[.ref ax, .int i 0] → s'.heap.get? ax = some axo → items[i]? = none →
      (∀ h', Heap.ExtBut I s'.heap h' → Q none { s' with heap := h' }) → wpAny (model G.prog G.w) fr.A (pyNext (.ref I)) Q E s')
    (S : Sim G.ρ fr (kpI kp I oI₀ ax axo) st s ads) (hc0 : oI₀.cls = .type T) (hd0 : oI₀.data = .fields #[.ref ax, .int (0 : Nat) 0]) (r0 : RepVs G.ρ ads s.heap items xs) (h : run G.cf n (.fo tgt b xs k) cx st = true) :
    codeAny (model G.prog G.w) fr.A (.forLoop tgt (.ref I) b [] fr.env) (LoopR G fr kp s ads k) s := by
  refine opaque_inv (fun m s' => m ≤ n ∧ ∃ i st' ads' oI, oI.cls = .type T ∧ oI.data = .fields #[.ref ax, .int (i : Nat) 0] ∧ Sim G.ρ fr (kpI kp I oI ax axo) st' s' ads' ∧ Later ads s.heap ads' s'.heap ∧ i ≤ items.length ∧ run G.cf m (.fo tgt b (xs.drop i) k) cx st' = true) fun J i1 i2 => codeAny_forLoop_any J ?_ n
    (i2 _ _ ⟨Nat.le_refl _, 0, st, ads, oI₀, hc0, hd0, S, Later.refl _ _, Nat.zero_le _, h⟩)
  intro m s' hj
  obtain ⟨hm, i, st', ads', oI, hc, hd, S', l', hi, h'⟩ := i1 _ _ hj
  clear i1 hj h S hc0 hd0
  cases m with
  | zero => exact ff h'
  | succ m =>
    have hs := H m (Nat.le_of_succ_le hm)
    have hlen := r0.length
    obtain ⟨hI, nI⟩ := S'.kept I oI (.inr (.inl ⟨rfl, rfl⟩))
    obtain ⟨hx, nx⟩ := S'.kept ax axo (.inr (.inr ⟨rfl, rfl⟩))
    have LI := S'.off I oI (.inr (.inl ⟨rfl, rfl⟩))
    have Lx := S'.off ax axo (.inr (.inr ⟨rfl, rfl⟩))
    have S0 : Sim G.ρ fr kp st' s' ads' := S'.less fun b o q => .inl q
    clear S'
    cases hv : items[i]? with
    | none =>
      rw [List.drop_eq_nil_of_le (hlen ▸ List.getElem?_eq_none_iff.mp hv)] at h'
      refine hEnd hI hc hd hx hv fun h₁ hsb => ?_
      obtain ⟨S₁, l₁⟩ := S0.iter (tk := s'.toks) hI nI LI hc t1 t2 hsb hk hg
      exact wpAny_execs_nil ⟨.next, st', ads', .next, S₁, l'.trans l₁, h'⟩
    | some v =>
      have hil : i < items.length := (List.getElem?_eq_some_iff.mp hv).1
      have hxi : i < xs.length := hlen ▸ hil
      rw [List.drop_eq_getElem_cons hxi] at h'
      refine onS_el (o := bindT cx tgt xs[i] st'.loc) h' fun mm hb h' => ?_
      refine hItem hI hc hd hx hv fun h₁ oI' he hc' hd' hsb => ?_
      obtain ⟨S₁, l₁⟩ := S0.iter (tk := s'.toks) hI nI LI hc t1 t2 hsb.extBut hk hg
      replace S₁ := S₁.more (I := I) (oI := oI') (ax := ax) (axo := axo) he nI LI (hsb.extBut ax axo hax hx) nx Lx
      refine wpAny_mono (letgo_rule (s := { s' with heap := h₁ }) he hc' hd' t4) (fun _ s₂ e₂ => ?_) fun _ _ e => e
      subst e₂
      have rv : RepV G.ρ ads' h₁ v xs[i] := ((r0.mono l').at i v _ hv (List.getElem?_eq_getElem hxi)).mono l₁
      clear S0 hItem hEnd r0 hI hx hc hd hsb he
      refine wpAny_mono (bind_rule O S₁ rv hb) (fun _ s₃ q => ?_) fun _ _ e => e
      refine wpAny_mono (hs.ss h' O q.1) (fun f s₄ h₄ => ?_) fun _ _ e => noted O e
      obtain ⟨x, st₄, ads₄, r, S₄, l₄, h₄⟩ := h₄
      have l₄ := ((l'.trans l₁).trans q.2).trans l₄
      clear q S₁ hb rv l₁ l'
      apply turn_rest (b := b) r (S₄.less fun b o q => .inl q) l₄ h₄
      · exact fun h₄ => ⟨m, Nat.lt_succ_self m, i2 _ _ ⟨Nat.le_of_succ_le hm, i + 1, st₄, ads₄, oI', hc', hd', S₄, l₄, hil, h₄⟩⟩
      · exact fun q => q
      · exact fun v q => q
end
end Mine

namespace Mine
section
variable {G : Gl} {fr : Frm} {kp : Kp} {cx : Cx} {st : St} {s : Shared} {ads : List Addr} {n : Nat}

theorem fresh_off (S : Sim G.ρ fr kp st s ads) {a : Addr} (h : s.heap.get? a = none) : a ∉ muts G.ρ ads ∧ a ≠ fr.L ∧ fr.g.get? a = none ∧ ∀ o, ¬ kp a o := by
  obtain ⟨m, F, _⟩ := S.loc
  refine ⟨fun q => ?_, fr_ne F h, fr_none F h, fun o q => nn (h.symm.trans (S.kept a o q).1)⟩
  obtain ⟨o, ho, _⟩ := muts_there S.toCore q
  exact nn (h.symm.trans ho)
theorem tup_off (S : Sim G.ρ fr kp st s ads) {a : Addr} {vs : List Value} {ep : Nat} (h : s.heap.get? a = some (tupObj vs ep)) : a ∉ muts G.ρ ads ∧ a ≠ fr.L := by
  obtain ⟨oL, es, ep', hL, hd⟩ := S.L_dict
  refine ⟨fun q => ?_, ?_⟩
  · obtain ⟨o, ho, hc⟩ := muts_there S.toCore q
    rw [← Option.some.inj (h.symm.trans ho)] at hc
    rcases hc with hc | hc
    · exact absurd (show Value.type "tuple" = Value.type "dict" from hc) (by decide)
    · exact absurd (show Value.type "tuple" = Value.type "list" from hc) (by decide)
  · rintro rfl
    rw [← Option.some.inj (h.symm.trans hL)] at hd
    exact nomatch hd

theorem set_fold {env : Env} {it : Expr} (h : isSetE it = false) (x : Value) : foldedSetIterable it env x = pure x := by
  cases it <;> first | exact rfl | exact tf h
theorem LoopR.later {k : KF} {s₁ s' : Shared} {ads₁ : List Addr} {r : Result} (l : Later ads s.heap ads₁ s₁.heap) (q : LoopR G fr kp s₁ ads₁ k r s') : LoopR G fr kp s ads k r s' := by
  cases r with
  | ok f => exact PostF.later l q
  | error e => exact q
theorem for_tup (H : ∀ m, m ≤ n → Snd G m) (O : FrmOk G fr cx) (S : Sim G.ρ fr kp st s ads) {tgt : Expr} {b : List Stmt} {k : KF} {t : Addr} {us : List Value} {ep : Nat} {xs : List AV} (hT : s.heap.get? t = some (tupObj us ep)) (rs : RepVs G.ρ ads s.heap us xs) (h : run G.cf n (.fo tgt b xs k) cx st = true) :
    codeAny (model G.prog G.w) fr.A (.forLoop tgt (.ref s.heap.objs.size) b [] fr.env) (LoopR G fr kp s ads k) { s with heap := s.heap.push { cls := .type "tuple_iterator", data := .fields #[.ref t, .int 0 0] } } := by
  have hk : ∀ b o, s.heap.get? b = some o → (s.heap.push ({ cls := .type "tuple_iterator", data := .fields #[.ref t, .int 0 0] } : Obj)).get? b = some o := fun b o e => Heap.get?_push_of_some _ e
  have hf := fresh_off S (Heap.get?_none_of_le (Nat.le_refl s.heap.objs.size))
  have ht := tup_off S hT
  have hne : t ≠ s.heap.objs.size := Nat.ne_of_lt (Heap.lt_size hT)
  have S₃ := (S.ext (tk := s.toks) hk).more (I := s.heap.objs.size) (ax := t) (Heap.get?_push_size s.heap rfl) hf.1 hf.2.1 (hk _ _ hT) ht.1 ht.2
  refine codeAny_mono (s_loop (ads := ads) (s := { s with heap := _ }) (items := us) H O (T := "tuple_iterator") (by decide) (by decide) (by decide) hne hf.2.2.2 hf.2.2.1 ?_ ?_ S₃ rfl rfl (rs.mono (Later.ext hk)) h) fun r s' q => q.later (Later.ext hk)
  · intro s' i v oI Q E hI hc hd hx hv hQ
    refine next_tuple_item (items := us.toArray) ⟨oI, hI, hc, hd⟩ ⟨_, hx, rfl, ep, rfl⟩ (by rw [List.getElem?_toArray]; exact hv) fun h' hit hs => ?_
    obtain ⟨oI', e1, e2, e3⟩ := hit
    exact hQ h' oI' e1 e2 e3 hs
  · intro s' i oI Q E hI hc hd hx hv hQ
    exact next_tuple_end (items := us.toArray) (handled_A O) ⟨oI, hI, hc, hd⟩ ⟨_, hx, rfl, ep, rfl⟩ (by rw [List.getElem?_toArray]; exact hv) hQ
theorem for_list (H : ∀ m, m ≤ n → Snd G m) (O : FrmOk G fr cx) (S : Sim G.ρ fr kp st s ads) {tgt : Expr} {b : List Stmt} {k : KF} {us : List Value} {xs : List AV} {hp : Heap} {tk : Nat} (k1 : ∀ b o, s.heap.get? b = some o → hp.get? b = some o) (hle : s.heap.objs.size ≤ hp.objs.size)
    (rs : RepVs G.ρ ads s.heap us xs) (h : run G.cf n (.fo tgt b xs k) cx st = true) :
    codeAny (model G.prog G.w) fr.A (.forLoop tgt (.ref (hp.push { cls := .type "list", data := .seq us.toArray }).objs.size) b [] fr.env) (LoopR G fr kp s ads k)
      { s with heap := (hp.push { cls := .type "list", data := .seq us.toArray }).push { cls := .type "list_iterator", data := .fields #[.ref hp.objs.size, .int 0 0] }, toks := tk } := by
  have k2 : ∀ b o, hp.get? b = some o → ((hp.push ({ cls := .type "list", data := .seq us.toArray } : Obj)).push ({ cls := .type "list_iterator", data := .fields #[.ref hp.objs.size, .int 0 0] } : Obj)).get? b = some o := fun b o e => Heap.get?_push_of_some _ (Heap.get?_push_of_some _ e)
  have f1 := fresh_off S (Heap.get?_none_of_le hle)
  have f2 := fresh_off S (a := (hp.push ({ cls := .type "list", data := .seq us.toArray } : Obj)).objs.size) (Heap.get?_none_of_le (by rw [Heap.size_push]; exact Nat.le_succ_of_le hle))
  have hne : hp.objs.size ≠ (hp.push ({ cls := .type "list", data := .seq us.toArray } : Obj)).objs.size := by rw [Heap.size_push]; exact Nat.ne_of_lt (Nat.lt_succ_self _)
  have hk : ∀ b o, s.heap.get? b = some o → ((hp.push ({ cls := .type "list", data := .seq us.toArray } : Obj)).push ({ cls := .type "list_iterator", data := .fields #[.ref hp.objs.size, .int 0 0] } : Obj)).get? b = some o := fun b o e => k2 b o (k1 b o e)
  have S₃ := (S.ext (tk := tk) hk).more (I := (hp.push ({ cls := .type "list", data := .seq us.toArray } : Obj)).objs.size) (ax := hp.objs.size) (axo := listObj us 0) (Heap.get?_push_size _ rfl) f2.1 f2.2.1 (Heap.get?_push_of_some _ (Heap.get?_push_size hp rfl)) f1.1 f1.2.1
  refine codeAny_mono (s_loop (ads := ads) (s := { s with heap := _, toks := tk }) (items := us) H O (T := "list_iterator") (by decide) (by decide) (by decide) hne f2.2.2.2 f2.2.2.1 ?_ ?_ S₃ rfl rfl (rs.mono (Later.ext hk)) h) fun r s' q => q.later (Later.ext hk)
  · intro s' i v oI Q E hI hc hd hx hv hQ
    refine wpAny_pyNext_list_item (items := us.toArray) ⟨oI, hI, hc, hd⟩ ⟨_, hx, rfl, 0, rfl⟩ (by rw [List.getElem?_toArray]; exact hv) fun h' hit hs => ?_
    obtain ⟨oI', e1, e2, e3⟩ := hit
    exact hQ h' oI' e1 e2 e3 hs
  · intro s' i oI Q E hI hc hd hx hv hQ
    exact wpAny_pyNext_list_end (items := us.toArray) (handled_A O) ⟨oI, hI, hc, hd⟩ ⟨_, hx, rfl, 0, rfl⟩ (by rw [List.getElem?_toArray]; exact hv) hQ
theorem s_forR (H : ∀ m, m ≤ n → Snd G m) (O : FrmOk G fr cx) (S : Sim G.ρ fr kp st s ads) {tgt e it : Expr} {b : List Stmt} {pos : Pos} {k : KF} (he : ∃ id p a b c d q, it = .Subscript (.Name id p) (.Slice none none (some (.UnaryOp .USub (.Constant (.int 1) a b) c)) d) q ∧ e = .Name id p)
    (h : run G.cf n (.e e fun v st => kForR (run G.cf n) tgt b k cx v st) cx st = true) :
    wpAny (model G.prog G.w) fr.A (exec (.For tgt it b [] pos) fr.env) (PostF G.ρ fr kp s ads k) (Exc G fr) s := by
  obtain ⟨id, p, a, b', c, d, q, rfl, rfl⟩ := he
  refine wpAny_For ?_ (fun _ => rfl)
  refine wpAny_Subscript_Slice_step (T := "list") list_getitem_lookup (e_then (H n (Nat.le_refl _)) h O S fun v s₁ x st₁ ads₁ r S₁ l₁ h₁ => ?_) (fun _ _ => rfl)
  replace h₁ : lstS x (fun l => onS (nth st₁.lists l) fun xs => plainItems xs && (fits xs && run G.cf n (.fo tgt b xs.reverse k) cx st₁)) = true := h₁
  apply R_lst r h₁
  intro i l ha h₁
  refine onS_el h₁ fun xs hxs h₁ => and_el h₁ fun hp h₁ => and_el h₁ fun hf h₁ => ?_
  obtain ⟨us, ep, hl, itm⟩ := list_at S₁ ha hxs
  have hz := size_list (fits_size itm O.ivs hf)
  have rp := (itm.plain hp).rev
  clear itm hf hp hxs ha h S r
  refine wpAny_Slice ?_
  rw [evalPart_none, evalPart_some]
  refine wpAny_pure (wpAny_pure ?_)
  refine UnaryOp_ (wpAny_Constant_int (PyProof.Rows.neg_int ?_))
  have hk1 : ∀ (o : Obj) b o', s₁.heap.get? b = some o' → (s₁.heap.push o).get? b = some o' := fun o b o' e => Heap.get?_push_of_some _ e
  refine ⟨⟨_, hk1 _ _ _ hl, rfl⟩, ?_⟩
  refine wpAny_getItem_list_slice (items := us.toArray) (lo := none) (hi := none) (st := some (-1)) ⟨_, hk1 _ _ _ hl, rfl, ep, rfl⟩ (Heap.IsSliceOf.new _ _ _ _) .none .none (.int _ _) (by decide) ?_ hz
  rw [krv_pick, List.toList_toArray]
  refine wpAny_pyIter_list (items := us.reverse.toArray) ⟨_, Heap.get?_push_size _ rfl, rfl, 0, rfl⟩ ?_
  exact codeAny_mono (for_list H O S₁ (hk1 _) (by rw [Heap.size_push]; exact Nat.le_succ _) rp h₁) fun r s' q => q.later l₁
theorem s_for (H : ∀ m, m ≤ n → Snd G m) (O : FrmOk G fr cx) (S : Sim G.ρ fr kp st s ads) {tgt it : Expr} {b o : List Stmt} {pos : Pos} {k : KF} (h : sFor (run G.cf n) tgt it b o k cx st = true) :
    wpAny (model G.prog G.w) fr.A (exec (.For tgt it b o pos) fr.env) (PostF G.ρ fr kp s ads k) (Exc G fr) s := by
  refine and_el h fun ho h => ?_
  rw [nil_is ho]
  revert h
  cases isRev it with
  | some e => exact fun h => s_forR H O S e.2 h
  | none =>
    intro h
    obtain ⟨hset, h⟩ := and_b h
    refine wpAny_For (e_then (H n (Nat.le_refl _)) h O S fun v s₁ x st₁ ads₁ r S₁ l₁ h₁ => ?_) (set_fold (not_b hset))
    replace h₁ : tupS x (fun xs => run G.cf n (.fo tgt b xs k) cx st₁) = true := h₁
    apply R_tup r h₁
    intro t us ep xs hT rs h₁
    exact iter_tuple (items := us.toArray) ⟨_, hT, rfl, ep, rfl⟩ (codeAny_mono (for_tup H O S₁ hT rs h₁) fun r s' q => q.later l₁)

theorem s_assign (H : Snd G n) (O : FrmOk G fr cx) (S : Sim G.ρ fr kp st s ads) {ts : List Expr} {e : Expr} {pos : Pos} {k : KF} (h : sAssign (run G.cf n) ts e k cx st = true) :
    wpAny (model G.prog G.w) fr.A (exec (.Assign ts e pos) fr.env) (PostF G.ρ fr kp s ads k) (Exc G fr) s := by
  refine and_el h fun hc h => ?_
  apply one_el h
  intro t h
  cases t with
  | Name x p => exact s_name H O S (not_b hc) h
  | Tuple es a p => exact s_unpack H O S (not_b hc) h
  | _ => exact ff h
theorem s_rule (H : ∀ m, m ≤ n → Snd G m) (O : FrmOk G fr cx) (S : Sim G.ρ fr kp st s ads) {x : Stmt} {k : KF} (h : stS (run G.cf n) x k cx st = true) :
    wpAny (model G.prog G.w) fr.A (exec x fr.env) (PostF G.ρ fr kp s ads k) (Exc G fr) s := by
  have Hn := H n (Nat.le_refl _)
  cases x with
  | Expr e p => exact s_expr Hn O S h
  | Assign ts e p => exact s_assign Hn O S h
  | Return v p => exact s_ret Hn O S h
  | If t b o p => exact s_if Hn O S h
  | While t b o p =>
    cases o with
    | nil => exact s_while H O S h
    | cons _ _ => exact ff h
  | Break p => exact wpAny_Break ⟨.brk, st, ads, .brk, S, Later.refl _ _, h⟩
  | For t i b o p => exact s_for H O S h
  | _ => exact ff h
end
end Mine

namespace Mine
section
variable {s : Shared} {fd : FuncData} {kwd : List (Option Expr)} {dfl : List Expr} {as : List Arg} {names : List Str} {vs : List Value} {d : Value}
theorem seq_none : seqItems? Value.none = pure none := rfl
theorem look_zip : ∀ {names : List Str} {vs : List Value}, names.length ≤ vs.length → ∀ n ∈ names, ((names.zip vs).lookup n).isNone = false
  | [], _, _, _, h => by (first | exact ff h | exact nn h | exact ns h | exact tf h | exact ln h | exact lc h | cases h)
  | _ :: _, [], h, _, _ => absurd h (Nat.not_succ_le_zero _)
  | a :: r, v :: l, h, n, hn => by
    rw [List.zip_cons_cons, List.lookup_cons]
    cases q : n == a with
    | true => rfl
    | false =>
      rcases List.mem_cons.mp hn with rfl | hn
      · rw [beq_self_eq_true] at q; (first | exact ff q | exact nn q | exact ns q | exact tf q | exact ln q | exact lc q | cases q)
      · exact look_zip (Nat.le_of_succ_le_succ h) n hn
theorem fm_congr {α β : Type} {f g : α → Option β} : ∀ {l : List α}, (∀ n ∈ l, f n = g n) → l.filterMap f = l.filterMap g
  | [], _ => rfl
  | a :: r, h => by rw [List.filterMap_cons, List.filterMap_cons, h a (.head _), fm_congr fun n hn => h n (.tail _ hn)]
theorem pick_zip : ∀ {names : List Str} {vs : List Value}, names.Nodup → vs.length = names.length → names.filterMap (fun n => ((names.zip vs).lookup n).map fun x => (n, x)) = names.zip vs
  | [], _, _, _ => rfl
  | _ :: _, [], _, h => by (first | exact ff h | exact nn h | exact ns h | exact tf h | exact ln h | exact lc h | cases h)
  | a :: r, v :: l, hn, h => by
    have hn := List.nodup_cons.mp hn
    rw [List.zip_cons_cons, List.filterMap_cons, List.lookup_cons, beq_self_eq_true]
    refine congrArg _ (Eq.trans (fm_congr fun n hm => ?_) (pick_zip hn.2 (Nat.succ.inj h)))
    have : (n == a) = false := by
      cases q : n == a with
      | false => rfl
      | true => rw [eq_of_beq q] at hm; exact absurd hm hn.1
    rw [List.lookup_cons, this]
theorem none_miss {l : List Str} {p : Str → Bool} (h : ∀ n ∈ l, p n = false) : l.filter p = [] := List.filter_eq_nil_iff.mpr fun n hn q => by rw [h n hn] at q; (first | exact ff q | exact nn q | exact ns q | exact tf q | exact ln q | exact lc q | cases q)
/-- a value for each parameter -/
theorem bN (hp : fd.params = ⟨[], as, none, [], kwd, none, dfl⟩) (ha : as.map (·.arg) = names) (hd : fd.defaults = .none) (hl : vs.length = names.length) (hn : names.Nodup) : BindsTo s fd ⟨vs, []⟩ (names.zip vs) := by
  apply BindsTo.of_eq
  unfold bindArgs
  rw [hp, hd]
  have h2 := pick_zip hn hl
  show (forIn ([] : List (Str × Value)) _ _ >>= _) = _
  rw [List.forIn_nil, pure_bind]
  rw [seq_none, pure_bind]
  refine (if_neg (fun q => Nat.lt_irrefl _ (Nat.lt_of_lt_of_le (of_decide_eq_true ((Bool.and_eq_true _ _).mp q).1) (Nat.le_of_eq (hl.trans (by rw [← ha]; rfl)))))).trans ?_
  refine (if_neg (fun q => ?_)).trans ?_
  · subst ha
    have g : ∀ k, ¬ (!(List.filter (fun n => (List.lookup n ((as.map (·.arg)).zip vs)).isNone) ((as.map (·.arg)).take k)).isEmpty) = true := fun k q =>
      ff ((congrArg (fun l => !List.isEmpty l) (none_miss fun n hn => look_zip (Nat.le_of_eq hl.symm) n (List.mem_of_mem_take hn))).symm.trans q)
    exact g _ q
  show (forIn (List.zip _ (List.drop _ [])) _ _ >>= _) = _
  rw [List.drop_nil, List.zip_nil_right, List.forIn_nil, pure_bind]
  show (forIn ([] : List Str) _ _ >>= _) = _
  rw [List.forIn_nil, pure_bind]
  refine (if_neg (fun q => ff q)).trans ?_
  show pure (List.filterMap (fun n => ((List.zip (as.map (·.arg)) vs).lookup n).map (n, ·)) (as.map (·.arg) ++ [])) = _
  rw [List.append_nil, ha, h2]
theorem lk_has {a : Str} {v : Value} {r : List (Str × Value)} : List.lookup a ((a, v) :: r) = some v := by rw [List.lookup_cons, beq_self_eq_true]
theorem lk_next {a b : Str} {v : Value} {r : List (Str × Value)} (h : a ≠ b) : List.lookup b ((a, v) :: r) = List.lookup b r := by
  rw [List.lookup_cons, beq_eq_false_iff_ne.mpr (Ne.symm h)]
theorem for_one {α β : Type} {x : α} {b c : β} {f : α → β → Sem (ForInStep β)} (h : f x b = pure (.yield c)) : forIn [x] b f = pure c := by
  rw [List.forIn_cons, h, pure_bind]; rfl
theorem two_names {a b : Str} (h : a ≠ b) : [a, b].Nodup := List.nodup_cons.mpr ⟨fun q => h (List.mem_singleton.mp q), List.nodup_cons.mpr ⟨List.not_mem_nil, .nil⟩⟩
theorem first_there {a : Str} {v : Value} {r : List (Str × Value)} : ¬ (!(List.filter (fun n => (List.lookup n ((a, v) :: r)).isNone) [a]).isEmpty) = true := fun q =>
  ff ((congrArg (fun l => !List.isEmpty l) (none_miss fun n hn => by rw [List.mem_singleton.mp hn, lk_has]; rfl)).symm.trans q)
theorem b21 {pa pb : Arg} {v : Value} {T : Addr} {o : Obj} {n : Nat} (hp : fd.params = ⟨[], [pa, pb], none, [], kwd, none, dfl⟩) (hd : fd.defaults = .ref T) (ho : s.heap.get? T = some o) (hs : o.data = .seq #[d] n) (h1 : pa.arg ≠ pb.arg) :
    BindsTo s fd ⟨[v], []⟩ [(pa.arg, v), (pb.arg, d)] := by
  cases fd
  cases hp
  cases hd
  refine BindsTo.of_defaults rfl ho hs rfl ?_
  refine (if_neg (fun q => ff q)).trans ((if_neg first_there).trans ?_)
  show (forIn [((pb.arg : Str), d)] [((pa.arg : Str), v)] _ >>= _) = _
  rw [for_one (c := [(pa.arg, v), (pb.arg, d)]) (if_pos (by rw [lk_next h1]; rfl)), pure_bind]
  show (forIn ([] : List Str) _ _ >>= _) = _
  rw [List.forIn_nil, pure_bind]
  exact (if_neg (fun q => ff q)).trans (congrArg pure (pick_zip (names := [pa.arg, pb.arg]) (vs := [v, d]) (two_names h1) rfl))
theorem b22 {pa pb : Arg} {v u : Value} {T : Addr} {o : Obj} {n : Nat} (hp : fd.params = ⟨[], [pa, pb], none, [], kwd, none, dfl⟩) (hd : fd.defaults = .ref T) (ho : s.heap.get? T = some o) (hs : o.data = .seq #[d] n) (h1 : pa.arg ≠ pb.arg) :
    BindsTo s fd ⟨[v, u], []⟩ [(pa.arg, v), (pb.arg, u)] := by
  cases fd
  cases hp
  cases hd
  refine BindsTo.of_defaults rfl ho hs rfl ?_
  refine (if_neg (fun q => ff q)).trans ((if_neg first_there).trans ?_)
  show (forIn [((pb.arg : Str), d)] [((pa.arg : Str), v), (pb.arg, u)] _ >>= _) = _
  rw [for_one (c := [(pa.arg, v), (pb.arg, u)]) (if_neg (by rw [lk_next h1, lk_has]; exact fun q => ff q)), pure_bind]
  show (forIn ([] : List Str) _ _ >>= _) = _
  rw [List.forIn_nil, pure_bind]
  exact (if_neg (fun q => ff q)).trans (congrArg pure (pick_zip (names := [pa.arg, pb.arg]) (vs := [v, u]) (two_names h1) rfl))
end
end Mine

namespace Mine
section
variable {G : Gl} {fr : Frm} {kp : Kp} {cx : Cx} {st : St} {s : Shared} {ads : List Addr} {n : Nat}

theorem isNil_iff {α : Type} {l : List α} (h : isNil l = true) : l = [] := nil_is h
theorem isNo_iff {α : Type} {l : Option α} (h : isNo l = true) : l = none := by
  cases l with
  | none => rfl
  | some _ => exact ff h
theorem params_of {p : Arguments} (h : plainParams p = true) : ∃ kwd, p = ⟨[], p.args, none, [], kwd, none, p.defaults⟩ := by
  obtain ⟨h, h4⟩ := and_b h
  obtain ⟨h, h3⟩ := and_b h
  obtain ⟨h1, h2⟩ := and_b h
  obtain ⟨a, b, c, d, e, f, g⟩ := p
  rw [nil_is (show isNil a = true from h1), nil_is (show isNil d = true from h2), isNo_iff (show isNo c = true from h3), isNo_iff (show isNo f = true from h4)]
  exact ⟨e, rfl⟩
theorem noCell_ne {l : List (Str × NameKind)} : noCell l = true → ∀ x ∈ l, x.2 ≠ .cell := by
  induction l with
  | nil => exact fun _ x hx => absurd hx List.not_mem_nil
  | cons p r ih =>
    obtain ⟨y, k⟩ := p
    cases k with
    | cell => exact fun h => ff h
    | _ => exact fun h => List.forall_mem_cons.mpr ⟨(fun q => nomatch q), ih h⟩

theorem dfltA_is {a : AV} {ds : List AV} (h : dfltA a = some ds) : a = .tup ds ∧ ds ≠ [] := by
  cases a with
  | tup l =>
    obtain ⟨h1, h2⟩ := gd_is h
    rw [← Option.some.inj h2]
    refine ⟨rfl, ?_⟩
    rintro rfl
    exact ff h1
  | _ => exact nn h
theorem dflts_are {K : Frag} {h : Heap} {ρ : Rho} (X : K.In h) {v : Value} {ds : List AV} (e : dflts K v = some ds) :
    (v = .none ∧ ds = []) ∨ ∃ T items ep, v = .ref T ∧ h.get? T = some (tupObj items ep) ∧ RepVs ρ ads h items ds ∧ ds ≠ [] := by
  cases v with
  | none => exact .inl ⟨rfl, (Option.some.inj e).symm⟩
  | ref a =>
    refine onO_el (o := litV K litD (.ref a)) e fun x hl e => ?_
    obtain ⟨rfl, hne⟩ := dfltA_is e
    obtain ⟨T, items, ep, hv, hT, hlen, hat⟩ := (litV_rep (ρ := ρ) (ads := ads) X _ hl).tup_inv
    exact .inr ⟨T, items, ep, hv, hT, RepVs.of_at hlen hat, hne⟩
  | _ => exact nn e

/-- what is bound: the same names, the values told -/
noncomputable def BoundAs (ρ : Rho) (ads : List Addr) (h : Heap) (mv : List (Str × Value)) (m : List (Str × AV)) : Prop :=
  mv.map (·.1) = m.map (·.1) ∧ ∀ z x, find z m = some x → ∃ u, find z mv = some u ∧ RepV ρ ads h u x
theorem BoundAs.nil {ρ : Rho} {h : Heap} : BoundAs ρ ads h [] [] := ⟨rfl, fun _ _ e => nn e⟩
theorem BoundAs.cons {ρ : Rho} {h : Heap} {a : Str} {v : Value} {x : AV} {mv : List (Str × Value)} {m : List (Str × AV)} (r : RepV ρ ads h v x) (b : BoundAs ρ ads h mv m) : BoundAs ρ ads h ((a, v) :: mv) ((a, x) :: m) := by
  refine ⟨congrArg (a :: ·) b.1, fun z y => ?_⟩
  show (match eqS z a with | true => some x | false => find z m) = some y → ∃ u, (match eqS z a with | true => some v | false => find z mv) = some u ∧ _
  cases eqS z a with
  | true => exact fun e => ⟨v, rfl, Option.some.inj e ▸ r⟩
  | false => exact fun e => b.2 z y e

theorem BoundAs.zip {ρ : Rho} {h : Heap} {names : List Str} : ∀ {vs : List Value} {xs : List AV}, RepVs ρ ads h vs xs → xs.length = names.length → BoundAs ρ ads h (names.zip vs) (names.zip xs) := by
  induction names with
  | nil =>
    intro vs xs r e
    rw [List.eq_nil_of_length_eq_zero e] at r ⊢
    rw [r.nil_inv]
    exact .nil
  | cons a l ih =>
    intro vs xs r e
    cases xs with
    | nil => exact Nat.noConfusion e
    | cons x xs =>
      obtain ⟨v, ws, rfl, q, r'⟩ := r.cons_inv
      exact .cons q (ih r' (Nat.succ.inj e))
theorem nodup_two {a b : Str} (h : [a, b].Nodup) : a ≠ b := fun q => (List.nodup_cons.mp h).1 (q ▸ .head _)
theorem map_two {as : List Arg} {x y : Str} (h : as.map (·.arg) = [x, y]) : ∃ pa pb, as = [pa, pb] ∧ x = pa.arg ∧ y = pb.arg := by
  rcases as with _ | ⟨pa, _ | ⟨pb, _ | ⟨pc, r⟩⟩⟩
  · exact ln h
  · exact ln (List.cons.inj h).2
  · exact ⟨pa, pb, rfl, (List.cons.inj h).1.symm, (List.cons.inj (List.cons.inj h).2).1.symm⟩
  · exact lc (List.cons.inj (List.cons.inj h).2).2
theorem namesD_is {α : Type} {names : List Str} {xs : List α} {d : α} {m : List (Str × α)} (h : namesD names xs d = some m) : ∃ a b, names = [a, b] ∧ bindTwo a b xs d = some m := by
  rcases names with _ | ⟨a, _ | ⟨b, z⟩⟩
  · exact nn h
  · exact nn h
  · obtain ⟨h1, h2⟩ := gd_is h
    rw [nil_is h1]
    exact ⟨a, b, rfl, h2⟩
theorem bindTwo_is {α : Type} {a b : Str} {xs : List α} {d : α} {m : List (Str × α)} (h : bindTwo a b xs d = some m) : (∃ v, xs = [v] ∧ m = [(a, v), (b, d)]) ∨ ∃ v w, xs = [v, w] ∧ m = [(a, v), (b, w)] := by
  rcases xs with _ | ⟨v, _ | ⟨w, z⟩⟩
  · exact nn h
  · exact .inl ⟨v, rfl, (Option.some.inj h).symm⟩
  · obtain ⟨h1, h2⟩ := gd_is h
    rw [nil_is h1]
    exact .inr ⟨v, w, rfl, (Option.some.inj h2).symm⟩
theorem binds_rule {K : Frag} {ρ : Rho} {fd : FuncData} {vs : List Value} {xs ds : List AV} {m : List (Str × AV)} (X : K.In s.heap) (hp : plainParams fd.params = true) (hd : dflts K fd.defaults = some ds) (r : RepVs ρ ads s.heap vs xs)
    (hb : binds (fd.params.args.map (·.arg)) xs ds = some m) (ha : apart (m.map (·.1)) = true) : ∃ mv, BindsTo s fd ⟨vs, []⟩ mv ∧ BoundAs ρ ads s.heap mv m := by
  obtain ⟨kwd, hpe⟩ := params_of hp
  have hnd := apart_iff.mp ha
  have hd := dflts_are (ρ := ρ) (ads := ads) X hd
  clear hp ha X
  cases ds with
  | nil =>
    obtain ⟨hl, hb⟩ := gd_is hb
    have hl := Nat.eq_of_beq_eq_true hl
    rcases hd with ⟨hv, _⟩ | ⟨_, _, _, _, _, _, hne⟩
    · rw [← Option.some.inj hb, List.map_fst_zip (Nat.le_of_eq hl.symm)] at hnd
      rw [← Option.some.inj hb]
      exact ⟨_, bN hpe rfl hv (r.length.trans hl) hnd, .zip r hl⟩
    · exact (hne rfl).elim
  | cons d q =>
    obtain ⟨hq, hb⟩ := gd_is hb
    obtain ⟨a, b, hn, hb⟩ := namesD_is hb
    rw [nil_is hq] at hd
    rcases hd with ⟨_, q⟩ | ⟨T, items, ep, hv, hT, rd, _⟩
    · exact lc q
    · obtain ⟨u, rfl, rd1⟩ := rd.one_inv
      obtain ⟨pa, pb, ea, rfl, rfl⟩ := map_two hn
      rw [ea] at hpe
      rcases bindTwo_is hb with ⟨v, rfl, rfl⟩ | ⟨v, w, rfl, rfl⟩
      · obtain ⟨v, rfl, r1⟩ := r.one_inv
        exact ⟨_, b21 hpe hv hT rfl (nodup_two hnd), .cons r1 (.cons rd1 .nil)⟩
      · obtain ⟨v, u, rfl, r1, r2⟩ := r.two_inv
        exact ⟨_, b22 hpe hv hT rfl (nodup_two hnd), .cons r1 (.cons r2 .nil)⟩

theorem find_none {α : Type} {z : Str} {r : List (Str × α)} : z ∉ r.map (·.1) → find z r = none := by
  induction r with
  | nil => exact fun _ => rfl
  | cons p r ih =>
    intro h
    show (match eqS z p.1 with | true => some p.2 | false => find z r) = none
    rw [eqS_false.mpr (show z ≠ p.1 from fun q => h (q ▸ .head _))]
    exact ih fun q => h (.tail _ q)
theorem lookup_rev {mv : List (Str × Value)} (ha : (mv.map (·.1)).Nodup) (z : Str) : mv.reverse.lookup z = find z mv := by
  rw [find_eq]
  induction mv with
  | nil => rfl
  | cons p r ih =>
    obtain ⟨y, v⟩ := p
    obtain ⟨h1, h2⟩ := List.nodup_cons.mp ha
    rw [List.reverse_cons, List.lookup_append, ih h2, List.lookup_cons]
    cases hz : z == y with
    | true =>
      rw [← find_eq, find_none (eq_of_beq hz ▸ h1), List.lookup_cons, hz]
      rfl
    | false =>
      rw [List.lookup_cons, hz]
      cases List.lookup z r <;> rfl

theorem stays_hide {g h : Heap} {as : List Addr} (hk : ∀ b o, g.get? b = some o → h.get? b = some o) (hn : ∀ a ∈ as, g.get? a = none) : g.StaysIn (hideAll h as) := fun b o e =>
  hideAll_get _ (hk b o e) fun q => nn ((hn b q).symm.trans e)

/-- what a plain def is -/
structure FdIs (K : Frag) (fd : FuncData) : Prop where
  gl : fd.globals = mainGlobals
  bi : fd.builtins = builtinsNs
  cl : fd.closure = []
  par : plainParams fd.params = true
  gen : fd.scope.isGenerator = false
  co : fd.scope.isCoroutine = false
  kind : fd.scope.kind = .function
  cell : ∀ x ∈ fd.scope.names, x.2 ≠ .cell
  code : codeIn K fd.code fd.qualname = true
  dbg : find (Str.ofString "__debug__") fd.scope.names = none
theorem isFunc_is {k : ScopeKind} (h : isFunc k = true) : k = .function := by
  cases k <;> first | exact rfl | exact ff h
theorem fdOk_is {K : Frag} {fd : FuncData} (h : fdOk K fd = true) : FdIs K fd := by
  obtain ⟨h, q10⟩ := and_b h
  obtain ⟨h, q9⟩ := and_b h
  obtain ⟨h, q8⟩ := and_b h
  obtain ⟨h, q7⟩ := and_b h
  obtain ⟨h, q6⟩ := and_b h
  obtain ⟨h, q5⟩ := and_b h
  obtain ⟨h, q4⟩ := and_b h
  obtain ⟨h, q3⟩ := and_b h
  obtain ⟨q1, q2⟩ := and_b h
  exact ⟨Nat.eq_of_beq_eq_true q1, Nat.eq_of_beq_eq_true q2, nil_is q3, q4, not_b q5, not_b q6, isFunc_is q7, noCell_ne q8, q9, isNo_iff q10⟩
theorem fnAt_is {K : Frag} {f : Addr} {fd : FuncData} : fnAt K f = some fd → ∃ oc od osl, K.lookup f = some ⟨oc, od, .func fd, osl⟩ := by
  unfold fnAt
  rcases K.lookup f with _ | ⟨oc, od, b, sl⟩
  · exact fun h => nn h
  · cases b with
    | func fd' => exact fun h => ⟨oc, od, sl, by rw [Option.some.inj h]⟩
    | _ => exact fun h => nn h
theorem stmtsO_is {c : FuncBody} {b : List Stmt} (h : stmtsO c = some b) : c = .stmts b := by
  cases c with
  | stmts b' => rw [Option.some.inj h]
  | _ => exact nn h
noncomputable def Frm.into (fr : Frm) (s : Shared) (hide : List Addr) (f : Addr) (fd : FuncData) (L : Addr) : Frm := ⟨fr.A, fr.base, hideAll s.heap hide, fr.env :: fr.outer, L, f, fd.qualname, fd.scope, fd.code⟩
noncomputable def flowV : Flow → Value
  | .ret v => v
  | _ => .none
/-- nothing that stood is changed -/
noncomputable def Kept (h h' : Heap) : Prop := ∀ b o, h.get? b = some o → h'.get? b = some o
theorem env_is {K : Frag} {fd : FuncData} (I : FdIs K fd) (L f : Addr) : callEnv fd L f = envOf fd.qualname fd.scope L f fd.code := by
  unfold callEnv newEnv envOf
  rw [I.gl, I.bi, I.cl]
/-- a plain def is called -/
theorem callee {prog : Program} {w : World} {K : Frag} {A : Around} {R : Result → Shared → Prop} {f : Addr} {fd : FuncData} {body : List Stmt} {vs : List Value} {mv : List (Str × Value)} (hroom : A.depth < recursionLimit) (X : K.In s.heap) (hlim : s.heap.NoLimit)
    (hf : fnAt K f = some fd) (I : FdIs K fd) (hbody : fd.body = .stmts body) (hb : BindsTo s fd ⟨vs, []⟩ mv) (hnd : (mv.map (·.1)).Nodup) (hloc : allLocal fd.scope (mv.map (·.1)) = true)
    (k : ∀ h₁, h₁.Ns s.heap.objs.size (fun z => find z mv) → Kept s.heap h₁ →
      wpAny (model prog w) (A.deeper (envOf fd.qualname fd.scope s.heap.objs.size f fd.code)) (execs body (envOf fd.qualname fd.scope s.heap.objs.size f fd.code)) (fun fl s' => R (.ok (.ret (flowV fl))) s')
        (fun x s' => wpAny (model prog w) (A.deeper (envOf fd.qualname fd.scope s.heap.objs.size f fd.code)) (leaving (envOf fd.qualname fd.scope s.heap.objs.size f fd.code) x) (fun _ s'' => R (.error x) s'') (fun e' s'' => R (.error e') s'') s')
        { s with heap := h₁, toks := s.toks + mv.length }) : codeAny (model prog w) A (.call (.ref f) ⟨vs, []⟩) R s := by
  obtain ⟨oc, od, osl, hlk⟩ := fnAt_is hf
  refine codeAny_call_def (fd := fd) (body := body) (binds := mv) hroom (X _ _ hlk) rfl hlim (codeRec_of X I.code) hbody hb I.cell (fun y hy => ?_) (fun h₁ hns hk₁ => ?_) I.co I.gen I.kind
  · have := allLocal_at (cx := ⟨fd.scope, 0⟩) hloc _ (List.mem_map_of_mem hy)
    rw [← find_eq]
    revert this
    show (match find y.1 fd.scope.names with | some .local => true | _ => false) = true → _
    rcases find y.1 fd.scope.names with _ | k
    · exact fun h => ff h
    · cases k <;> first | exact fun _ => rfl | exact fun h => ff h
  · rw [env_is I]
    refine wpAny_mono (k h₁ ?_ hk₁) (fun fl s' q => ?_) fun _ _ e => e
    · rw [show (fun z => find z mv) = (fun z => mv.reverse.lookup z) from funext fun z => (lookup_rev hnd z).symm]
      exact hns
    · cases fl <;> exact q
theorem below_in {A : Around} {m : Str → Option Value} {hide : List Addr} (hst : A.frames = some (fr.env :: fr.outer)) (O : Below fr.A₀ fr.base fr.outer fr.g) (F : Fr fr.g fr.L s.heap m) (hk : fr.scope.kind = .function) (new : ∀ a ∈ hide, fr.g.get? a = none ∧ a ≠ fr.L) :
    Below A fr.base (fr.env :: fr.outer) (hideAll s.heap hide) :=
  ⟨hst, fun b o e => stays_hide F.keep (fun a ha => (new a ha).1) b o (O.stays b o e),
    funFrames_hideAll (O.push (name := fr.name) (scope := fr.scope) (a := fr.a) (cd := fr.cd) F hk).frames fun env he b hb hf => by
      rcases List.mem_cons.mp he with rfl | he
      · exact (new b hb).2 (Option.some.inj hf).symm
      · obtain ⟨L₁, o₁, hf₁, ho₁⟩ := funFrames_in O.frames env he
        rw [Option.some.inj (hf₁.symm.trans hf)] at ho₁
        exact nn ((new b hb).1.symm.trans ho₁)⟩
theorem sub_ok (O : FrmOk G fr cx) {cb : Nat} {m : Str → Option Value} (F : Fr fr.g fr.L s.heap m) (new : ∀ a ∈ muts G.ρ ads, fr.g.get? a = none ∧ a ≠ fr.L) (hcb : cx.cb = cb + 1) {fd : FuncData} (I : FdIs G.cf.K fd) {f L : Addr} :
    FrmOk G (fr.into s (muts G.ρ ads) f fd L) ⟨fd.scope, cb⟩ := by
  have st0 := stays_hide F.keep fun a ha => (new a ha).1
  refine ⟨rfl, below_in (Around.frames_deeper O.below.stack) O.below F O.kind new, O.X.keeps st0, O.T.keeps st0, I.kind, O.hh, I.dbg, ?_, ?_, O.ivs⟩
  · have := O.room
    show fr.A₀.depth + 1 + cb + G.ρ.sz + 20 ≤ recursionLimit
    rw [hcb] at this; omega
  · have := O.units
    show fr.A₀.units + 3 + 10 * (cb + G.ρ.sz + 20) ≤ cLine
    rw [hcb] at this; omega
theorem sub_sim (C : Core G.ρ (AllBut G.ρ s ads) st s ads) {fd : FuncData} {f : Addr} {h₁ : Heap} {tk : Nat} {mv : List (Str × Value)} {mm : List (Str × AV)} (hns : h₁.Ns s.heap.objs.size (fun z => find z mv)) (hk : Kept s.heap h₁) (bound : BoundAs G.ρ ads s.heap mv mm) :
    Sim G.ρ (fr.into s (muts G.ρ ads) f fd s.heap.objs.size) (AllBut G.ρ s ads) ⟨mm, st.lists, st.ws⟩ { s with heap := h₁, toks := tk } ads := by
  have hlt : ∀ b o, s.heap.get? b = some o → b ≠ s.heap.objs.size := fun b o e => Nat.ne_of_lt (Heap.lt_size e)
  have C₁ := C.ext (h' := h₁) (tk := tk) hk
  refine ⟨⟨C₁.lists, C₁.words, C₁.src, C₁.kept, C₁.apart, C₁.lv, C₁.out⟩, ⟨fun z => find z mv, ⟨hns, fun b o e => hk b o (of_hideAll _ e), Nat.le_of_eq (hideAll_size _ _)⟩, fun z w e => ?_⟩, fun a ha => ⟨hideAll_none _ ha, ?_⟩, fun b o e => hlt b o e.1⟩
  · obtain ⟨u, e', rr⟩ := bound.2 z w e
    exact ⟨u, e', rr.mono (Later.ext hk)⟩
  · obtain ⟨o, ho, _⟩ := muts_there C ha
    exact hlt a o ho
theorem flow_rep {ρ : Rho} {h : Heap} {fl : Flow} {y : Fl} (r : RepF ρ ads h fl y) : RepV ρ ads h (flowV fl) (retOf y) := by
  induction r with
  | next => exact .none
  | brk => exact .none
  | ret r => exact r

/-- a call of a plain def -/
theorem c_fd (H : Snd G n) (O : FrmOk G fr cx) {m : Str → Option Value} (F : Fr fr.g fr.L s.heap m) (new : ∀ a ∈ muts G.ρ ads, fr.g.get? a = none ∧ a ≠ fr.L) (C : Core G.ρ (AllBut G.ρ s ads) st s ads)
    {f : Addr} {fd : FuncData} {cb : Nat} {vs : List Value} {xs : List AV} {k : KV} (hcb : cx.cb = cb + 1) (hf : fnAt G.cf.K f = some fd) (r : RepVs G.ρ ads s.heap vs xs) (h : cFd G.cf (run G.cf n) fd xs cb k st = true) :
    wpAny (model G.prog G.w) fr.A (call (.ref f) vs) (PostC G.ρ st.loc s ads k) (Exc G fr) s := by
  refine and_el h fun hfd h => onS_el h fun body hbody h => onS_el h fun ds hds h => onS_el h fun mm hbinds h => and_el h fun hap h => and_el h fun hloc h => ?_
  have I := fdOk_is hfd
  have X := O.X.keeps F.keep
  obtain ⟨mv, hb, bound⟩ := binds_rule X I.par hds r hbinds hap
  have room : fr.A₀.depth + 1 < recursionLimit := by have := O.room; omega
  refine wpAny_call (callee room X (O.T.nolimit.keeps F.keep) hf I (stmtsO_is hbody) hb (bound.1 ▸ apart_iff.mp hap) (bound.1 ▸ hloc) fun h₁ hns hk₁ => ?_)
  have O' := sub_ok O F new hcb I (f := f) (L := s.heap.objs.size)
  refine wpAny_mono (H.ss h O' (sub_sim C hns hk₁ bound)) (fun fl s' q => ?_) fun e s' q => ?_
  · obtain ⟨y, st₂, ads₂, rf, S₂, l₂, hk⟩ := q
    exact ⟨_, ⟨st.loc, st₂.lists, st₂.ws⟩, ads₂, flow_rep rf, ⟨S₂.lists, S₂.words, S₂.src, S₂.kept, S₂.apart, S₂.lv, S₂.out⟩, (Later.ext hk₁).trans l₂, rfl, hk⟩
  · refine fly_leave O' q fun e' a0 h' he hf hu => ?_
    refine ⟨q.1, e', a0, he, .inl hf, (Heap.UpToSlots.of_keeps (stays_hide F.keep fun a ha => (new a ha).1)).trans hu, ?_⟩
    obtain ⟨_, _, _, _, _, _, ho⟩ := q
    exact ho
theorem c_plain (H : Snd G n) (O : FrmOk G fr cx) {m : Str → Option Value} (F : Fr fr.g fr.L s.heap m) (new : ∀ a ∈ muts G.ρ ads, fr.g.get? a = none ∧ a ≠ fr.L) (C : Core G.ρ (AllBut G.ρ s ads) st s ads)
    {f : Addr} {vs : List Value} {xs : List AV} {k : KV} (r : RepVs G.ρ ads s.heap vs xs) (h : cPlain G.cf (run G.cf n) f xs k cx st = true) :
    wpAny (model G.prog G.w) fr.A (call (.ref f) vs) (PostC G.ρ st.loc s ads k) (Exc G fr) s := by
  revert h
  unfold cPlain
  cases hcb : cx.cb with
  | zero => exact fun h => ff h
  | succ cb => exact fun h => onS_el h fun fd hf h => c_fd H O F new C hcb hf r h
end
end Mine

namespace Mine

/-- what a run of the program stands on -/
structure Bs where
  prog : Program
  w : World
  p : Program
  loose : List Str
  mg : Str → Option Value
  mb : Str → Option Value
  K : Frag
  C : Addr
  fExpr : Addr
  fBlock : Addr
  fTake : Addr
  GF : Addr

structure FrB (B : Bs) (fr : Frm) (n : Nat) : Prop where
  below : Below fr.A₀ fr.base fr.outer fr.g
  X : B.K.In fr.g
  T : TopRead B.p B.loose B.mg B.mb fr.g
  kind : fr.scope.kind = .function
  hh : fr.A₀.handled = none
  dbg : find (Str.ofString "__debug__") fr.scope.names = none
  room : fr.A₀.depth + n + 20 ≤ recursionLimit
  units : fr.A₀.units + 10 * (n + 20) ≤ cLine

noncomputable def FollW (k x : Str) : Prop := (k = Str.ofString "sign" ∧ x ∈ followS) ∨ (k = Str.ofString "end" ∧ x = Str.ofString "")

noncomputable def FliesTo (B : Bs) (fr : Frm) (s : Shared) (x : Value) (s' : Shared) : Prop :=
  ∃ e a0, x = .ref e ∧ (Heap.FlyingW fr.base (fr.env :: fr.outer) e (.ref B.GF) a0 s'.heap ∨ Heap.HeldW fr.base (fr.env :: fr.outer) e (.ref B.GF) a0 fr.L s'.heap) ∧ fr.g.UpToSlots s'.heap ∧ OutAs s s'

/-- the def f reads the words at hand: just where there are e levels left -/
noncomputable def ReadsBy (B : Bs) (f : Addr) (flag : Bool) (inner : List (Str × Str)) (e sz : Nat) : Prop :=
  ∀ (fr : Frm) (ω : Wd) (s : Shared) (i d : Nat) (m : Str → Option Value) (vs : List Value), FrB B fr sz → Fr fr.g fr.L s.heap m → fr.g.get? ω.D = none → ω.D ≠ fr.L → ω.R ≠ ω.D → ω.C = B.C →
    WordsAt ω s.heap i d → (∃ k x post, ω.toks.drop i = inner ++ (k, x) :: post ∧ FollW k x) → d ≤ 60 → (vs = [.ref ω.W] ∨ flag = true ∧ vs = [.ref ω.W, .bool false]) →
    wpAny (model B.prog B.w) fr.A (call (.ref f) vs)
      (fun _ s' => d + e ≤ 60 ∧ (∀ b o, s.heap.get? b = some o → b ≠ ω.D → s'.heap.get? b = some o) ∧ WordsAt ω s'.heap (i + inner.length) d ∧ OutAs s s')
      (fun x s' => 60 < d + e ∧ FliesTo B fr s x s') s

/-- a number is drawn -/
noncomputable def TakesBy (B : Bs) (sz : Nat) : Prop :=
  ∀ (fr : Frm) (S : Addr) (s : Shared) (n : Nat) (t : PySem.Tok) (m : Str → Option Value), FrB B fr sz → Fr fr.g fr.L s.heap m → fr.g.get? S = none → S ≠ fr.L → SrcAt s.heap S → 1 ≤ n → n ≤ 1000 →
    wpAny (model B.prog B.w) fr.A (call (.ref B.fTake) [.ref S, .int n t])
      (fun v s' => ∃ i t', v = .int (Int.ofNat i) t' ∧ i < n ∧ SrcAt s'.heap S ∧ (∀ b o, s.heap.get? b = some o → b ≠ S → s'.heap.get? b = some o) ∧ OutAs s s')
      (fun _ _ => False) s

noncomputable def Gl.bs (G : Gl) : Bs := ⟨G.prog, G.w, G.p, G.loose, G.mg, G.mb, G.cf.K, G.cf.C, G.cf.fExpr, G.cf.fBlock, G.cf.fTake, G.GF⟩

structure HoleHyp (G : Gl) : Prop where
  cls : ∀ ω, G.ρ.wd = some ω → ω.C = G.cf.C
  ex : G.ρ.inner ≠ [] → ReadsBy G.bs G.cf.fExpr true G.ρ.inner G.ρ.e G.ρ.sz
  bl : G.ρ.inner ≠ [] → G.ρ.blk = true → 1 ≤ G.ρ.e ∧ ReadsBy G.bs G.cf.fBlock false G.ρ.inner (G.ρ.e - 1) G.ρ.sz
  tk : ∀ S, G.ρ.src = some S → TakesBy G.bs G.ρ.sz

section
variable {G : Gl} {fr : Frm} {kp : Kp} {cx : Cx} {st : St} {s : Shared} {ads : List Addr} {n : Nat}

theorem FrmOk.frB (O : FrmOk G fr cx) : FrB G.bs fr G.ρ.sz := ⟨O.below, O.X, O.T, O.kind, O.hh, by rw [O.scope]; exact O.dbg, by have := O.room; omega, by have := O.units; omega⟩

/-- one cell that may be changed, and no list, has been changed -/
theorem Core.but1 {ρ : Rho} (x : Core ρ kp st s ads) {s' : Shared} {c : Addr} {o₀ : Obj} {st' : St} (hc : c ∈ muts ρ ads) (hn : c ∉ ads) (h₀ : s.heap.get? c = some o₀) (hT : o₀.cls ≠ .type "tuple")
    (k : ∀ b o, s.heap.get? b = some o → b ≠ c → s'.heap.get? b = some o) (hl : st'.lists = st.lists)
    (hw : ∀ ω, ρ.wd = some ω → ∃ i, WordsAt ω s'.heap i (ρ.d0 + st'.ws.lvl) ∧ Match ρ st'.ws.rest (ω.toks.drop i) ∧ (∀ t, st'.ws.prev = some t → ∃ x, 0 < i ∧ ω.toks[i - 1]? = some (t.kind, x) ∧ x ∈ t.texts) ∧ ω.R ∉ muts ρ ads)
    (hs : ∀ S, ρ.src = some S → SrcAt s'.heap S)
    (hv : ρ.d0 + st'.ws.lvl ≤ 60 ∧ ρ.d0 + st'.ws.mp ≤ 60 ∧ (st'.ws.mh = 0 ∨ ρ.d0 + (st'.ws.mh - 1) + ρ.e ≤ 60)) (ho : OutAs ρ.s0 s') : Core ρ kp st' s' ads ∧ Later ads s.heap ads s'.heap := by
  have l : Later ads s.heap ads s'.heap := ⟨⟨[], by simp⟩, fun t vs n e => k _ _ e (by rintro rfl; exact hT (by rw [Option.some.inj (h₀.symm.trans e)]))⟩
  refine ⟨⟨?_, hw, hs, fun b o hp => ⟨k b o (x.kept b o hp).1 (by rintro rfl; exact (x.kept b o hp).2 hc), (x.kept b o hp).2⟩, x.apart, hv, ho⟩, l⟩
  rw [hl]
  exact x.lists.mono l fun a ha o e => k a o e (by rintro rfl; exact hn ha)

theorem wd_out {ρ : Rho} {ω : Wd} (x : (muts ρ ads).Nodup) (h : ρ.wd = some ω) : ω.D ∉ ads := by
  unfold muts at x
  rw [h] at x
  intro q
  rw [List.append_assoc] at x
  exact (List.nodup_append.mp x).2.2 ω.D (by simp) ω.D (by simp [q]) rfl
theorem src_out {ρ : Rho} {S : Addr} (x : (muts ρ ads).Nodup) (h : ρ.src = some S) : S ∉ ads := by
  unfold muts at x
  rw [h] at x
  intro q
  rw [List.append_assoc] at x
  have := (List.nodup_append.mp x).2.1
  exact (List.nodup_append.mp this).2.2 S (by simp) S q rfl
theorem wd_src {ρ : Rho} {ω : Wd} {S : Addr} (x : (muts ρ ads).Nodup) (h : ρ.wd = some ω) (hs : ρ.src = some S) : S ≠ ω.D := by
  unfold muts at x
  rw [h, hs] at x
  rw [List.append_assoc] at x
  rintro rfl
  exact (List.nodup_append.mp x).2.2 ω.D (by simp) ω.D (by simp) rfl

theorem followTok_is {t : Wo} {x : Str} (hx : x ∈ t.texts) : followTok t = true → FollW t.kind x := by
  unfold followTok
  cases h1 : eqS t.kind (Str.ofString "sign") with
  | true =>
    rcases h2 : amid t.texts followS with _ | _ | _
    · exact fun h => ff h
    · exact fun h => ff h
    · exact fun _ => .inl ⟨eqS_iff.mp h1, inS_iff.mp (amid_true h2 x hx)⟩
  | false =>
    cases h3 : eqS t.kind (Str.ofString "end") with
    | false => exact fun h => ff h
    | true =>
      rcases h2 : amid t.texts [Str.ofString ""] with _ | _ | _
      · exact fun h => ff h
      · exact fun h => ff h
      · exact fun _ => .inr ⟨eqS_iff.mp h3, List.mem_singleton.mp (inS_iff.mp (amid_true h2 x hx))⟩
/-- what the words that are still to be read look like -/
theorem Match.inv {ρ : Rho} {r : List TK} {l : List (Str × Str)} (M : Match ρ r l) : List.rec (motive := fun _ => Prop) (l = ρ.tail) (fun t r _ => TK.rec (motive := fun _ => Prop) (fun t => ∃ x l', l = (t.kind, x) :: l' ∧ x ∈ t.texts ∧ Match ρ r l')
    (fun blk t => ∃ x i l', blk = ρ.blk ∧ l = ρ.inner ++ l' ∧ ρ.inner = (t.kind, x) :: i ∧ x ∈ t.texts ∧ Match ρ r l') t) r := by
  induction M with
  | nil => exact rfl
  | tok hx M _ => exact ⟨_, _, rfl, hx, M⟩
  | hole hi hx M _ => exact ⟨_, _, _, rfl, rfl, hi, hx, M⟩
theorem followed_is {ρ : Rho} {r : List TK} {l : List (Str × Str)} (h : followed r = true) (M : Match ρ r l) : ∃ k x post, l = (k, x) :: post ∧ FollW k x := by
  cases r with
  | nil => exact ff h
  | cons t r =>
    cases t with
    | hole blk t => exact ff h
    | tok t =>
      obtain ⟨x, l', rfl, hx, _⟩ := M.inv
      exact ⟨_, x, l', rfl, followTok_is hx h⟩
theorem maxN_or (a b : Nat) : maxN a b = a ∨ maxN a b = b := by
  unfold maxN
  cases Nat.ble a b with
  | true => exact .inr rfl
  | false => exact .inl rfl
theorem lv_jump {d0 lvl mh e less : Nat} (h3 : mh = 0 ∨ d0 + (mh - 1) + e ≤ 60) (hl : less ≤ e) (hd : d0 + lvl + (e - less) ≤ 60) : maxN mh (lvl + 1 - less) = 0 ∨ d0 + (maxN mh (lvl + 1 - less) - 1) + e ≤ 60 := by
  rcases maxN_or mh (lvl + 1 - less) with q | q
  · rw [q]; exact h3
  · rw [q]
    by_cases hz : lvl + 1 - less = 0
    · exact .inl hz
    · exact .inr (by omega)
theorem lv_over {d0 lvl e less top htop : Nat} (hl : less ≤ e) (hb : lvl ≤ htop + less) (hd : 60 < d0 + lvl + (e - less)) : 60 < d0 + top ∨ 60 < d0 + htop + e := .inr (by omega)
/-- the leap over the hole -/
theorem c_jump (HH : HoleHyp G) (O : FrmOk G fr cx) {m : Str → Option Value} (F : Fr fr.g fr.L s.heap m) (new : ∀ a ∈ muts G.ρ ads, fr.g.get? a = none ∧ a ≠ fr.L) (C : Core G.ρ (AllBut G.ρ s ads) st s ads)
    {ω : Wd} (hω : G.ρ.wd = some ω) {f : Addr} {flag : Bool} {less : Nat} {vs : List Value} {r : List TK} {blk : Bool} {t : Wo} {k : KV} (hr : st.ws.rest = .hole blk t :: r)
    (hR : G.ρ.inner ≠ [] → less ≤ G.ρ.e ∧ ReadsBy G.bs f flag G.ρ.inner (G.ρ.e - less) G.ρ.sz) (hvs : vs = [.ref ω.W] ∨ flag = true ∧ vs = [.ref ω.W, .bool false]) (h : jump G.cf r less st k = true) :
    wpAny (model G.prog G.w) fr.A (call (.ref f) vs) (PostC G.ρ st.loc s ads k) (Exc G fr) s := by
  refine and_el h fun hf h => and_el h fun hl h => ?_
  obtain ⟨i, W, M, hp, nR⟩ := C.words ω hω
  rw [hr] at M
  obtain ⟨x, i', l, _, hdrop, hi, hx, M⟩ := M.inv
  obtain ⟨hless, RB⟩ := hR fun q => lc (hi.symm.trans q)
  obtain ⟨kk, xx, post, hpost, hfw⟩ := followed_is hf M
  have hRD : ω.R ≠ ω.D := fun q => nR (q ▸ mem_wd hω)
  obtain ⟨ti, td, hD⟩ := W.dict
  obtain ⟨n1, n2⟩ := new _ (mem_wd hω)
  clear hr hp hx hR new
  refine wpAny_mono (RB fr ω s i (G.ρ.d0 + st.ws.lvl) m vs O.frB F n1 n2 hRD (HH.cls ω hω) W ⟨kk, xx, post, by rw [hdrop, hpost], hfw⟩ C.lv.1 hvs) (fun v s' q => ?_) fun x s' q => ?_
  · obtain ⟨hd, hk, W', ho⟩ := q
    have hC := C.but1 (s' := s') (st' := ⟨st.loc, st.lists, ⟨none, r, st.ws.lvl, st.ws.mp, maxN st.ws.mh (st.ws.lvl + 1 - less)⟩⟩) (mem_wd hω) (wd_out C.apart hω) hD (show Value.type "dict" ≠ Value.type "tuple" by decide) hk rfl
      (fun ω' e => ?_) (fun S e => (C.src S e).mono fun o q => hk S o q (wd_src C.apart hω e)) ⟨C.lv.1, C.lv.2.1, lv_jump C.lv.2.2 hless hd⟩ ⟨ho.1.trans C.out.1, ho.2.1.trans C.out.2.1, ho.2.2.trans C.out.2.2⟩
    · exact ⟨.any, _, ads, .any v, hC.1, hC.2, rfl, h⟩
    · rw [← Option.some.inj (hω.symm.trans e)]
      refine ⟨i + G.ρ.inner.length, W', ?_, fun t (e : (none : Option Wo) = some t) => nn e, nR⟩
      show Match G.ρ r _
      rw [← List.drop_drop, hdrop, List.drop_append_of_le_length (Nat.le_refl _), List.drop_length, List.nil_append]
      exact M
  · obtain ⟨hd, e, a0, rfl, hfl, hu, ho⟩ := q
    exact ⟨lv_over hless (Nat.le_of_ble_eq_true hl) hd, e, a0, rfl, hfl, hu, ho.1.trans C.out.1, ho.2.1.trans C.out.2.1, ho.2.2.trans C.out.2.2⟩

theorem draws_at {k : KV} {st : St} {n : Nat} : draws k st n = true → ∀ i, i < n → k (.int (Int.ofNat i)) st = true := by
  induction n with
  | zero => exact fun _ i hi => absurd hi (Nat.not_lt_zero i)
  | succ n ih =>
    show (match draws k st n with | true => k (.int n) st | false => false) = true → _
    cases hd : draws k st n with
    | false => exact fun h => ff h
    | true =>
      intro h i hi
      rcases Nat.lt_or_eq_of_le (Nat.le_of_lt_succ hi) with hi | rfl
      · exact ih hd i hi
      · exact h
theorem isSrc_is {x : AV} (h : isSrc x = true) : x = .src := by
  cases x <;> first | exact rfl | exact ff h
theorem cDraw_is {vs : List Value} {xs : List AV} {k : KV} (r : RepVs G.ρ ads s.heap vs xs) (h : cDraw xs k st = true) : ∃ S t n, G.ρ.src = some S ∧ vs = [.ref S, .int (n : Nat) t] ∧ n ≤ 1000 ∧ 1 ≤ n ∧ draws k st n = true := by
  cases xs with
  | nil => exact ff h
  | cons a xs =>
    obtain ⟨v, ws, rfl, r1, rs⟩ := r.cons_inv
    obtain ⟨ha, h⟩ := and_b h
    rw [isSrc_is ha] at r1
    obtain ⟨S, hS, rfl⟩ := r1.src_inv
    apply Rs_one rs h
    intro u b r2 h
    apply R_nat r2 h
    intro n t h
    obtain ⟨h1, h⟩ := and_b h
    obtain ⟨h2, h⟩ := and_b h
    exact ⟨S, t, n, hS, rfl, Nat.le_of_ble_eq_true h1, Nat.le_of_ble_eq_true h2, h⟩

theorem c_draw (HH : HoleHyp G) (O : FrmOk G fr cx) {m : Str → Option Value} (F : Fr fr.g fr.L s.heap m) (new : ∀ a ∈ muts G.ρ ads, fr.g.get? a = none ∧ a ≠ fr.L) (C : Core G.ρ (AllBut G.ρ s ads) st s ads)
    {vs : List Value} {xs : List AV} {k : KV} (r : RepVs G.ρ ads s.heap vs xs) (h : cDraw xs k st = true) :
    wpAny (model G.prog G.w) fr.A (call (.ref G.cf.fTake) vs) (PostC G.ρ st.loc s ads k) (Exc G fr) s := by
  obtain ⟨S, t, n, hS, rfl, h1, h2, h⟩ := cDraw_is r h
  clear r
  have cS := C.src S hS
  obtain ⟨n1, n2⟩ := new _ (mem_src hS)
  refine wpAny_mono (HH.tk S hS fr S s n t m O.frB F n1 n2 cS h2 h1) (fun v s' q => ?_) fun x s' q => q.elim
  obtain ⟨i, t', rfl, hi, hS2, hk, ho⟩ := q
  obtain ⟨_, _, _, _, oS, _, hS', hcS, _⟩ := cS
  have hT : oS.cls ≠ .type "tuple" := hcS ▸ show Value.type "list" ≠ Value.type "tuple" by decide
  have hC := C.but1 (s' := s') (st' := st) (mem_src hS) (src_out C.apart hS) hS' hT hk rfl
    (fun ω e => ?_) (fun S' e => Option.some.inj (hS.symm.trans e) ▸ hS2) C.lv ⟨ho.1.trans C.out.1, ho.2.1.trans C.out.2.1, ho.2.2.trans C.out.2.2⟩
  · exact ⟨.int i, st, ads, .int _ _, hC.1, hC.2, rfl, draws_at h i hi⟩
  · obtain ⟨i, W, M, p, nR⟩ := C.words ω e
    exact ⟨i, W.but (c := S) (fun b o hb q => hk b o q hb) hS' (Ne.symm (wd_src C.apart e hS)) (fun q => nR (q ▸ mem_src hS)) (fun C => hcS ▸ fun q => nomatch q) hT, M, p, nR⟩

theorem isWords_is {x : AV} (h : isWords x = true) : x = .words := by
  cases x <;> first | exact rfl | exact ff h
theorem isFalse_is {x : AV} (h : isFalse x = true) : x = .bool false := by
  cases x with
  | bool b => rw [not_b h]
  | _ => exact ff h
theorem leapV_is {cf : Cf} {f : Addr} {xs : List AV} {blk : Bool} {r rr : List TK} {less : Nat} (h : leapV cf f xs blk r = some (rr, less)) :
    r = rr ∧ (f = cf.fExpr ∧ less = 0 ∧ (xs = [.words] ∨ xs = [.words, .bool false]) ∨ f = cf.fBlock ∧ less = 1 ∧ blk = true ∧ xs = [.words]) := by
  cases xs with
  | nil => exact nn h
  | cons v w =>
    obtain ⟨hv, h⟩ := gd_is h
    rw [isWords_is hv]
    cases w with
    | nil =>
      revert h
      show (match Nat.beq f cf.fExpr with | true => some (r, 0) | false => gd (Nat.beq f cf.fBlock && blk) (some (r, 1))) = some (rr, less) → _
      cases hf : Nat.beq f cf.fExpr with
      | true =>
        intro h
        obtain ⟨rfl, rfl⟩ := Prod.mk.inj (Option.some.inj h)
        exact ⟨rfl, .inl ⟨Nat.eq_of_beq_eq_true hf, rfl, .inl rfl⟩⟩
      | false =>
        intro h
        obtain ⟨hb, h⟩ := gd_is h
        obtain ⟨hb, hk⟩ := and_b hb
        obtain ⟨rfl, rfl⟩ := Prod.mk.inj (Option.some.inj h)
        exact ⟨rfl, .inr ⟨Nat.eq_of_beq_eq_true hb, rfl, hk, rfl⟩⟩
    | cons b z =>
      obtain ⟨hz, h⟩ := gd_is h
      obtain ⟨hz, hb⟩ := and_b hz
      obtain ⟨hb, hf⟩ := and_b hb
      obtain ⟨rfl, rfl⟩ := Prod.mk.inj (Option.some.inj h)
      rw [nil_is hz, isFalse_is hb]
      exact ⟨rfl, .inl ⟨Nat.eq_of_beq_eq_true hf, rfl, .inr rfl⟩⟩
theorem leaps_is {cf : Cf} {f : Addr} {xs : List AV} {st : St} {rr : List TK} {less : Nat} : leaps cf f xs st = some (rr, less) →
    ∃ blk t, st.ws.rest = .hole blk t :: rr ∧ (f = cf.fExpr ∧ less = 0 ∧ (xs = [.words] ∨ xs = [.words, .bool false]) ∨ f = cf.fBlock ∧ less = 1 ∧ blk = true ∧ xs = [.words]) := by
  unfold leaps
  cases st.ws.rest with
  | nil => exact fun h => nn h
  | cons t r =>
    cases t with
    | tok t => exact fun h => nn h
    | hole blk t =>
      intro h
      obtain ⟨e, h2⟩ := leapV_is (cf := cf) (f := f) (xs := xs) (blk := blk) (r := r) h
      exact ⟨blk, t, e ▸ rfl, h2⟩
theorem words_args {vs : List Value} {xs : List AV} (r : RepVs G.ρ ads s.heap vs xs) (hx : xs = [.words] ∨ xs = [.words, .bool false]) : ∃ ω, G.ρ.wd = some ω ∧ (vs = [.ref ω.W] ∨ true = true ∧ vs = [.ref ω.W, .bool false]) := by
  rcases hx with rfl | rfl
  · obtain ⟨v, rfl, r1⟩ := r.one_inv
    obtain ⟨ω, hω, rfl⟩ := r1.words_inv
    exact ⟨ω, hω, .inl rfl⟩
  · obtain ⟨u, v, rfl, r1, r2⟩ := r.two_inv
    obtain ⟨ω, hω, rfl⟩ := r1.words_inv
    obtain rfl := r2.bool_inv
    exact ⟨ω, hω, .inr ⟨rfl, rfl⟩⟩
theorem call_rule (HH : HoleHyp G) (H : Snd G n) (O : FrmOk G fr cx) {m : Str → Option Value} (F : Fr fr.g fr.L s.heap m) (new : ∀ a ∈ muts G.ρ ads, fr.g.get? a = none ∧ a ≠ fr.L) (C : Core G.ρ (AllBut G.ρ s ads) st s ads)
    {f : Addr} {vs : List Value} {xs : List AV} {k : KV} (r : RepVs G.ρ ads s.heap vs xs) (h : stCall G.cf (run G.cf n) f xs k cx st = true) :
    wpAny (model G.prog G.w) fr.A (call (.ref f) vs) (PostC G.ρ st.loc s ads k) (Exc G fr) s := by
  revert h
  unfold stCall
  cases hl : leaps G.cf f xs st with
  | some p =>
    intro h
    obtain ⟨blk, t, hrest, ⟨rfl, hz, hx⟩ | ⟨rfl, hz, hb, rfl⟩⟩ := leaps_is hl
    · obtain ⟨ω, hω, hv⟩ := words_args r hx
      exact c_jump HH O F new C hω hrest (fun hi => hz ▸ ⟨Nat.zero_le _, HH.ex hi⟩) hv h
    · obtain ⟨v, rfl, r1⟩ := r.one_inv
      obtain ⟨ω, hω, rfl⟩ := r1.words_inv
      refine c_jump (flag := false) HH O F new C hω hrest (fun hi => hz ▸ HH.bl hi (Eq.trans (Eq.symm ?_) hb)) (.inl rfl) h
      obtain ⟨i, W, M, _⟩ := C.words ω hω
      rw [hrest] at M
      obtain ⟨_, _, _, e, _⟩ := M.inv
      exact e
  | none =>
    show (match Nat.beq f G.cf.fTake with | true => cDraw xs k st | false => cPlain G.cf (run G.cf n) f xs k cx st) = true → _
    cases hf : Nat.beq f G.cf.fTake with
    | true =>
      rw [Nat.eq_of_beq_eq_true hf]
      exact fun h => c_draw HH O F new C r h
    | false => exact fun h => c_plain H O F new C r h

theorem run_no {cf : Cf} {j : Job} {cx : Cx} {st : St} {P : Prop} (h : run cf 0 j cx st = true) : P := ff h
theorem snd_all (MH : MethHyp G) (HH : HoleHyp G) : ∀ n, Snd G n := by
  intro n
  induction n using Nat.strongRecOn with
  | _ n ih =>
    cases n with
    | zero => exact ⟨fun h _ _ => run_no h, fun h _ _ => run_no h, fun h _ _ _ => run_no h, fun h _ _ => run_no h, fun h _ _ => run_no h, fun h _ _ _ _ _ => run_no h⟩
    | succ n =>
      have H := ih n (Nat.lt_succ_self n)
      exact ⟨fun h O S => e_rule MH H O S h, fun h O S => t_rule H O S h, fun h hs O S => as_rule H O S h hs, fun h O S => s_rule (fun m hm => ih m (Nat.lt_succ_of_le hm)) O S h,
        fun h O S => ss_rule H O S h, fun h O F new C r => call_rule HH H O F new C r h⟩
end
end Mine

namespace Mine

section
variable {B : Bs} {fr : Frm} {n : Nat} {s : Shared} {m : Str → Option Value}

/-- a plain def is entered -/
theorem enter {Q : Value → Shared → Prop} {E : Value → Shared → Prop} (O : FrB B fr (n + 1)) (F : Fr fr.g fr.L s.heap m) (hide : List Addr) (hnew : ∀ a ∈ hide, fr.g.get? a = none ∧ a ≠ fr.L)
    {f : Addr} {fd : FuncData} {body : List Stmt} {vs : List Value} {mv : List (Str × Value)} (hf : fnAt B.K f = some fd) (hfd : fdOk B.K fd = true) (hbody : fd.body = .stmts body) (hb : BindsTo s fd ⟨vs, []⟩ mv)
    (hnd : (mv.map (·.1)).Nodup) (hloc : allLocal fd.scope (mv.map (·.1)) = true)
    (k : ∀ L s₁, s.heap.get? L = none → Kept s.heap s₁.heap → OutAs s s₁ → FrB B (fr.into s hide f fd L) n → Fr (hideAll s.heap hide) L s₁.heap (fun z => find z mv) →
      wpAny (model B.prog B.w) (fr.into s hide f fd L).A (execs body (fr.into s hide f fd L).env) (fun fl s' => Q (flowV fl) s')
        (fun x s' => wpAny (model B.prog B.w) (fr.into s hide f fd L).A (leaving (fr.into s hide f fd L).env x) (fun _ s'' => E x s'') (fun e' s'' => E e' s'') s') s₁) :
    wpAny (model B.prog B.w) fr.A (call (.ref f) vs) Q E s := by
  have st0 := stays_hide F.keep fun a ha => (hnew a ha).1
  have room : fr.A₀.depth + 1 < recursionLimit := by have := O.room; omega
  have I := fdOk_is hfd
  refine wpAny_call (callee room (O.X.keeps F.keep) (O.T.nolimit.keeps F.keep) hf I hbody hb hnd hloc fun h₁ hns hk₁ => ?_)
  refine k s.heap.objs.size { s with heap := h₁, toks := s.toks + mv.length } (Heap.get?_none_of_le (Nat.le_refl _)) hk₁ ⟨rfl, rfl, rfl⟩ ⟨below_in (Around.frames_deeper O.below.stack) O.below F O.kind hnew, O.X.keeps st0, O.T.keeps st0, I.kind, O.hh, I.dbg, ?_, ?_⟩
    ⟨hns, fun b o e => hk₁ b o (of_hideAll _ e), Nat.le_of_eq (hideAll_size _ _)⟩
  · have := O.room
    show fr.A₀.depth + 1 + n + 20 ≤ recursionLimit
    omega
  · have := O.units
    show fr.A₀.units + 3 + 10 * (n + 20) ≤ cLine
    omega

/-- where nothing is raised -/
theorem enterQ {Q : Value → Shared → Prop} {E : Value → Shared → Prop} (O : FrB B fr (n + 1)) (F : Fr fr.g fr.L s.heap m) (hide : List Addr) (hnew : ∀ a ∈ hide, fr.g.get? a = none ∧ a ≠ fr.L)
    {f : Addr} {fd : FuncData} {body : List Stmt} {vs : List Value} {mv : List (Str × Value)} (hf : fnAt B.K f = some fd) (hfd : fdOk B.K fd = true) (hbody : fd.body = .stmts body) (hb : BindsTo s fd ⟨vs, []⟩ mv)
    (hnd : (mv.map (·.1)).Nodup) (hloc : allLocal fd.scope (mv.map (·.1)) = true)
    (k : ∀ L s₁, s.heap.get? L = none → Kept s.heap s₁.heap → OutAs s s₁ → FrB B (fr.into s hide f fd L) n → Fr (hideAll s.heap hide) L s₁.heap (fun z => find z mv) →
      wpAny (model B.prog B.w) (fr.into s hide f fd L).A (execs body (fr.into s hide f fd L).env) (fun fl s' => Q (flowV fl) s') (fun _ _ => False) s₁) :
    wpAny (model B.prog B.w) fr.A (call (.ref f) vs) Q E s :=
  enter O F hide hnew hf hfd hbody hb hnd hloc fun L s₁ a b c d e => wpAny_mono (k L s₁ a b c d e) (fun _ _ q => q) fun _ _ q => q.elim

/-- a name of the frame's own -/
theorem nm {Q : Value → Shared → Prop} {E : Value → Shared → Prop} {x : Str} {v : Value} {p : Pos} (O : FrB B fr n) {hp : Heap} (F : Fr fr.g fr.L hp m) (hl : find x fr.scope.names = some .local) (hm : m x = some v) (h : Q v s) (hs : s.heap = hp := by rfl) :
    wpAny (model B.prog B.w) fr.A (eval (.Name x p) fr.env) Q E s := by
  subst hs
  refine ld F hm h O.kind ?_ ?_
  · show fr.scope.names.lookup x = _
    rw [← find_eq]; exact hl
  · rw [← eqS_eq, eqS_false]
    rintro rfl
    rw [O.dbg] at hl; (first | exact ff hl | exact nn hl | exact ns hl | exact tf hl | exact ln hl | exact lc hl | cases hl)
theorem gnm {Q : Value → Shared → Prop} {E : Value → Shared → Prop} {x : Str} {v : Value} {p : Pos} (O : FrB B fr n) {hp : Heap} (F : Fr fr.g fr.L hp m) (hl : find x fr.scope.names = some .globalImplicit) (hm : nsIn B.K mainGlobals x = some (some v)) (h : Q v s) (hs : s.heap = hp := by rfl) :
    wpAny (model B.prog B.w) fr.A (eval (.Name x p) fr.env) Q E s := by
  subst hs
  refine name_K F O.X O.T hm h O.kind ?_ ?_
  · show fr.scope.names.lookup x = _
    rw [← find_eq]; exact hl
  · rw [← eqS_eq, eqS_false]
    rintro rfl
    rw [O.dbg] at hl; (first | exact ff hl | exact nn hl | exact ns hl | exact tf hl | exact ln hl | exact lc hl | cases hl)
theorem bnm {Q : Value → Shared → Prop} {E : Value → Shared → Prop} {x : Str} {v : Value} {p : Pos} (O : FrB B fr n) {hp : Heap} (F : Fr fr.g fr.L hp m) (hl : find x fr.scope.names = some .globalImplicit) (hm : nsIn B.K mainGlobals x = some none)
    (hb : bootBuiltins x = some v) (hn : x ≠ "__name__") (h : Q v s) (hs : s.heap = hp := by rfl) :
    wpAny (model B.prog B.w) fr.A (eval (.Name x p) fr.env) Q E s := by
  subst hs
  refine name_B F O.X O.T hm hb hn h O.kind ?_ ?_
  · show fr.scope.names.lookup x = _
    rw [← find_eq]; exact hl
  · rw [← eqS_eq, eqS_false]
    rintro rfl
    rw [O.dbg] at hl; (first | exact ff hl | exact nn hl | exact ns hl | exact tf hl | exact ln hl | exact lc hl | cases hl)
theorem stN' {Q : Unit → Shared → Prop} {E : Value → Shared → Prop} {x : Str} {v : Value} (O : FrB B fr n) {hp : Heap} (F : Fr fr.g fr.L hp m) (hl : find x fr.scope.names = some .local)
    (h : ∀ h' tk, Fr fr.g fr.L h' (fun z => if z = x then some v else m z) → Heap.SameBut fr.L s.heap h' → Q () { s with heap := h', toks := tk }) (hs : s.heap = hp := by rfl) :
    wpAny (model B.prog B.w) fr.A (storeName fr.env x v) Q E s := by
  subst hs
  exact
  wpAny_storeName_local (by show fr.scope.names.lookup x = _; rw [← find_eq]; exact hl) F.ns (fun h' hn hs => h h' _ (F.set hn hs) hs) (by show (fr.scope.kind == .class || (fr.scope.kind == .module && _)) = false; rw [O.kind]; rfl)
end

/-- what the class of the words is asked -/
structure ClsK (B : Bs) : Prop where
  ga : findIn B.K (.ref B.C) "__getattribute__" = some (some (.builtin "object.__getattribute__"))
  gb : findIn B.K (.ref B.C) "__getattr__" = some none
  sa : findIn B.K (.ref B.C) "__setattr__" = some (some (.builtin "object.__setattr__"))
  hd : hasDictIn B.K B.C = true
  po : plainOver B.K B.C = true
  f1 : findIn B.K (.ref B.C) "rows" = some none
  f2 : findIn B.K (.ref B.C) "at" = some none
  f3 : findIn B.K (.ref B.C) "deep" = some none
  t2 : takerIn B.K B.C "at" = some none
  t3 : takerIn B.K B.C "deep" = some none

section
variable {B : Bs} {fr : Frm} {n : Nat} {s : Shared} {m : Str → Option Value} {ω : Wd} {i d : Nat}
theorem W_inst {h : Heap} (W : WordsAt ω h i d) : ∃ ti td, InstAt h ω.W ω.ox ω.C (some (ω.dict i ti d td)) ∧ h.get? ω.D = some (ω.dict i ti d td) := by
  obtain ⟨ti, td, hD⟩ := W.dict
  exact ⟨ti, td, ⟨W.inst, rfl, rfl, hD⟩, hD⟩

theorem rd_rows {Q : Value → Shared → Prop} {E : Value → Shared → Prop} {x : Str} {xp pos : Pos} (CK : ClsK B) (O : FrB B fr n) {hp : Heap} (F : Fr fr.g fr.L hp m) (hC : ω.C = B.C) (W : WordsAt ω hp i d) (hl : find x fr.scope.names = some .local) (hm : m x = some (.ref ω.W))
    (h : Q (.ref ω.R) { s with toks := s.toks + 1 }) (hs : s.heap = hp := by rfl) : wpAny (model B.prog B.w) fr.A (eval (.Attribute (.Name x xp) "rows" pos) fr.env) Q E s := by
  subst hs
  refine Attribute_name (nm O F hl hm ?_)
  obtain ⟨ti, td, I, _⟩ := W_inst W
  exact get_value (O.X.keeps F.keep) I (hC ▸ CK.ga) (findObj_own (hC ▸ CK.hd) (hC ▸ CK.f1) rfl rfl) rfl h
theorem rd_at {Q : Value → Shared → Prop} {E : Value → Shared → Prop} {x : Str} {xp pos : Pos} (CK : ClsK B) (O : FrB B fr n) {hp : Heap} (F : Fr fr.g fr.L hp m) (hC : ω.C = B.C) (W : WordsAt ω hp i d) (hl : find x fr.scope.names = some .local) (hm : m x = some (.ref ω.W))
    (h : ∀ t, Q (.int i t) { s with toks := s.toks + 1 }) (hs : s.heap = hp := by rfl) : wpAny (model B.prog B.w) fr.A (eval (.Attribute (.Name x xp) "at" pos) fr.env) Q E s := by
  subst hs
  refine Attribute_name (nm O F hl hm ?_)
  obtain ⟨ti, td, I, _⟩ := W_inst W
  exact get_value (O.X.keeps F.keep) I (hC ▸ CK.ga) (findObj_own (hC ▸ CK.hd) (hC ▸ CK.f2) rfl rfl) rfl (h ti)
theorem rd_deep {Q : Value → Shared → Prop} {E : Value → Shared → Prop} {x : Str} {xp pos : Pos} (CK : ClsK B) (O : FrB B fr n) {hp : Heap} (F : Fr fr.g fr.L hp m) (hC : ω.C = B.C) (W : WordsAt ω hp i d) (hl : find x fr.scope.names = some .local) (hm : m x = some (.ref ω.W))
    (h : ∀ t, Q (.int d t) { s with toks := s.toks + 1 }) (hs : s.heap = hp := by rfl) : wpAny (model B.prog B.w) fr.A (eval (.Attribute (.Name x xp) "deep" pos) fr.env) Q E s := by
  subst hs
  refine Attribute_name (nm O F hl hm ?_)
  obtain ⟨ti, td, I, _⟩ := W_inst W
  exact get_value (O.X.keeps F.keep) I (hC ▸ CK.ga) (findObj_own (hC ▸ CK.hd) (hC ▸ CK.f3) rfl rfl) rfl (h td)

/-- all that stood stands, but for the words' own dict -/
noncomputable def KeepsBut (D : Addr) (h h' : Heap) : Prop := ∀ b o, h.get? b = some o → b ≠ D → h'.get? b = some o
theorem WordsAt.moved {h h' : Heap} (W : WordsAt ω h i d) (k : KeepsBut ω.D h h') (hR : ω.R ≠ ω.D) {i' d' : Nat} {ti td : PySem.Tok} (hD : h'.get? ω.D = some (ω.dict i' ti d' td)) (hi : i' < ω.toks.length) : WordsAt ω h' i' d' := by
  obtain ⟨ti0, td0, hD0⟩ := W.dict
  have ne : ∀ b o', h.get? b = some o' → o'.cls ≠ .type "dict" → b ≠ ω.D := by
    rintro b o' q hne rfl
    exact hne (Option.some.inj (q.symm.trans hD0) ▸ rfl)
  refine ⟨k _ _ W.inst (ne _ _ W.inst fun z => nomatch z), ⟨ti, td, hD⟩, ?_, W.len, ?_, hi, W.small⟩
  · obtain ⟨n, q⟩ := W.rows; exact ⟨n, k _ _ q hR⟩
  · intro j t a h1 h2
    obtain ⟨k1, k2, k3, n, q⟩ := W.tok j t a h1 h2
    exact ⟨k1, k2, k3, n, k _ _ q (ne _ _ q (show Value.type "tuple" ≠ Value.type "dict" by decide))⟩

theorem set_at {Q : Unit → Shared → Prop} {E : Value → Shared → Prop} {j : Nat} {t : PySem.Tok} (CK : ClsK B) (O : FrB B fr n) {hp : Heap} (F : Fr fr.g fr.L hp m) (hC : ω.C = B.C) (W : WordsAt ω hp i d) (g : fr.g.get? ω.D = none) (gL : ω.D ≠ fr.L)
    (h : ∀ h' td, Fr fr.g fr.L h' m → h'.get? ω.D = some (ω.dict j t d td) → Q () { s with heap := h', toks := s.toks + 2 }) (hs : s.heap = hp := by rfl) :
    wpAny (model B.prog B.w) fr.A (setAttr (.ref ω.W) "at" (.int j t)) Q E s := by
  subst hs
  obtain ⟨ti, td, I, hD⟩ := W_inst W
  have N : News fr.g fr.L s.heap [(ω.D, ω.dict i ti d td)] := by
    intro p hp
    simp only [List.mem_singleton] at hp
    subst hp
    exact ⟨hD, gL, g⟩
  refine set_dict (news' := [(ω.D, ω.dict j t d td)]) F O.X N I rfl (hC ▸ CK.sa) (hC ▸ CK.po) (hC ▸ CK.t2) (hC ▸ CK.hd) rfl rfl (.head (fun p hp => absurd hp List.not_mem_nil)) (show 3 ≤ 1000 by decide) fun h' F' N' => h h' td F' (N' (ω.D, ω.dict j t d td) (.head _)).1
theorem set_deep {Q : Unit → Shared → Prop} {E : Value → Shared → Prop} {j : Nat} {t : PySem.Tok} (CK : ClsK B) (O : FrB B fr n) {hp : Heap} (F : Fr fr.g fr.L hp m) (hC : ω.C = B.C) (W : WordsAt ω hp i d) (g : fr.g.get? ω.D = none) (gL : ω.D ≠ fr.L)
    (h : ∀ h' ti, Fr fr.g fr.L h' m → h'.get? ω.D = some (ω.dict i ti j t) → Q () { s with heap := h', toks := s.toks + 2 }) (hs : s.heap = hp := by rfl) :
    wpAny (model B.prog B.w) fr.A (setAttr (.ref ω.W) "deep" (.int j t)) Q E s := by
  subst hs
  obtain ⟨ti, td, I, hD⟩ := W_inst W
  have N : News fr.g fr.L s.heap [(ω.D, ω.dict i ti d td)] := by
    intro p hp
    simp only [List.mem_singleton] at hp
    subst hp
    exact ⟨hD, gL, g⟩
  refine set_dict (news' := [(ω.D, ω.dict i ti j t)]) F O.X N I rfl (hC ▸ CK.sa) (hC ▸ CK.po) (hC ▸ CK.t3) (hC ▸ CK.hd) rfl rfl (.head (fun p hp => absurd hp List.not_mem_nil)) (show 3 ≤ 1000 by decide) fun h' F' N' => h h' ti F' (N' (ω.D, ω.dict i ti j t) (.head _)).1

theorem aug_at {Q : Flow → Shared → Prop} {E : Value → Shared → Prop} {x : Str} {xp tp pos cp : Pos} {a : Nat} (CK : ClsK B) (O : FrB B fr n) {hp : Heap} (F : Fr fr.g fr.L hp m) (hC : ω.C = B.C) (W : WordsAt ω hp i d) (hl : find x fr.scope.names = some .local) (hm : m x = some (.ref ω.W))
    (g : fr.g.get? ω.D = none) (gL : ω.D ≠ fr.L) (h : ∀ h' tk t td, Fr fr.g fr.L h' m → h'.get? ω.D = some (ω.dict (i + 1) t d td) → Q .next { s with heap := h', toks := tk }) (hs : s.heap = hp := by rfl) :
    wpAny (model B.prog B.w) fr.A (exec (.AugAssign (.Attribute (.Name x xp) "at" tp) .Add (.Constant (.int 1) a cp) pos) fr.env) Q E s := by
  subst hs
  refine wpAny_AugAssign_AttributeAny (nm O F hl hm ?_)
  obtain ⟨ti, td, I, _⟩ := W_inst W
  refine get_value (O.X.keeps F.keep) I (hC ▸ CK.ga) (findObj_own (hC ▸ CK.hd) (hC ▸ CK.f2) rfl rfl) rfl ?_
  refine wpAny_Constant_int (PyProof.Rows.iadd_int ?_)
  exact set_at (s := { s with toks := s.toks + 1 + 1 + 1 }) (j := i + 1) CK O F hC W g gL fun h' td F' hD => h h' _ _ _ F' hD
theorem aug_deep {Q : Flow → Shared → Prop} {E : Value → Shared → Prop} {x : Str} {xp tp pos cp : Pos} {a : Nat} (CK : ClsK B) (O : FrB B fr n) {hp : Heap} (F : Fr fr.g fr.L hp m) (hC : ω.C = B.C) (W : WordsAt ω hp i d) (hl : find x fr.scope.names = some .local) (hm : m x = some (.ref ω.W))
    (g : fr.g.get? ω.D = none) (gL : ω.D ≠ fr.L) (h : ∀ h' tk ti t, Fr fr.g fr.L h' m → h'.get? ω.D = some (ω.dict i ti (d + 1) t) → Q .next { s with heap := h', toks := tk }) (hs : s.heap = hp := by rfl) :
    wpAny (model B.prog B.w) fr.A (exec (.AugAssign (.Attribute (.Name x xp) "deep" tp) .Add (.Constant (.int 1) a cp) pos) fr.env) Q E s := by
  subst hs
  refine wpAny_AugAssign_AttributeAny (nm O F hl hm ?_)
  obtain ⟨ti, td, I, _⟩ := W_inst W
  refine get_value (O.X.keeps F.keep) I (hC ▸ CK.ga) (findObj_own (hC ▸ CK.hd) (hC ▸ CK.f3) rfl rfl) rfl ?_
  refine wpAny_Constant_int (PyProof.Rows.iadd_int ?_)
  exact set_deep (s := { s with toks := s.toks + 1 + 1 + 1 }) (j := d + 1) CK O F hC W g gL fun h' td F' hD => h h' _ _ _ F' hD
theorem less_deep {Q : Flow → Shared → Prop} {E : Value → Shared → Prop} {x : Str} {xp tp pos cp : Pos} {a : Nat} (CK : ClsK B) (O : FrB B fr n) {hp : Heap} (F : Fr fr.g fr.L hp m) (hC : ω.C = B.C) (W : WordsAt ω hp i (d + 1)) (hl : find x fr.scope.names = some .local) (hm : m x = some (.ref ω.W))
    (g : fr.g.get? ω.D = none) (gL : ω.D ≠ fr.L) (h : ∀ h' tk ti t, Fr fr.g fr.L h' m → h'.get? ω.D = some (ω.dict i ti d t) → Q .next { s with heap := h', toks := tk }) (hs : s.heap = hp := by rfl) :
    wpAny (model B.prog B.w) fr.A (exec (.AugAssign (.Attribute (.Name x xp) "deep" tp) .Sub (.Constant (.int 1) a cp) pos) fr.env) Q E s := by
  subst hs
  refine wpAny_AugAssign_AttributeAny (nm O F hl hm ?_)
  obtain ⟨ti, td, I, _⟩ := W_inst W
  refine get_value (O.X.keeps F.keep) I (hC ▸ CK.ga) (findObj_own (hC ▸ CK.hd) (hC ▸ CK.f3) rfl rfl) rfl ?_
  refine wpAny_Constant_int (PyProof.Rows.isub_int ?_)
  have e : ((d + 1 : Nat) : Int) - 1 = (d : Nat) := by omega
  rw [e]
  exact set_deep (s := { s with toks := s.toks + 1 + 1 + 1 }) (j := d) CK O F hC W g gL fun h' td F' hD => h h' _ _ _ F' hD
end
end Mine

namespace Mine
noncomputable section
/-! A shape is a text whose positions stand open; they are read off the text itself. -/
inductive WV where
  | p (p : Pos)
  | n (n : Nat)
  | x (x : Str)
noncomputable abbrev Ws := List WV
noncomputable def wp (w : Ws) (i : Nat) : Pos := match w[i]? with
  | some (.p p) => p
  | _ => default
noncomputable def wn (w : Ws) (i : Nat) : Nat := match w[i]? with
  | some (.n n) => n
  | _ => 0
noncomputable def wx (w : Ws) (i : Nat) : Str := match w[i]? with
  | some (.x x) => x
  | _ => Str.ofString ""
noncomputable def wC : Const → Ws
  | .str x => [.x x]
  | _ => []
noncomputable def wE : Nat → Expr → Ws
  | 0, _ => []
  | n + 1, e => match e with
    | .Name _ p => [.p p]
    | .Attribute v _ p => wE n v ++ [.p p]
    | .Constant c k p => .n k :: .p p :: wC c
    | .Call f as _ p => wE n f ++ as.flatMap (wE n) ++ [.p p]
    | .Subscript v i p => wE n v ++ wE n i ++ [.p p]
    | .BinOp l _ r p => wE n l ++ wE n r ++ [.p p]
    | .Compare l _ rs p => wE n l ++ rs.flatMap (wE n) ++ [.p p]
    | .BoolOp _ es p => es.flatMap (wE n) ++ [.p p]
    | .UnaryOp _ a p => wE n a ++ [.p p]
    | .IfExp t b o p => wE n t ++ wE n b ++ wE n o ++ [.p p]
    | .List es p => es.flatMap (wE n) ++ [.p p]
    | .Tuple es k p => es.flatMap (wE n) ++ [.n k, .p p]
    | .ListComp e [⟨t, i, _, _⟩] _ p => wE n e ++ wE n t ++ wE n i ++ [.p p]
    | _ => []
noncomputable def wS : Nat → Stmt → Ws
  | 0, _ => []
  | n + 1, s => match s with
    | .Assign ts e p => ts.flatMap (wE n) ++ wE n e ++ [.p p]
    | .AugAssign t _ e p => wE n t ++ wE n e ++ [.p p]
    | .Return (some e) p => wE n e ++ [.p p]
    | .If t b o p => wE n t ++ b.flatMap (wS n) ++ o.flatMap (wS n) ++ [.p p]
    | .For t i b _ p => wE n t ++ wE n i ++ b.flatMap (wS n) ++ [.p p]
    | .Expr e p => wE n e ++ [.p p]
    | .Raise (some e) _ p => wE n e ++ [.p p]
    | .Try b [.ExceptHandler (some t) _ c q] _ _ p => b.flatMap (wS n) ++ wE n t ++ c.flatMap (wS n) ++ [.p q, .p p]
    | _ => []

noncomputable def wB (b : List Stmt) : Ws := b.flatMap (wS 20)
end
end Mine

namespace Mine

noncomputable section
/-- a def's text and what its names are -/
noncomputable def sameNames : List Arg → List Str → Bool
  | [] => fun l => isNil l
  | a :: r => fun l => match l with
    | x :: l => eqS a.arg x && sameNames r l
    | [] => false
noncomputable def defOf (K : Frag) (f : Addr) (names : List Str) : Option (FuncData × List Stmt) := onO (fnAt K f) fun fd => onO (stmtsO fd.body) fun b => gd (fdOk K fd && (sameNames fd.params.args names && allLocal fd.scope names)) (some (fd, b))
noncomputable def isGl (fd : FuncData) (x : Str) : Bool := isGlobal ⟨fd.scope, 0⟩ x
noncomputable def isLc (fd : FuncData) (x : Str) : Bool := isLocal ⟨fd.scope, 0⟩ x
noncomputable def noDf (fd : FuncData) : Bool := match fd.defaults with
  | .none => true
  | _ => false
/-- one default, an int -/
noncomputable def dfI (K : Frag) (fd : FuncData) (n : Nat) : Bool := onS (dflts K fd.defaults) fun l => one l fun v => natS v fun k => Nat.beq k n
theorem isGl_is {fd : FuncData} {x : Str} : isGl fd x = true → find x fd.scope.names = some .globalImplicit := by
  show (match find x fd.scope.names with | some .globalImplicit => true | _ => false) = true → _
  rcases find x fd.scope.names with _ | k
  · exact fun h => ff h
  · cases k <;> first | exact fun _ => rfl | exact fun h => ff h
theorem isLc_is {fd : FuncData} {x : Str} : isLc fd x = true → find x fd.scope.names = some .local := by
  show (match find x fd.scope.names with | some .local => true | _ => false) = true → _
  rcases find x fd.scope.names with _ | k
  · exact fun h => ff h
  · cases k <;> first | exact fun _ => rfl | exact fun h => ff h
theorem sameNames_is {l : List Arg} : ∀ {names : List Str}, sameNames l names = true → l.map (·.arg) = names := by
  induction l with
  | nil => exact fun h => (nil_is h).symm
  | cons a r ih =>
    intro names h
    cases names with
    | nil => exact ff h
    | cons x l =>
      obtain ⟨h1, h2⟩ := and_b h
      rw [List.map_cons, eqS_iff.mp h1, ih h2]
theorem defOf_is {K : Frag} {f : Addr} {names : List Str} {fd : FuncData} {b : List Stmt} (h : defOf K f names = some (fd, b)) :
    fnAt K f = some fd ∧ fdOk K fd = true ∧ fd.body = .stmts b ∧ fd.params.args.map (·.arg) = names ∧ allLocal fd.scope names = true := by
  refine onO_el h fun fd' h1 h => onO_el h fun b' h2 h => gd_el h fun h3 h => ?_
  obtain ⟨e1, e2⟩ := Prod.mk.inj (Option.some.inj h)
  obtain ⟨h3, h4⟩ := and_b h3
  obtain ⟨h4, h5⟩ := and_b h4
  rw [← e1, ← e2]
  exact ⟨h1, h3, stmtsO_is h2, sameNames_is h4, h5⟩
theorem fdOk_params {K : Frag} {fd : FuncData} (h : fdOk K fd = true) : plainParams fd.params = true := (fdOk_is h).par
theorem noDf_is {fd : FuncData} : noDf fd = true → fd.defaults = .none := by
  unfold noDf
  cases fd.defaults <;> first | exact fun _ => rfl | exact fun h => ff h

/-- the def's text is of this shape -/
noncomputable def Txt (K : Frag) (f : Addr) (names : List Str) (T : Ws → List Stmt) (S : FuncData → Ws → Bool) : Prop := ∃ fd w, defOf K f names = some (fd, T w) ∧ S fd w = true
noncomputable def TE (K : Frag) (f : Addr) (names : List Str) (T : Ws → List Stmt) : Prop := (defOf K f names).map (fun r => (r.1, T (wB r.2))) = defOf K f names
noncomputable def TB (K : Frag) (f : Addr) (names : List Str) (S : FuncData → Ws → Bool) : Bool := (defOf K f names).elim false fun r => S r.1 (wB r.2)
theorem txt_of {K : Frag} {f : Addr} {names : List Str} {T : Ws → List Stmt} {S : FuncData → Ws → Bool} (h1 : TE K f names T) (h2 : TB K f names S = true) : Txt K f names T S := by
  unfold Txt
  unfold TE at h1
  unfold TB at h2
  revert h1 h2
  cases defOf K f names with
  | none => intro _ h2; exact Bool.noConfusion h2
  | some r => intro h1 h2; exact ⟨r.1, wB r.2, h1.symm, h2⟩
noncomputable def noneK (K : Frag) (x : Str) : Bool := match nsIn K mainGlobals x with
  | some none => true
  | _ => false
theorem noneK_is {K : Frag} {x : Str} : noneK K x = true → nsIn K mainGlobals x = some none := by
  unfold noneK
  rcases nsIn K mainGlobals x with _ | _ | v
  · exact fun h => ff h
  · exact fun _ => rfl
  · exact fun h => ff h
/-- two places of the text are on one line -/
noncomputable def oneLine (w : Ws) (i j : Nat) : Bool := Nat.beq (wp w i).endLine (wp w j).line
theorem oneLine_is {w : Ws} {i j : Nat} (h : oneLine w i j = true) : (wp w i).endLine = (wp w j).line := Nat.eq_of_beq_eq_true h

section
variable {s : Shared} {fd : FuncData} {K : Frag} {x y : Str} {u v : Value}
theorem bind1 (ho : fdOk K fd = true) (ha : fd.params.args.map (·.arg) = [x]) (hd : fd.defaults = .none) : BindsTo s fd ⟨[v], []⟩ [(x, v)] := by
  obtain ⟨kwd, hp⟩ := params_of (fdOk_params ho)
  exact bN hp ha hd rfl (List.nodup_cons.mpr ⟨List.not_mem_nil, .nil⟩)
theorem bind2 (ho : fdOk K fd = true) (ha : fd.params.args.map (·.arg) = [x, y]) (hd : fd.defaults = .none) (hxy : x ≠ y) : BindsTo s fd ⟨[v, u], []⟩ [(x, v), (y, u)] := by
  obtain ⟨kwd, hp⟩ := params_of (fdOk_params ho)
  exact bN hp ha hd rfl (List.nodup_cons.mpr ⟨fun q => hxy (List.mem_singleton.mp q), List.nodup_cons.mpr ⟨List.not_mem_nil, .nil⟩⟩)
theorem dfI_is {k : Nat} (X : K.In s.heap) (hd : dfI K fd k = true) : ∃ T ep t, fd.defaults = .ref T ∧ s.heap.get? T = some (tupObj [.int k t] ep) := by
  refine onS_el hd fun l hk hd => ?_
  obtain ⟨v, rfl, hd⟩ := one_is hd
  obtain ⟨k', rfl, hd⟩ := natS_is hd
  rw [Nat.eq_of_beq_eq_true hd] at hk
  rcases dflts_are (ρ := ⟨none, none, [], [], 0, 0, false, 0, 0, s, []⟩) (ads := []) X hk with ⟨_, q⟩ | ⟨T, items, ep, hv, hT, r, _⟩
  · exact lc q
  · obtain ⟨v, rfl, r1⟩ := r.one_inv
    obtain ⟨t, rfl⟩ := r1.int_inv
    exact ⟨T, ep, t, hv, hT⟩
theorem bind21 {k : Nat} (X : K.In s.heap) (ho : fdOk K fd = true) (ha : fd.params.args.map (·.arg) = [x, y]) (hd : dfI K fd k = true) (hxy : x ≠ y) : ∃ t, BindsTo s fd ⟨[v], []⟩ [(x, v), (y, .int k t)] := by
  obtain ⟨kwd, hp⟩ := params_of (fdOk_params ho)
  obtain ⟨T, ep, t, hv, hT⟩ := dfI_is X hd
  obtain ⟨pa, pb, ea, rfl, rfl⟩ := map_two ha
  rw [ea] at hp
  exact ⟨t, b21 hp hv hT rfl hxy⟩
theorem bind22 {k : Nat} (X : K.In s.heap) (ho : fdOk K fd = true) (ha : fd.params.args.map (·.arg) = [x, y]) (hd : dfI K fd k = true) (hxy : x ≠ y) : BindsTo s fd ⟨[v, u], []⟩ [(x, v), (y, u)] := by
  obtain ⟨kwd, hp⟩ := params_of (fdOk_params ho)
  obtain ⟨T, ep, t, hv, hT⟩ := dfI_is X hd
  obtain ⟨pa, pb, ea, rfl, rfl⟩ := map_two ha
  rw [ea] at hp
  exact b22 hp hv hT rfl hxy
/-- three parameters, the last with a default -/
theorem map_three {as : List Arg} {x y z : Str} (h : as.map (·.arg) = [x, y, z]) : ∃ a1 p1 a2 p2 a3 p3, as = [⟨x, a1, p1⟩, ⟨y, a2, p2⟩, ⟨z, a3, p3⟩] := by
  rcases as with _ | ⟨a, as⟩
  · exact ln h
  obtain ⟨e, h2⟩ := List.cons.inj h
  obtain ⟨pa, pb, rfl, rfl, rfl⟩ := map_two h2
  rw [← e]
  obtain ⟨_, a1, p1⟩ := a
  obtain ⟨_, a2, p2⟩ := pa
  obtain ⟨_, a3, p3⟩ := pb
  exact ⟨a1, p1, a2, p2, a3, p3, rfl⟩
theorem bindD {args : Args} {z : Str} {k : Nat} {m : PySem.Tok → List (Str × Value)} (X : K.In s.heap) (ho : fdOk K fd = true) (ha : fd.params.args.map (·.arg) = [x, y, z]) (hd : dfI K fd k = true)
    (h : ∀ a1 p1 a2 p2 a3 p3 kwd dfl t ep T, s.heap.get? T = some (tupObj [.int k t] ep) → BindsTo s { fd with params := ⟨[], [⟨x, a1, p1⟩, ⟨y, a2, p2⟩, ⟨z, a3, p3⟩], none, [], kwd, none, dfl⟩, defaults := .ref T } args (m t)) : ∃ t, BindsTo s fd args (m t) := by
  obtain ⟨kwd, hp⟩ := params_of (fdOk_params ho)
  obtain ⟨T, ep, t, hv, hT⟩ := dfI_is X hd
  obtain ⟨a1, p1, a2, p2, a3, p3, ea⟩ := map_three ha
  rw [ea] at hp
  have := h a1 p1 a2 p2 a3 p3 kwd fd.params.defaults t ep T hT
  rw [← hp, ← hv] at this
  exact ⟨t, this⟩
end
end
end Mine

namespace Mine
noncomputable section
noncomputable def peekT (w : Ws) : List Stmt := [.Return (some (.Subscript (.Attribute (.Name "self" (wp w 0)) "rows" (wp w 1)) (.Call (.Name "min" (wp w 2)) [.BinOp (.Attribute (.Name "self" (wp w 3)) "at" (wp w 4)) .Add (.Name "ahead" (wp w 5)) (wp w 6), .BinOp (.Call (.Name "len" (wp w 7)) [.Attribute (.Name "self" (wp w 8)) "rows" (wp w 9)] [] (wp w 10)) .Sub (.Constant (.int (1 : Nat)) (wn w 11) (wp w 12)) (wp w 13)] [] (wp w 14)) (wp w 15))) (wp w 16)]
noncomputable def peekS (K : Frag) (fd : FuncData) (_ : Ws) : Bool := dfI K fd 0 && (isGl fd "min" && (isGl fd "len" && (noneK K "min" && (noneK K "len" && (isLc fd "self" && isLc fd "ahead")))))
noncomputable def okPeek (K : Frag) (f : Addr) : Prop := Txt K f ["self", "ahead"] peekT (peekS K)

theorem min_two' {prog : Program} {w : World} {A : Around} {E : Value → Shared → Prop} {s : Shared} {a b : Int} {t u : PySem.Tok} {j : Nat} {Q : Value → Shared → Prop} (hh : A.handled = none) (hj : (j : Int) = min a b)
    (h : ∀ h' tk v, Kept s.heap h' → Q (.int j v) { s with heap := h', toks := tk }) : wpAny (model prog w) A (call (.builtin "min") [.int a t, .int b u]) Q E s := by
  refine min_two_ints hh fun h' tk hk => ?_
  by_cases hc : b < a
  · rw [if_pos hc, show b = j by omega]; exact h h' tk _ hk
  · rw [if_neg hc, show a = j by omega]; exact h h' tk _ hk
section
variable {B : Bs} {fr : Frm} {n : Nat} {s : Shared} {m : Str → Option Value} {ω : Wd} {i d : Nat}

theorem c_peek (CK : ClsK B) {f : Addr} (hf : okPeek B.K f) (O : FrB B fr (n + 1)) (F : Fr fr.g fr.L s.heap m) (hC : ω.C = B.C) (W : WordsAt ω s.heap i d) {vs : List Value} {k : Int} {j : Nat} {a : Addr}
    (hv : (vs = [.ref ω.W] ∧ k = 0) ∨ ∃ t, vs = [.ref ω.W, .int k t]) (h0 : 0 ≤ (i : Int) + k) (h1 : k ≤ 1000000) (hj : (j : Int) = min ((i : Int) + k) (ω.toks.length - 1)) (ha : ω.tvs[j]? = some a) :
    wpAny (model B.prog B.w) fr.A (call (.ref f) vs) (fun v s' => v = .ref a ∧ Kept s.heap s'.heap ∧ OutAs s s') (fun _ _ => False) s := by
  obtain ⟨fd, w, hdef, hS⟩ := hf
  obtain ⟨hdf, hS⟩ := and_b hS
  obtain ⟨hg1, hS⟩ := and_b hS
  obtain ⟨hg2, hS⟩ := and_b hS
  obtain ⟨hn1, hS⟩ := and_b hS
  obtain ⟨hn2, hS⟩ := and_b hS
  obtain ⟨hl1, hl2⟩ := and_b hS
  obtain ⟨q1, q2, q3, q4, q5⟩ := defOf_is hdef
  have X := O.X.keeps F.keep
  have hb : ∃ t, BindsTo s fd ⟨vs, []⟩ [("self", .ref ω.W), ("ahead", .int k t)] := by
    rcases hv with ⟨rfl, rfl⟩ | ⟨t, rfl⟩
    · exact bind21 X q2 q4 hdf (by decide)
    · exact ⟨t, bind22 X q2 q4 hdf (by decide)⟩
  obtain ⟨t, hb⟩ := hb
  refine wpAny_abs fun Q hQ => enterQ O F [] (by intro a h; (first | exact ff h | exact nn h | exact ns h | exact tf h | exact ln h | exact lc h | cases h)) q1 q2 q3 hb (show (["self", "ahead"] : List Str).Nodup by decide) q5 fun L s₁ _ hk ho O' F' => ?_
  clear hb q1 q2 q3 q4 q5 hdef hdf hv X
  have W₁ := W.ext hk
  refine wpAny_execs_cons (wpAny_Return_some ?_)
  refine Subscript_ (rd_rows CK O' F' hC W₁ (isLc_is hl1) rfl ?_)
  refine Call_ (bnm O' F' (isGl_is hg1) (noneK_is hn1) PyProof.Rows.Boot.«min» (by decide +kernel) ?_)
  refine callWith_builtin rfl (evalArgs_plain (spliced_cons ?_))
  refine wpAny_BinOp (rd_at CK O' F' hC W₁ (isLc_is hl1) rfl fun t1 => nm O' F' (isLc_is hl2) rfl ?_)
  refine PyProof.Rows.add_int (spliced_cons (wpAny_BinOp ?_))
  refine Call_ (bnm O' F' (isGl_is hg2) (noneK_is hn2) PyProof.Rows.Boot.«len» (by decide +kernel) ?_)
  refine callWith_builtin rfl (evalArgs_plain (spliced_cons (rd_rows CK O' F' hC W₁ (isLc_is hl1) rfl (spliced_nil ?_))))
  obtain ⟨rn, hR⟩ := W₁.rows
  have hsz : (ω.tvs.map Value.ref).toArray.size = ω.toks.length := by simp [W₁.len]
  refine PyProof.Rows.len_list (items := (ω.tvs.map Value.ref).toArray) ⟨_, hR, rfl, rn, rfl⟩ (by rw [hsz]; have := W.small.1; omega) ?_
  refine wpAny_Constant_int (PyProof.Rows.sub_int (spliced_nil ?_))
  have hlt := W.lt
  have hjl : j < ω.toks.length := by omega
  refine min_two' (j := j) O'.hh (by rw [hsz]; exact hj) fun h₂ tk u hk₂ => ?_
  have hil : h₂.IsList ω.R (ω.tvs.map Value.ref).toArray := ⟨_, hk₂ _ _ hR, rfl, rn, rfl⟩
  refine tail_any hil.typeIs PySem.slot_list_getitem.lookup (wpAny_getItem_list (k := (j : Int)) (x := .ref a) hil (by omega) (by have := W.small.1; omega) (by simp [ha]) ?_) rfl
  exact hQ _ _ ⟨rfl, fun b o e => hk₂ b o (hk b o e), ⟨ho.1, ho.2.1, ho.2.2⟩⟩
end
end
end Mine

namespace Mine

noncomputable section
structure Mt (B : Bs) (x : Str) (f : Addr) : Prop where
  find : findIn B.K (.ref B.C) x = some (some (.ref f))
  type : typeIn B.K (.ref f) = some (.type "function")
  keep : keepIn B.K (.ref f) = true
noncomputable def NoShadow (x : Str) : Prop := ∀ (ω : Wd) (i : Nat) ti (d : Nat) td, shadowIn (some (ω.dict i ti d td)) x = some false

theorem OutAs.refl (s : Shared) : OutAs s s := ⟨rfl, rfl, rfl⟩
theorem OutAs.trans {a b c : Shared} (x : OutAs a b) (y : OutAs b c) : OutAs a c := ⟨y.1.trans x.1, y.2.1.trans x.2.1, y.2.2.trans x.2.2⟩

section
variable {B : Bs} {fr : Frm} {n : Nat} {s : Shared} {m : Str → Option Value} {ω : Wd} {i d : Nat} {hp : Heap}

theorem self_in {Q : Value → Shared → Prop} {E : Value → Shared → Prop} {x mn : Str} {f : Addr} {p ap pos : Pos} {as : List Expr} (CK : ClsK B) (M : Mt B mn f) (hsh : NoShadow mn) (O : FrB B fr n) (F : Fr fr.g fr.L hp m) (hC : ω.C = B.C) (W : WordsAt ω hp i d)
    (hl : find x fr.scope.names = some .local) (hm : m x = some (.ref ω.W)) (hns : noStar as = true) (hlen : as.length ≤ 20) (hpos : ap.endLine = pos.line)
    (h : wpAny (model B.prog B.w) fr.A (callWith pos (.ref f) [.ref ω.W] (backTo pos (starEach as fr.env)) []) Q E s) (hs : s.heap = hp := by rfl) :
    wpAny (model B.prog B.w) fr.A (eval (.Call (.Attribute (.Name x p) mn ap) as [] pos) fr.env) Q E s := by
  subst hs
  refine meth_rule hns hlen hpos (nm O F hl hm ?_)
  obtain ⟨ti, td, I, _⟩ := W_inst W
  exact method_fn (O.X.keeps F.keep) I (hC ▸ CK.ga) (hC ▸ CK.gb) (hC ▸ M.find) M.type (hsh _ _ _ _ _) h
theorem self0 {Q : Value → Shared → Prop} {E : Value → Shared → Prop} {x mn : Str} {f : Addr} {p ap pos : Pos} (CK : ClsK B) (M : Mt B mn f) (hsh : NoShadow mn) (O : FrB B fr n) (F : Fr fr.g fr.L hp m) (hC : ω.C = B.C) (W : WordsAt ω hp i d)
    (hl : find x fr.scope.names = some .local) (hm : m x = some (.ref ω.W)) (hpos : ap.endLine = pos.line)
    (h : wpAny (model B.prog B.w) fr.A (call (.ref f) [.ref ω.W]) Q E s) (hs : s.heap = hp := by rfl) :
    wpAny (model B.prog B.w) fr.A (eval (.Call (.Attribute (.Name x p) mn ap) [] [] pos) fr.env) Q E s := by
  subst hs
  exact self_in CK M hsh O F hC W hl hm rfl (Nat.zero_le _) hpos (callWith_K0 (O.X.keeps F.keep) M.keep h)
theorem self1 {Q : Value → Shared → Prop} {E : Value → Shared → Prop} {x mn : Str} {f : Addr} {p ap pos : Pos} {e : Expr} (CK : ClsK B) (M : Mt B mn f) (hsh : NoShadow mn) (O : FrB B fr n) (F : Fr fr.g fr.L hp m) (hC : ω.C = B.C) (W : WordsAt ω hp i d)
    (hl : find x fr.scope.names = some .local) (hm : m x = some (.ref ω.W)) (hns : isStar e = false) (hpos : ap.endLine = pos.line)
    (h : wpAny (model B.prog B.w) fr.A (eval e fr.env) (fun v s₁ => B.K.In s₁.heap ∧ wpAny (model B.prog B.w) fr.A (call (.ref f) [.ref ω.W, v]) Q E s₁) E s) (hs : s.heap = hp := by rfl) :
    wpAny (model B.prog B.w) fr.A (eval (.Call (.Attribute (.Name x p) mn ap) [e] [] pos) fr.env) Q E s := by
  subst hs
  have hn : noStar [e] = true := by show (match isStar e with | true => false | false => noStar []) = true; rw [hns]; rfl
  obtain ⟨he, hr⟩ := star_cons (env := fr.env) hn
  refine self_in CK M hsh O F hC W hl hm hn (show 1 ≤ 20 by decide) hpos (callWith_K O.X M.keep ?_ he (plain_args hr))
  rw [he]
  exact spliced_cons (wpAny_mono h (fun v s₁ q => spliced_nil q) fun _ _ q => q)

theorem W_now {h : Heap} {L : Addr} {i' d' : Nat} {ti td : PySem.Tok} (W : WordsAt ω s.heap i d) (hR : ω.R ≠ ω.D) (F : Fr (hideAll s.heap [ω.D]) L h m) (hD : h.get? ω.D = some (ω.dict i' ti d' td)) (hi : i' < ω.toks.length) : WordsAt ω h i' d' :=
  W.moved (fun b o e ne => F.keep b o (hideAll_get _ e (by simpa using ne))) hR hD hi
theorem K_now {h : Heap} {L : Addr} (F : Fr (hideAll s.heap [ω.D]) L h m) : KeepsBut ω.D s.heap h := fun b o e ne => F.keep b o (hideAll_get _ e (by simpa using ne))

theorem item_at {Q : Value → Shared → Prop} {E : Value → Shared → Prop} {x : Str} {p b q : Pos} {c : Nat} {a : Addr} {vs : List Value} {ep j : Nat} {v : Value} (O : FrB B fr n) (F : Fr fr.g fr.L hp m) (hl : find x fr.scope.names = some .local) (hm : m x = some (.ref a))
    (ht : hp.get? a = some (tupObj vs ep)) (hv : vs[j]? = some v) (hj : j < 100) (h : ∀ tk, Q v { s with toks := tk }) (hs : s.heap = hp := by rfl) :
    wpAny (model B.prog B.w) fr.A (eval (.Subscript (.Name x p) (.Constant (.int j) c b) q) fr.env) Q E s := by
  subst hs
  refine Subscript_ (nm O F hl hm (wpAny_Constant_int ?_))
  have hj' := (List.getElem?_eq_some_iff.mp hv).1
  exact item_tupleT (l := vs) (k := (j : Int)) (x := v) ⟨_, ht, rfl, ep, rfl⟩ (by omega) (by omega) (seqIndex_nat hj') hv (h _) rfl
end
end
end Mine

namespace Mine
noncomputable section
noncomputable def takeT (w : Ws) : List Stmt := [.Assign [.Name "word" (wp w 0)] (.Call (.Attribute (.Name "self" (wp w 1)) "peek" (wp w 2)) [] [] (wp w 3)) (wp w 4), .If (.Compare (.Subscript (.Name "word" (wp w 5)) (.Constant (.int (0 : Nat)) (wn w 6) (wp w 7)) (wp w 8)) [.NotEq] [.Constant (.str "end") (wn w 9) (wp w 10)] (wp w 12)) [.AugAssign (.Attribute (.Name "self" (wp w 13)) "at" (wp w 14)) .Add (.Constant (.int (1 : Nat)) (wn w 15) (wp w 16)) (wp w 17)] [] (wp w 18), .Return (some (.Name "word" (wp w 19))) (wp w 20)]
noncomputable def takeS (fd : FuncData) (w : Ws) : Bool := noDf fd && (isLc fd "self" && (isLc fd "word" && oneLine w 2 3))
noncomputable def okTake (K : Frag) (f : Addr) : Prop := Txt K f ["self"] takeT takeS
noncomputable def shalT (w : Ws) : List Stmt := [.AugAssign (.Attribute (.Name "self" (wp w 0)) "deep" (wp w 1)) .Sub (.Constant (.int (1 : Nat)) (wn w 2) (wp w 3)) (wp w 4)]
noncomputable def shalS (fd : FuncData) (_ : Ws) : Bool := noDf fd && isLc fd "self"
noncomputable def okShallower (K : Frag) (f : Addr) : Prop := Txt K f ["self"] shalT shalS

section
variable {B : Bs} {fr : Frm} {n : Nat} {s : Shared} {m : Str → Option Value} {ω : Wd} {i d : Nat} {hp : Heap}

theorem tok_obj (W : WordsAt ω hp i d) {j : Nat} {k x : Str} (h : ω.toks[j]? = some (k, x)) : ∃ a k1 k2 k3 n, ω.tvs[j]? = some a ∧ hp.get? a = some (tupObj [.str k k1, .str x k2, .int j k3, .none, .none] n) := by
  have hj := (List.getElem?_eq_some_iff.mp h).1
  have hj' : j < ω.tvs.length := by rw [W.len]; exact hj
  obtain ⟨k1, k2, k3, n, e⟩ := W.tok j (k, x) ω.tvs[j] h (by simp [hj'])
  exact ⟨ω.tvs[j], k1, k2, k3, n, by simp [hj'], e⟩

theorem tup_notD {h : Heap} {a : Addr} {vs : List Value} {ep i d : Nat} {ti td : PySem.Tok} (h1 : h.get? a = some (tupObj vs ep)) (h2 : h.get? ω.D = some (ω.dict i ti d td)) : a ≠ ω.D := by
  rintro rfl
  have := congrArg (Option.map Obj.cls) (h1.symm.trans h2)
  have : Value.type "tuple" = Value.type "dict" := Option.some.inj this
  injection this with z
  revert z
  decide
theorem not_last (W : WordsAt ω hp i d) {j : Nat} {k x : Str} (h : ω.toks[j]? = some (k, x)) (hk : k ≠ Str.ofString "end") : j + 1 < ω.toks.length := by
  obtain ⟨pre, y, e⟩ := W.small.2
  have hj := (List.getElem?_eq_some_iff.mp h).1
  rw [e] at h hj ⊢
  simp only [List.length_append, List.length_cons, List.length_nil] at hj ⊢
  by_cases q : j = pre.length
  · subst q
    simp at h
    exact (hk h.1.symm).elim
  · omega

/-- word = self.peek() -/
theorem x_word {E : Value → Shared → Prop} {Q : Flow → Shared → Prop} {f a : Addr} {p q r ap pos : Pos} {rest : List Stmt} (CK : ClsK B) (hpk : okPeek B.K f) (M : Mt B "peek" f) (hpos : ap.endLine = pos.line) (O : FrB B fr (n + 1)) (F : Fr fr.g fr.L hp m) (hC : ω.C = B.C)
    (W : WordsAt ω hp i d) (hl : find "self" fr.scope.names = some .local) (hm : m "self" = some (.ref ω.W)) (hl2 : find "word" fr.scope.names = some .local) (hDL : ω.D ≠ fr.L) (ha : ω.tvs[i]? = some a)
    (h : ∀ s', Fr fr.g fr.L s'.heap (fun z => if z = "word" then some (.ref a) else m z) → (∀ o, hp.get? ω.D = some o → s'.heap.get? ω.D = some o) → OutAs s s' → wpAny (model B.prog B.w) fr.A (execs rest fr.env) Q E s') (hs : s.heap = hp := by rfl) :
    wpAny (model B.prog B.w) fr.A (execs (.Assign [.Name "word" p] (.Call (.Attribute (.Name "self" r) "peek" ap) [] [] pos) q :: rest) fr.env) Q E s := by
  subst hs
  refine wpAny_execs_cons (wpAny_Assign_Name (self0 CK M (fun _ _ _ _ _ => rfl) O F hC W hl hm hpos ?_))
  refine wpAny_mono (c_peek CK hpk O F hC W (k := 0) (j := i) (.inl ⟨rfl, rfl⟩) (by omega) (by omega) (by have := W.lt; omega) ha) (fun v s₂ h₂ => ?_) fun _ _ e => e.elim
  obtain ⟨rfl, hk, ho⟩ := h₂
  refine stN' O (frExt F hk) hl2 fun h' tk F' hsb => ?_
  refine h _ F' (fun o e => ?_) (ho.trans ⟨rfl, rfl, rfl⟩)
  exact (hsb.2 ω.D hDL).trans (hk _ _ e)

theorem c_take (CK : ClsK B) {f g : Addr} (hf : okTake B.K f) (hpk : okPeek B.K g) (M : Mt B "peek" g) (O : FrB B fr (n + 2)) (F : Fr fr.g fr.L s.heap m) (hD0 : fr.g.get? ω.D = none) (hDL0 : ω.D ≠ fr.L) (hC : ω.C = B.C) (hR : ω.R ≠ ω.D) (W : WordsAt ω s.heap i d)
    {k x : Str} (ht : ω.toks[i]? = some (k, x)) (hk : k ≠ Str.ofString "end") :
    wpAny (model B.prog B.w) fr.A (call (.ref f) [.ref ω.W]) (fun v s' => (∃ a, ω.tvs[i]? = some a ∧ v = .ref a) ∧ KeepsBut ω.D s.heap s'.heap ∧ WordsAt ω s'.heap (i + 1) d ∧ OutAs s s') (fun _ _ => False) s := by
  obtain ⟨fd, w, hdef, hS⟩ := hf
  obtain ⟨hnd, hS⟩ := and_b hS
  obtain ⟨hl1, hS⟩ := and_b hS
  obtain ⟨hl2, hpos⟩ := and_b hS
  obtain ⟨q1, q2, q3, q4, q5⟩ := defOf_is hdef
  obtain ⟨a, k1, k2, k3, nn, ha, hta⟩ := tok_obj W ht
  obtain ⟨ti, td, hD⟩ := W.dict
  refine wpAny_abs fun Q hQ => enterQ O F [ω.D] (by intro a h; simp only [List.mem_singleton] at h; subst h; exact ⟨hD0, hDL0⟩) q1 q2 q3 (bind1 q2 q4 (noDf_is hnd)) (show (["self"] : List Str).Nodup by decide) q5 fun L s₁ hL hkk ho O' F' => ?_
  have hDL : ω.D ≠ L := by rintro rfl; cases hD.symm.trans hL
  have gD : (hideAll s.heap [ω.D]).get? ω.D = none := hideAll_none _ (.head _)
  have aD : a ≠ ω.D := tup_notD hta hD
  have gt : (hideAll s.heap [ω.D]).get? a = some _ := hideAll_get _ hta (by simpa using aD)
  refine x_word CK hpk M (oneLine_is hpos) O' F' hC (W.ext hkk) (isLc_is hl1) rfl (isLc_is hl2) hDL ha fun s₂ F₂ hD₂ ho₂ => ?_
  have hD₂ := hD₂ _ (hkk _ _ hD)
  clear q1 q2 q3 q4 q5 hdef hnd F'
  refine wpAny_execs_cons (wpAny_If (wpAny_isTrue_Compare1 (item_at (j := 0) O' F₂ (isLc_is hl2) rfl (F₂.keep _ _ gt) rfl (by decide) fun tk => wpAny_Constant_str (PyProof.Rows.ne_str (wpAny_truthy_bool ?_))) rfl))
  have : (k != Str.ofString "end") = true := by simpa using hk
  rw [this, if_pos rfl]
  refine wpAny_execs_cons (aug_at CK O' F₂ hC (W_now W hR F₂ hD₂ W.lt) (isLc_is hl1) rfl gD hDL fun h₃ tk₃ t₃ td₃ F₃ hD₃ => wpAny_execs_nil ?_)
  refine wpAny_execs_cons (wpAny_Return_some (nm O' F₃ (isLc_is hl2) rfl ?_))
  exact hQ _ _ ⟨⟨a, ha, rfl⟩, K_now F₃, W_now W hR F₃ hD₃ (not_last W ht hk), ho.trans (ho₂.trans ⟨rfl, rfl, rfl⟩)⟩

theorem c_shallower (CK : ClsK B) {f : Addr} (hf : okShallower B.K f) (O : FrB B fr (n + 1)) (F : Fr fr.g fr.L s.heap m) (hD0 : fr.g.get? ω.D = none) (hDL0 : ω.D ≠ fr.L) (hC : ω.C = B.C) (hR : ω.R ≠ ω.D) (W : WordsAt ω s.heap i (d + 1)) :
    wpAny (model B.prog B.w) fr.A (call (.ref f) [.ref ω.W]) (fun v s' => v = .none ∧ KeepsBut ω.D s.heap s'.heap ∧ WordsAt ω s'.heap i d ∧ OutAs s s') (fun _ _ => False) s := by
  obtain ⟨fd, w, hdef, hS⟩ := hf
  obtain ⟨hnd, hl1⟩ := and_b hS
  obtain ⟨q1, q2, q3, q4, q5⟩ := defOf_is hdef
  obtain ⟨ti, td, hD⟩ := W.dict
  refine wpAny_abs fun Q hQ => enterQ O F [ω.D] (by intro a h; simp only [List.mem_singleton] at h; subst h; exact ⟨hD0, hDL0⟩) q1 q2 q3 (bind1 q2 q4 (noDf_is hnd)) (show (["self"] : List Str).Nodup by decide) q5 fun L s₁ hL hkk ho O' F' => ?_
  have hDL : ω.D ≠ L := by rintro rfl; cases hD.symm.trans hL
  have gD : (hideAll s.heap [ω.D]).get? ω.D = none := hideAll_none _ (.head _)
  refine wpAny_execs_cons (less_deep CK O' F' hC (W.ext hkk) (isLc_is hl1) rfl gD hDL fun h₃ tk₃ t₃ td₃ F₃ hD₃ => wpAny_execs_nil ?_)
  exact hQ _ _ ⟨rfl, K_now F₃, W_now W hR F₃ hD₃ W.lt, ho.trans ⟨rfl, rfl, rfl⟩⟩
end
end
end Mine

namespace Mine
noncomputable section
noncomputable def kinds : List Str := [Str.ofString "sign", Str.ofString "name"]
noncomputable def looksT (w : Ws) : List Stmt := [.Assign [.Name "word" (wp w 0)] (.Call (.Attribute (.Name "self" (wp w 1)) "peek" (wp w 2)) [.Name "ahead" (wp w 3)] [] (wp w 4)) (wp w 5), .Return (some (.BoolOp .And [.Compare (.Subscript (.Name "word" (wp w 6)) (.Constant (.int (0 : Nat)) (wn w 7) (wp w 8)) (wp w 9)) [.In] [.Tuple [.Constant (.str "sign") (wn w 10) (wp w 11), .Constant (.str "name") (wn w 13) (wp w 14)] (wn w 16) (wp w 17)] (wp w 18), .Compare (.Subscript (.Name "word" (wp w 19)) (.Constant (.int (1 : Nat)) (wn w 20) (wp w 21)) (wp w 22)) [.Eq] [.Name "text" (wp w 23)] (wp w 24)] (wp w 25))) (wp w 26)]
noncomputable def looksS (K : Frag) (fd : FuncData) (w : Ws) : Bool := dfI K fd 0 && (isLc fd "self" && (isLc fd "word" && (isLc fd "text" && (isLc fd "ahead" && oneLine w 2 4))))
noncomputable def okLooks (K : Frag) (f : Addr) : Prop := Txt K f ["self", "text", "ahead"] looksT (looksS K)

section
variable {B : Bs} {fr : Frm} {n : Nat} {s : Shared} {m : Str → Option Value} {ω : Wd} {i d : Nat} {hp : Heap}

theorem c_looks (CK : ClsK B) {f g : Addr} (hf : okLooks B.K f) (hpk : okPeek B.K g) (M : Mt B "peek" g) (O : FrB B fr (n + 2)) (F : Fr fr.g fr.L s.heap m) (hC : ω.C = B.C) (W : WordsAt ω s.heap i d)
    {vs : List Value} {y : Str} {ty : PySem.Tok} {a : Nat} {k x : Str} (hv : (vs = [.ref ω.W, .str y ty] ∧ a = 0) ∨ ∃ t, vs = [.ref ω.W, .str y ty, .int a t]) (ha1 : a ≤ 1000000) (ht : ω.toks[i + a]? = some (k, x)) :
    wpAny (model B.prog B.w) fr.A (call (.ref f) vs) (fun v s' => v = .bool (inS k kinds && (x == y)) ∧ Kept s.heap s'.heap ∧ OutAs s s') (fun _ _ => False) s := by
  obtain ⟨fd, w, hdef, hS⟩ := hf
  obtain ⟨hdf, hS⟩ := and_b hS
  obtain ⟨hl1, hS⟩ := and_b hS
  obtain ⟨hl2, hS⟩ := and_b hS
  obtain ⟨hl3, hS⟩ := and_b hS
  obtain ⟨hl4, hpos⟩ := and_b hS
  obtain ⟨q1, q2, q3, q4, q5⟩ := defOf_is hdef
  obtain ⟨ad, k1, k2, k3, nn, ha, hta⟩ := tok_obj W ht
  have X := O.X.keeps F.keep
  have hb : ∃ t, BindsTo s fd ⟨vs, []⟩ [("self", .ref ω.W), ("text", .str y ty), ("ahead", .int a t)] := by
    rcases hv with ⟨rfl, rfl⟩ | ⟨t, rfl⟩
    · exact bindD X q2 q4 hdf fun _ _ _ _ _ _ _ _ _ _ _ ho => BindsTo.of_defaults rfl ho rfl rfl (by kernel_rfl)
    · obtain ⟨_, hb⟩ := bindD (args := ⟨[.ref ω.W, .str y ty, .int a t], []⟩) (m := fun _ => [("self", .ref ω.W), ("text", .str y ty), ("ahead", .int a t)]) X q2 q4 hdf fun _ _ _ _ _ _ _ _ _ _ _ ho => BindsTo.of_defaults rfl ho rfl rfl (by kernel_rfl)
      exact ⟨t, hb⟩
  obtain ⟨t, hb⟩ := hb
  refine wpAny_abs fun Q hQ => enterQ O F [] (by intro a h; (first | exact ff h | exact nn h | exact ns h | exact tf h | exact ln h | exact lc h | cases h)) q1 q2 q3 hb (show (["self", "text", "ahead"] : List Str).Nodup by decide) q5 fun L s₁ _ hk ho O' F' => ?_
  clear hb q1 q2 q3 q4 q5 hdef hdf hv X
  have W₁ := W.ext hk
  refine wpAny_execs_cons (wpAny_Assign_Name (self1 CK M (fun _ _ _ _ _ => rfl) O' F' hC W₁ (isLc_is hl1) rfl rfl (oneLine_is hpos) (nm O' F' (isLc_is hl4) rfl ⟨O'.X.keeps F'.keep, ?_⟩)))
  have hlen := (List.getElem?_eq_some_iff.mp ht).1
  refine wpAny_mono (c_peek CK hpk O' F' hC W₁ (k := a) (j := i + a) (.inr ⟨t, rfl⟩) (by omega) (by omega) (by omega) ha) (fun v s₂ h₂ => ?_) fun _ _ e => e.elim
  obtain ⟨rfl, hk₂, ho₂⟩ := h₂
  refine stN' O' (frExt F' hk₂) (isLc_is hl2) fun h₃ tk₃ F₃ _ => ?_
  have gt : (hideAll s.heap []).get? ad = some (tupObj [.str k k1, .str x k2, .int (i + a : Nat) k3, .none, .none] nn) := hta
  refine wpAny_execs_cons (wpAny_Return_some (PyProof.Rows.BoolOp_and (wpAny_Compare1 (item_at (j := 0) O' F₃ (isLc_is hl2) rfl (F₃.keep _ _ gt) rfl (by decide) fun tk => Tuple_ ?_) rfl)))
  refine spliced_more (wpAny_Constant_str (spliced_more (wpAny_Constant_str (spliced_none ?_))))
  refine wpAny_newObj_type (T := "tuple") (data := .seq #[.str (Str.ofString "sign") _, .str (Str.ofString "name") _]) (dict := none) ?_ (show 2 ≤ sizeLine by rw [sizeLine_eq]; decide)
  refine SeqRoads2.in_tuple (n := 0) (isStrOf k) (fun z hz => ?_) (Heap.get?_push_size _ rfl) (wpAny_truthy_bool ?_)
  · simp only [List.mem_toArray, List.mem_cons, List.not_mem_nil, or_false] at hz
    rcases hz with rfl | rfl <;> exact PyProof.Rows.eqGives_str _ _ _ _
  · have hany : (#[Value.str (Str.ofString "sign") tk, Value.str (Str.ofString "name") (tk + 1)] : Array Value).any (isStrOf k) = inS k kinds := any_str (l := kinds) rfl (by
      intro i v hv
      match i, hv with
      | 0, hv => (first | exact ff hv | exact nn hv | exact ns hv | exact tf hv | exact ln hv | exact lc hv | cases hv); exact ⟨_, _, rfl, rfl⟩
      | 1, hv => (first | exact ff hv | exact nn hv | exact ns hv | exact tf hv | exact ln hv | exact lc hv | cases hv); exact ⟨_, _, rfl, rfl⟩)
    rw [hany]
    cases hin : inS k kinds with
    | false => exact hQ _ _ ⟨by rw [hin]; rfl, fun b o e => Heap.get?_push_of_some _ (F₃.keep b o e), ho.trans (ho₂.trans ⟨rfl, rfl, rfl⟩)⟩
    | true =>
      rw [if_pos rfl]
      refine BoolOp_one (wpAny_Compare1 (item_at (j := 1) O' (frExt F₃ fun b o e => Heap.get?_push_of_some _ e) (isLc_is hl2) rfl (Heap.get?_push_of_some _ (F₃.keep _ _ gt)) rfl (by decide) fun tk => ?_) rfl)
      refine nm O' (frExt F₃ fun b o e => Heap.get?_push_of_some _ e) (isLc_is hl3) rfl (PyProof.Rows.eq_str ?_)
      exact hQ _ _ ⟨by rw [hin]; rfl, fun b o e => Heap.get?_push_of_some _ (F₃.keep b o e), ho.trans (ho₂.trans ⟨rfl, rfl, rfl⟩)⟩
end
end
end Mine

namespace Mine
noncomputable section
noncomputable def nameT (w : Ws) : List Stmt := [.Assign [.Name "word" (wp w 0)] (.Call (.Attribute (.Name "self" (wp w 1)) "peek" (wp w 2)) [] [] (wp w 3)) (wp w 4), .If (.BoolOp .Or [.Compare (.Subscript (.Name "word" (wp w 5)) (.Constant (.int (0 : Nat)) (wn w 6) (wp w 7)) (wp w 8)) [.NotEq] [.Constant (.str "name") (wn w 9) (wp w 10)] (wp w 12), .Compare (.Subscript (.Name "word" (wp w 13)) (.Constant (.int (1 : Nat)) (wn w 14) (wp w 15)) (wp w 16)) [.In] [.Name "KEYWORDS" (wp w 17)] (wp w 18)] (wp w 19)) [.Raise (some (.Call (.Name "GrammarFault" (wp w 20)) [.Constant (.str (wx w 23)) (wn w 21) (wp w 22), .Subscript (.Name "word" (wp w 24)) (.Constant (.int (2 : Nat)) (wn w 25) (wp w 26)) (wp w 27)] [] (wp w 28))) none (wp w 29)] [] (wp w 30), .AugAssign (.Attribute (.Name "self" (wp w 31)) "at" (wp w 32)) .Add (.Constant (.int (1 : Nat)) (wn w 33) (wp w 34)) (wp w 35), .Return (some (.Tuple [.Subscript (.Name "word" (wp w 36)) (.Constant (.int (1 : Nat)) (wn w 37) (wp w 38)) (wp w 39), .Subscript (.Name "word" (wp w 40)) (.Constant (.int (2 : Nat)) (wn w 41) (wp w 42)) (wp w 43)] (wn w 44) (wp w 45))) (wp w 46)]
noncomputable def expectT (w : Ws) : List Stmt := [.If (.UnaryOp .Not (.Call (.Attribute (.Name "self" (wp w 0)) "looks" (wp w 1)) [.Name "text" (wp w 2)] [] (wp w 3)) (wp w 4)) [.Raise (some (.Call (.Name "GrammarFault" (wp w 5)) [.BinOp (.Name "text" (wp w 6)) .Add (.Constant (.str (wx w 9)) (wn w 7) (wp w 8)) (wp w 10), .Subscript (.Call (.Attribute (.Name "self" (wp w 11)) "peek" (wp w 12)) [] [] (wp w 13)) (.Constant (.int (2 : Nat)) (wn w 14) (wp w 15)) (wp w 16)] [] (wp w 17))) none (wp w 18)] [] (wp w 19), .Return (some (.Call (.Attribute (.Name "self" (wp w 20)) "take" (wp w 21)) [] [] (wp w 22))) (wp w 23)]
noncomputable def nameS (fd : FuncData) (w : Ws) : Bool := noDf fd && (isLc fd "self" && (isLc fd "word" && (isGl fd "KEYWORDS" && oneLine w 2 3)))
noncomputable def okName (K : Frag) (f : Addr) : Prop := Txt K f ["self"] nameT nameS
noncomputable def expectS (fd : FuncData) (w : Ws) : Bool := noDf fd && (isLc fd "self" && (isLc fd "text" && (oneLine w 1 3 && oneLine w 21 22)))
noncomputable def okExpect (K : Frag) (f : Addr) : Prop := Txt K f ["self", "text"] expectT expectS
section
variable {B : Bs} {fr : Frm} {n : Nat} {s : Shared} {m : Str → Option Value} {ω : Wd} {i d : Nat} {hp : Heap}
theorem c_expect (CK : ClsK B) {f fl ft fp : Addr} (hf : okExpect B.K f) (hlk : okLooks B.K fl) (htk : okTake B.K ft) (hpk : okPeek B.K fp) (Ml : Mt B "looks" fl) (Mk : Mt B "take" ft) (Mp : Mt B "peek" fp)
    (O : FrB B fr (n + 3)) (F : Fr fr.g fr.L s.heap m) (hD0 : fr.g.get? ω.D = none) (hDL0 : ω.D ≠ fr.L) (hC : ω.C = B.C) (hR : ω.R ≠ ω.D) (W : WordsAt ω s.heap i d)
    {k x : Str} {ty : PySem.Tok} (ht : ω.toks[i]? = some (k, x)) (hk : inS k kinds = true) :
    wpAny (model B.prog B.w) fr.A (call (.ref f) [.ref ω.W, .str x ty]) (fun v s' => (∃ a, ω.tvs[i]? = some a ∧ v = .ref a) ∧ KeepsBut ω.D s.heap s'.heap ∧ WordsAt ω s'.heap (i + 1) d ∧ OutAs s s') (fun _ _ => False) s := by
  have hke : k ≠ Str.ofString "end" := by rintro rfl; revert hk; decide
  obtain ⟨fd, w, hdef, hS⟩ := hf
  obtain ⟨hnd, hS⟩ := and_b hS
  obtain ⟨hl1, hS⟩ := and_b hS
  obtain ⟨hl2, hS⟩ := and_b hS
  obtain ⟨hpos, hpos'⟩ := and_b hS
  obtain ⟨q1, q2, q3, q4, q5⟩ := defOf_is hdef
  obtain ⟨ti, td, hD⟩ := W.dict
  refine wpAny_abs fun Q hQ => enterQ O F [ω.D] (by intro a h; simp only [List.mem_singleton] at h; subst h; exact ⟨hD0, hDL0⟩) q1 q2 q3 (bind2 q2 q4 (noDf_is hnd) (by decide)) (show (["self", "text"] : List Str).Nodup by decide) q5 fun L s₁ hL hkk ho O' F' => ?_
  have hDL : ω.D ≠ L := by rintro rfl; cases hD.symm.trans hL
  have gD : (hideAll s.heap [ω.D]).get? ω.D = none := hideAll_none _ (.head _)
  clear q1 q2 q3 q4 q5 hdef hnd hD
  refine wpAny_execs_cons (wpAny_If (isTrue_not (isTrue_plain ?_)))
  refine self1 CK Ml (fun _ _ _ _ _ => rfl) O' F' hC (W.ext hkk) (isLc_is hl1) rfl rfl (oneLine_is hpos) (nm O' F' (isLc_is hl2) rfl ⟨O'.X.keeps F'.keep, ?_⟩)
  refine wpAny_mono (c_looks CK hlk hpk Mp O' F' hC (W.ext hkk) (a := 0) (.inl ⟨rfl, rfl⟩) (by decide) ht) (fun v s₂ h₂ => ?_) fun _ _ e => e.elim
  obtain ⟨rfl, hk₂, ho₂⟩ := h₂
  have hb : (inS k kinds && (x == x)) = true := by rw [hk]; simp
  rw [hb]
  refine wpAny_truthy_bool ?_
  rw [if_neg (by decide)]
  refine wpAny_execs_nil ?_
  have F₂ := frExt F' hk₂
  refine wpAny_execs_cons (wpAny_Return_some ?_)
  refine self0 CK Mk (fun _ _ _ _ _ => rfl) O' F₂ hC ((W.ext hkk).ext hk₂) (isLc_is hl1) rfl (oneLine_is hpos') ?_
  refine wpAny_mono (c_take CK htk hpk Mp O' F₂ gD hDL hC hR ((W.ext hkk).ext hk₂) ht hke) (fun v s₃ h₃ => ?_) fun _ _ e => e.elim
  obtain ⟨h1, h2, h3, h4⟩ := h₃
  exact hQ _ _ ⟨h1, fun b o e ne => h2 b o (hk₂ _ _ (hkk _ _ e)) ne, h3, ho.trans (ho₂.trans h4)⟩

theorem c_name (CK : ClsK B) {f g : Addr} (hf : okName B.K f) (hpk : okPeek B.K g) (M : Mt B "peek" g) (O : FrB B fr (n + 2)) (F : Fr fr.g fr.L s.heap m) (hD0 : fr.g.get? ω.D = none) (hDL0 : ω.D ≠ fr.L) (hC : ω.C = B.C) (hR : ω.R ≠ ω.D) (W : WordsAt ω s.heap i d)
    {x : Str} (ht : ω.toks[i]? = some (Str.ofString "name", x)) {Kw : Value} {kl : List AV} {kw : List Str} (hkw : nsIn B.K mainGlobals "KEYWORDS" = some (some Kw)) (hlit : litV B.K litD Kw = some (.tup kl)) (hall : allStr kl = some kw) (hx : inS x kw = false) :
    wpAny (model B.prog B.w) fr.A (call (.ref f) [.ref ω.W]) (fun v s' => (∃ T t1 t2, v = .ref T ∧ s'.heap.get? T = some (tupObj [.str x t1, .int i t2] 0)) ∧ KeepsBut ω.D s.heap s'.heap ∧ WordsAt ω s'.heap (i + 1) d ∧ OutAs s s') (fun _ _ => False) s := by
  have hke : Str.ofString "name" ≠ Str.ofString "end" := by decide
  obtain ⟨fd, w, hdef, hS⟩ := hf
  obtain ⟨hnd, hS⟩ := and_b hS
  obtain ⟨hl1, hS⟩ := and_b hS
  obtain ⟨hl2, hS⟩ := and_b hS
  obtain ⟨hg, hpos⟩ := and_b hS
  obtain ⟨q1, q2, q3, q4, q5⟩ := defOf_is hdef
  obtain ⟨ad, k1, k2, k3, nn, ha, hta⟩ := tok_obj W ht
  obtain ⟨ti, td, hD⟩ := W.dict
  refine wpAny_abs fun Q hQ => enterQ O F [ω.D] (by intro a h; simp only [List.mem_singleton] at h; subst h; exact ⟨hD0, hDL0⟩) q1 q2 q3 (bind1 q2 q4 (noDf_is hnd)) (show (["self"] : List Str).Nodup by decide) q5 fun L s₁ hL hkk ho O' F' => ?_
  have hDL : ω.D ≠ L := by rintro rfl; cases hD.symm.trans hL
  have gD : (hideAll s.heap [ω.D]).get? ω.D = none := hideAll_none _ (.head _)
  have aD : ad ≠ ω.D := tup_notD hta hD
  have gt : (hideAll s.heap [ω.D]).get? ad = some _ := hideAll_get _ hta (by simpa using aD)
  refine x_word CK hpk M (oneLine_is hpos) O' F' hC (W.ext hkk) (isLc_is hl1) rfl (isLc_is hl2) hDL ha fun s₂ F₂ hD₂ ho₂ => ?_
  have hD₂ := hD₂ _ (hkk _ _ hD)
  clear q1 q2 q3 q4 q5 hdef hnd F' hD aD hta hL
  refine wpAny_execs_cons (wpAny_If (isTrue_or (wpAny_isTrue_Compare1 (item_at (j := 0) O' F₂ (isLc_is hl2) rfl (F₂.keep _ _ gt) rfl (by decide) fun tk => wpAny_Constant_str (PyProof.Rows.ne_str (wpAny_truthy_bool ?_))) rfl)))
  have : (Str.ofString "name" != Str.ofString "name") = false := by simp
  rw [this, if_neg (by decide)]
  have X₂ := O'.X.keeps F₂.keep
  obtain ⟨T, us, ep, rfl, hT, hlen, hat⟩ := (litV_rep (ρ := ⟨none, none, [], [], 0, 0, false, 0, 0, s, []⟩) (ads := []) X₂ _ hlit).tup_inv
  obtain rfl := allStr_of hall
  refine isTrue_or (wpAny_isTrue_Compare1 (item_at (j := 1) O' F₂ (isLc_is hl2) rfl (F₂.keep _ _ gt) rfl (by decide) fun tk => ?_) rfl)
  refine gnm O' F₂ (isGl_is hg) hkw (SeqRoads2.in_tuple (isStrOf x) (fun z hz => ?_) hT (wpAny_truthy_bool ?_))
  · obtain ⟨i, hi⟩ := List.getElem?_of_mem (by simpa using hz : z ∈ us)
    obtain ⟨z', u, _, rfl⟩ := rep_strs hlen hat i z hi
    exact PyProof.Rows.eqGives_str _ _ _ _
  · rw [any_str (l := kw) (by simpa using hlen) (rep_strs hlen hat), hx, if_neg (by decide)]
    refine isTrue_or_nil ?_
    rw [if_neg (by decide)]
    refine wpAny_execs_nil ?_
    refine wpAny_execs_cons (aug_at CK O' F₂ hC (W_now W hR F₂ hD₂ W.lt) (isLc_is hl1) rfl gD hDL fun h₃ tk₃ t₃ td₃ F₃ hD₃ => ?_)
    refine wpAny_execs_cons (wpAny_Return_some (Tuple_ (spliced_more (item_at (j := 1) O' F₃ (isLc_is hl2) rfl (F₃.keep _ _ gt) rfl (by decide) fun tk => ?_))))
    refine spliced_more (item_at (j := 2) O' F₃ (isLc_is hl2) rfl (F₃.keep _ _ gt) rfl (by decide) fun tk => spliced_none ?_)
    refine wpAny_newObj_type (T := "tuple") (data := .seq #[.str x _, .int i _]) (dict := none) ?_ (show 2 ≤ sizeLine by rw [sizeLine_eq]; decide)
    have kp : Kept h₃ (h₃.push (tupObj [.str x k2, .int i k3] 0)) := fun b o e => Heap.get?_push_of_some _ e
    exact hQ _ _ ⟨⟨_, k2, k3, rfl, Heap.get?_push_size _ rfl⟩, fun b o e ne => kp _ _ (K_now F₃ b o e ne), (W_now W hR F₃ hD₃ (not_last W ht hke)).ext kp, ho.trans (ho₂.trans ⟨rfl, rfl, rfl⟩)⟩
end
end
end Mine

namespace Mine

section
variable {prog : Program} {w : World} {A : Around} {E : Value → Shared → Prop} {h : Heap} {g : Array GenState} {d : Drawn} {t : Nat} {os : OsState}
variable {nm q : Str} {C N : Addr} {bs bm bmB : List Value} {hdct : Bool} {sn : List Str} {sub : List Value} {ab : Bool} {col : Option Bool} {dd : Option Addr} {k0 k1 k2 k3 k5 : Option Value} {B newId initId : String}

structure Holds (B : String) (bm : List Value) : Prop where
  hasB : bm.contains (.type B) = true
  hasBase : bm.contains (.type "BaseException") = true
  noAttr : bm.contains (.type "AttributeError") = false
  noName : bm.contains (.type "NameError") = false

theorem x_check_new (F : ExcBaseFacts B newId initId bmB) (T : Holds B bm) {M : Model} {rest : List Value} {Q : Unit → Shared → Prop} (hC : h.get? C = some (excClassObj nm q C N bs bm hdct sn sub ab col dd k0 k1 k2 k3 k5 newId))
    (hq : Q () ⟨h, g, d, t, os⟩) : wpAny M A (checkBuiltinCall newId ⟨.ref C :: rest, []⟩) Q E ⟨h, g, d, t, os⟩ := by
  have hcont : (Value.ref C :: bm).contains (.type B) = true := by rw [List.contains_cons, T.hasB, Bool.or_true]
  have hstar := F.noStar
  simp only [checkBuiltinCall, F.newKind, F.newSplit, F.newRow]
  repeat (first | refine wpAny_loadPart_at hC ?_ | (refine wpAny_isSubtype_exc hC ?_; rw [hcont]) | refine wpAny_staticBase_exc hC ?_ | refine wpAny_madeBy_exc hC ?_ | simp only [bne_self_eq_false, Bool.false_eq_true, if_false] | wp_step)
  exact hq

theorem x_new (F : ExcBaseFacts B newId initId bmB) (T : Holds B bm) {rest : List Value} {R : Result → Shared → Prop} (hC : h.get? C = some (excClassObj nm q C N bs bm hdct sn sub ab col dd k0 k1 k2 k3 k5 newId))
    (hq : R (.ok (.ret (.ref (h.objs.size + 1)))) ⟨(h.push { cls := .type "tuple", data := .seq rest.toArray }).push
      { cls := .ref C, data := .fields #[.ref h.objs.size, .none, .none, .none, .bool false, .none] }, g, d, t, os⟩) (hrest : rest.length ≤ sizeLine := by size_fits) :
    codeAny (model prog w) A (.builtin newId ⟨.ref C :: rest, []⟩) R ⟨h, g, d, t, os⟩ := by
  have hends := F.ends
  have hcB : (Value.ref C :: bm).contains (.type B) = true := by rw [List.contains_cons, T.hasB, Bool.or_true]
  have hcA : (Value.ref C :: bm).contains (.type "AttributeError") = false := by rw [List.contains_cons, T.noAttr]; rfl
  have hcN : (Value.ref C :: bm).contains (.type "NameError") = false := by rw [List.contains_cons, T.noName]; rfl
  refine codeAny_builtinAt F.entry ?_
  unfold Builtin.«BaseException.__new__»
  refine PySem.wpAt_bind ?_
  show PySem.wpAt _ _ _ (stack >>= _) _ _ _
  refine PySem.wpAt_bind (PySem.wpAt_stack fun p below => PySem.wpAt_of_wpAny ?_)
  wp_walk
  refine PySem.wpAt_of_wpAny ?_
  rw [F.owner]
  repeat (first | with_reducible refine wpAny_madeHere_exc F.canon hC ?_ | with_reducible refine wpAny_loadPart_at hC ?_ | (with_reducible refine wpAny_isSubtype_exc hC ?_; first | rw [hcB] | rw [hcA] | rw [hcN]) | wp_step)
  show R _ _
  rw [Heap.size_push]
  exact hq

theorem x_check_init (F : ExcBaseFacts B newId initId bmB) (T : Holds B bm) {M : Model} {e : Addr} {oe : Obj} {rest : List Value} {nw : String} {Q : Unit → Shared → Prop}
    (hC : h.get? C = some (excClassObj nm q C N bs bm hdct sn sub ab col dd k0 k1 k2 k3 k5 nw)) (he : h.get? e = some oe) (hcls : oe.cls = .ref C) (hq : Q () ⟨h, g, d, t, os⟩) :
    wpAny M A (checkBuiltinCall initId ⟨.ref e :: rest, []⟩) Q E ⟨h, g, d, t, os⟩ := by
  have hcB : (Value.ref C :: bm).contains (.type B) = true := by rw [List.contains_cons, T.hasB, Bool.or_true]
  have hshort := F.noStar
  simp only [checkBuiltinCall, F.initKind, F.initSplit, F.initRow]
  repeat (first | (with_reducible refine wpAny_loadPart_at he ?_; rw [hcls]) | with_reducible refine wpAny_loadPart_at hC ?_ | (with_reducible refine wpAny_isSubtype_exc hC ?_; rw [hcB]) | wp_step)
  refine wpAny_onRaise ?_
  rw [show ∀ (a b : String) (n : Nat), Bind.check ⟨.positional, "*", B, .self, [⟨"args", .varPos, false⟩]⟩ a b n (List.map (fun x => x.fst) ({ pos := Value.ref e :: rest } : Args).kw) = pure () from
    fun a b n => check_star_args _ _ _ _ _ _]
  exact wpAny_pure hq

/-- the object of an exception that is being made -/
noncomputable abbrev excObj (C t : Addr) (D : Option Addr) : Obj := { cls := .ref C, dict := D, data := .fields #[.ref t, .none, .none, .none, .bool false, .none] }

theorem x_make (F : ExcBaseFacts B newId initId bmB) (T : Holds B bm) {rest : List Value} {fI : Addr} {R : Result → Shared → Prop}
    (hC : h.get? C = some (excClassObj nm q C N bs bm hdct sn sub ab col dd k0 k1 k2 k3 k5 newId))
    {K : Frag} (X : K.In h) (hs : findIn K (.ref C) "__init__" = some (some (.ref fI))) (hf : typeIn K (.ref fI) = some (.type "function"))
    (hq : codeAny (model prog w) (A.under (.builtin "type.__call__" ⟨.ref C :: rest, []⟩)) (.call (.ref fI) ⟨.ref (h.objs.size + 1) :: rest, []⟩) (InitBack (h.objs.size + 1) R)
      ⟨(h.push { cls := .type "tuple", data := .seq rest.toArray }).push (excObj C h.objs.size none), g, d, t, os⟩) (hrest : rest.length ≤ sizeLine := by size_fits) :
    codeAny (model prog w) A (.call (.ref C) ⟨rest, []⟩) R ⟨h, g, d, t, os⟩ := by
  have f1 := tc_lookup
  have f2 := tc_bind (.ref C)
  have hT : (⟨h, g, d, t, os⟩ : Shared).TypeIs (.ref C) "type" := ⟨_, hC, rfl⟩
  refine codeAny_of_tree ?_
  show wpAny _ _ (callAny (.ref C) _) _ _ _
  repeat (any_goals (first | assumption | with_reducible refine wpAny_loadPart_at hC ?_ | wp_step))
  refine ⟨rfl, ?_⟩
  refine codeAny_call_builtin_at (Code.quiet_builtin _ (by decide +kernel)) entry_typeCall (wpAny_check_type_call_sub hC ?_)
  repeat (first | with_reducible refine wpAny_loadPart_at hC ?_ | with_reducible refine wpAny_madeBy_exc hC ?_ | wp_step)
  refine codeAny_call_builtin_code (Code.quiet_builtin _ F.quiet) (x_check_new F T hC ?_)
  refine x_new F T hC ?_ hrest
  show wpAny _ _ _ _ _ _
  have k : Kept h ((h.push { cls := .type "tuple", data := .seq rest.toArray }).push (excObj C h.objs.size none)) := fun b o e => Heap.get?_push_of_some _ (Heap.get?_push_of_some _ e)
  have hC₁ := k _ _ hC
  have hget : ((h.push { cls := .type "tuple", data := .seq rest.toArray }).push (excObj C h.objs.size none)).get? (h.objs.size + 1) = some (excObj C h.objs.size none) := by heap_get
  have hcC : (Value.ref C :: bm).contains (.ref C) = true := by simp
  unfold isInstance
  repeat (first | with_reducible refine wpAny_loadPart_at hget ?_ | wp_step)
  refine wpAny_isSubtype_exc hC₁ ?_
  rw [hcC]
  simp only [Bool.not_true, Bool.false_eq_true, if_false]
  have I : InstAt ((h.push { cls := .type "tuple", data := .seq rest.toArray }).push (excObj C h.objs.size none)) (h.objs.size + 1) (excObj C h.objs.size none) C none := ⟨hget, rfl, rfl, trivial⟩
  refine wpAny_bind (wpAny_holding (special_fn (X.keeps k) I hs hf (wpAny_call ?_)))
  refine codeAny_mono hq fun r s' z => ?_
  rcases r with e | (v | _ | _ | _) <;> first | exact z | exact z.elim | skip
  obtain ⟨rfl, z⟩ := z
  exact wpAny_pure z
end
end Mine

namespace Mine
section
variable {prog : Program} {w : World} {A : Around} {K : Frag} {C x : Addr} {s : Shared} {R : Result → Shared → Prop}
/-- an exception's classes, to the end -/
noncomputable def endsExc : List Value → Bool
  | [.type a, .type b, .type c] => decide (a = "Exception") && decide (b = "BaseException") && decide (c = "object")
  | .ref _ :: r => endsExc r
  | _ => false
theorem pass_exc (self : Value) : refuseLoop self "__setattr__" [.type "Exception", .type "BaseException", .type "object"] = pure () := by
  kernel_rfl
theorem refuse_exc (self : Value) : ∀ {l : List Value}, endsExc l = true → refuseLoop self "__setattr__" l = pure ()
  | [.type a, .type b, .type c], e => by
    simp only [endsExc, Bool.and_eq_true, decide_eq_true_eq] at e
    obtain ⟨⟨rfl, rfl⟩, rfl⟩ := e
    exact pass_exc self
  | .ref c :: r, e => by rw [refuseLoop_ref]; exact refuse_exc self e
theorem exc_has : ∀ {l : List Value}, endsExc l = true → l.contains (.type "object") = true
  | [.type a, .type b, .type c], e => by
    simp only [endsExc, Bool.and_eq_true, decide_eq_true_eq] at e
    obtain ⟨⟨rfl, rfl⟩, rfl⟩ := e
    simp
  | .ref c :: r, e => by rw [List.contains_cons, exc_has (l := r) e, Bool.or_true]
noncomputable def overX (K : Frag) (C : Addr) : Bool := (clsIn K C).any fun cd => endsExc cd.mro
theorem osa_openX {ox : Obj} {od : Option Obj} {name : Str} {tk : PySem.Tok} {v : Value} {r : Option Value} (X : K.In s.heap) (I : InstAt s.heap x ox C od) (hp : overX K C = true) (ht : takerIn K C name = some r)
    (h : ∀ b, wpAny (model prog w) A.in1 (match r with | some a => Builtin.ObjectAttr.setByDescriptor a (.ref x) v | none => Builtin.ObjectAttr.storeInOwnDict (.ref x) (.ref C) (.str name tk) name v b)
      (fun fin s' => match fin with | .done f => R (.ok f) s' | .again c' => c'.quiet = true ∧ codeAny (model prog w) A c' R s') (fun e s' => R (.error e) s') s) :
    codeAny (model prog w) A (.call (.builtin "object.__setattr__") ⟨[.ref x, .str name tk, v], []⟩) R s := by
  have SF := PySem.F.store_object
  obtain ⟨cd, hc, ho⟩ := any_some hp
  have ne : cd.mro.isEmpty = false := by cases q : cd.mro with | nil => rw [q] at ho; cases ho | cons _ _ => rfl
  have sub : Looks (model prog w) s.heap (isInstance (.ref x) (.type "object")) true := I.type.andThen (looks_mroIn X (by unfold mroIn; rw [hc, Option.bind_some, if_neg (by rw [ne]; decide), exc_has ho]))
  refine codeAny_call_builtin SF.slot.plain SF.entry (@check_slot (model prog w) _ _ s "object.__setattr__" "object" "__setattr__" (.ref x) [.str name tk, v] [] _ SF.kind SF.split sub (SF.args (.ref x) (.str name tk) v) ?_)
  obtain ⟨attr, ha, hr⟩ := Option.bind_eq_some_iff.mp ht
  have hm : Looks (model prog w) s.heap (mroOf (.ref C)) cd.mro := (looks_clsIn X hc).andThen .now
  have L3 : Looks (model prog w) s.heap (Builtin.ObjectAttr.storeTaker? attr) r := by
    cases attr with
    | none => (first | exact ff hr | exact nn hr | exact ns hr | exact tf hr | exact ln hr | exact lc hr | cases hr); exact .now
    | some a =>
      obtain ⟨b, hb, rfl⟩ := Option.map_eq_some_iff.mp hr
      refine (looks_takesIn X hb).andThen ?_
      (first | exact ff b | exact nn b | exact ns b | exact tf b | exact ln b | exact lc b | cases b) <;> exact .now
  rw [osa_eq, refuse_eq]
  refine wpAny_bind (wpAny_bind (I.type.here (wpAny_bind (hm.here ?_))))
  rw [refuse_exc _ ho]
  refine wpAny_pure (wpAny_bind (I.type.here (wpAny_bind ((looks_findIn X ha).here (wpAny_bind (L3.here ?_))))))
  exact h _

theorem set_first {ox : Obj} {name : Str} {tk : PySem.Tok} {v : Value} {vs : Array Value} (X : K.In s.heap) (hx : s.heap.get? x = some ox) (hcl : ox.cls = .ref C) (hdn : ox.dict = none) (hdt : ox.data = .fields vs)
    (hp : overX K C = true) (ht : takerIn K C name = some none) (hh : (clsIn K C).any (·.hasDict) = true) 
    (h : ∀ h' D hs tk', (∀ b o, s.heap.get? b = some o → b ≠ x → h'.get? b = some o) → s.heap.get? D = none → h'.get? x = some { ox with dict := some D } → h'.get? D = some (dictOf [⟨hs, .str name tk', v⟩] 1) → R (.ok (.ret .none)) { s with heap := h', toks := s.toks + 1 }) :
    codeAny (model prog w) A (.call (.builtin "object.__setattr__") ⟨[.ref x, .str name tk, v], []⟩) R s := by
  have I : InstAt s.heap x ox C none := ⟨hx, hcl, by unfold notCls; rw [hdt], by rw [hdn]; trivial⟩
  refine osa_openX X I hp ht fun b => ?_
  obtain ⟨cd, hc, hd'⟩ := any_some hh
  obtain ⟨oc, odi, oda, osl⟩ := ox
  dsimp only at hcl hdn hdt
  subst hcl hdn hdt
  refine wpAny_bind (wpAny_pure (wpAny_bind (wpAny_bind (wpAny_loadPart hx (wpAny_bind ((looks_clsIn X hc).here ?_))))))
  rw [hd']
  simp only [Bool.not_true, Bool.false_eq_true, if_false]
  rw [if_neg (show ¬ (false || !typeHasDict (.ref C)) = true by simp [typeHasDict])]
  have hx₁ := Heap.get?_push_of_some { cls := .type "dict", data := .dict #[] } hx
  have hDn : s.heap.get? s.heap.objs.size = none := Heap.get?_none_of_le (Nat.le_refl _)
  have hxD : x ≠ s.heap.objs.size := Nat.ne_of_lt (Heap.lt_size hx)
  refine wpAny_bind (wpAny_alloc (wpAny_bind (wpAny_update hx₁ ?_)))
  have D : ((s.heap.push { cls := .type "dict", data := .dict #[] }).update x fun o => { cls := o.cls, dict := some s.heap.objs.size, data := o.data, slots := o.slots }).get? s.heap.objs.size = some (dictOf [] 0) :=
    (Heap.get?_update_other _ _ hxD).trans (Heap.get?_push_size _ rfl)
  refine wpAny_pure (a := some s.heap.objs.size) (wpAny_bind (wpAny_pure (wpAny_bind ?_)))
  unfold nsSet
  refine wpAny_bind (wpAny_bind (wpAny_askSetting (wpAny_pure (wpAny_bind (wpAny_mkText (wpAny_bind (wpAny_loadPart D ?_)))))))
  dsimp only
  rw [aRefKeyMayBeTheName_at, show (!(([] : List DictEntry).toArray.any (·.key.isStr name)) && ([] : List DictEntry).toArray.any (·.refKey)) = false from by simp]
  refine wpAny_updatePart D ?_
  generalize hput : Obj.putName name _ _ v = put
  have hpd : ∃ hs tk', put (dictOf [] 0) = dictOf [⟨hs, .str name tk', v⟩] 1 := by
    subst hput
    exact ⟨_, _, by rw [putName_dict]; rfl⟩
  obtain ⟨hs', tk', hpd⟩ := hpd
  have D' := Heap.get?_update_self put D (by rw [hpd]; rfl)
  rw [hpd] at D'
  refine wpAny_bind (wpAny_lookBehind D' (pastItsLine_dict (es := #[⟨hs', .str name tk', v⟩]) (show 1 ≤ sizeLine + 1 by omega)) ?_)
  refine wpAny_pure (h _ s.heap.objs.size hs' tk' (fun b o e ne => ?_) hDn ?_ D')
  · have hb : b ≠ s.heap.objs.size := Nat.ne_of_lt (Heap.lt_size e)
    exact (Heap.get?_update_other _ _ (Ne.symm hb)).trans ((Heap.get?_update_other _ _ (Ne.symm ne)).trans (Heap.get?_push_of_some _ e))
  · exact (Heap.get?_update_other _ _ (Ne.symm hxD)).trans (Heap.get?_update_self _ hx₁ rfl)
end

section
variable {prog : Program} {w : World} {A : Around} {K : Frag} {C x : Addr} {s : Shared} {R : Result → Shared → Prop}
theorem set_second {ox : Obj} {name : Str} {tk : PySem.Tok} {v : Value} {vs : Array Value} {D : Addr} {e₁ : DictEntry} (X : K.In s.heap) (hx : s.heap.get? x = some ox) (hcl : ox.cls = .ref C) (hdn : ox.dict = some D) (hdt : ox.data = .fields vs)
    (hD : s.heap.get? D = some (dictOf [e₁] 1)) (hk : ∃ y t, e₁.key = .str y t) (hp : overX K C = true) (ht : takerIn K C name = some none) (hh : (clsIn K C).any (·.hasDict) = true)
    (h : ∀ h', (∀ b o, s.heap.get? b = some o → b ≠ D → h'.get? b = some o) → R (.ok (.ret .none)) { s with heap := h', toks := s.toks + 1 }) :
    codeAny (model prog w) A (.call (.builtin "object.__setattr__") ⟨[.ref x, .str name tk, v], []⟩) R s := by
  have I : InstAt s.heap x ox C (some (dictOf [e₁] 1)) := ⟨hx, hcl, by unfold notCls; rw [hdt], by rw [hdn]; exact hD⟩
  refine osa_openX X I hp ht fun b => ?_
  obtain ⟨cd, hc, hd'⟩ := any_some hh
  obtain ⟨oc, odi, oda, osl⟩ := ox
  dsimp only at hcl hdn hdt
  subst hcl hdn hdt
  refine wpAny_bind (wpAny_pure (wpAny_bind (wpAny_bind (wpAny_loadPart hx (wpAny_bind ((looks_clsIn X hc).here ?_))))))
  rw [hd']
  refine wpAny_pure (a := some D) (wpAny_bind (wpAny_pure (wpAny_bind ?_)))
  unfold nsSet
  refine wpAny_bind (wpAny_bind (wpAny_askSetting (wpAny_pure (wpAny_bind (wpAny_mkText (wpAny_bind (wpAny_loadPart hD ?_)))))))
  dsimp only
  obtain ⟨hs, k1, v1⟩ := e₁
  obtain ⟨y, t, rfl⟩ := hk
  rw [aRefKeyMayBeTheName_at, show (!(([⟨hs, .str y t, v1⟩] : List DictEntry).toArray.any (·.key.isStr name)) && ([⟨hs, .str y t, v1⟩] : List DictEntry).toArray.any (·.refKey)) = false from by simp [DictEntry.refKey]]
  refine wpAny_updatePart hD ?_
  generalize hput : Obj.putName name _ _ v = put
  have hpd : ∃ es n, put (dictOf [⟨hs, .str y t, v1⟩] 1) = dictOf es n ∧ es.length ≤ 2 := by
    subst hput
    refine ⟨_, _, by rw [putName_dict], ?_⟩
    unfold putL putL
    split <;> simp
  obtain ⟨es, n, hpd, hlen⟩ := hpd
  have D' := Heap.get?_update_self put hD (by rw [hpd]; rfl)
  rw [hpd] at D'
  refine wpAny_bind (wpAny_lookBehind D' (pastItsLine_dict (es := es.toArray) (by rw [List.size_toArray, sizeLine_eq]; omega)) ?_)
  exact wpAny_pure (h _ fun b o e ne => (Heap.get?_update_other _ _ (Ne.symm ne)).trans e)
end

section
variable {prog : Program} {w : World} {A : Around} {E : Value → Shared → Prop} {s : Shared}
variable {nm q : Str} {C N : Addr} {bs bm bmB : List Value} {hdct : Bool} {sn : List Str} {sub : List Value} {ab : Bool} {col : Option Bool} {dd : Option Addr} {k0 k1 k2 k3 k5 : Option Value} {B newId initId nw : String}
theorem x_init {e t : Addr} {v : Value} {Q : Value → Shared → Prop} (F : ExcBaseFacts B newId initId bmB) (T : Holds B bm) (hC : s.heap.get? C = some (excClassObj nm q C N bs bm hdct sn sub ab col dd k0 k1 k2 k3 k5 nw)) (he : s.heap.get? e = some (excObj C t none))
    (h : ∀ h' t', (∀ b o, s.heap.get? b = some o → b ≠ e → h'.get? b = some o) → h'.get? e = some (excObj C t' none) → Q .none { s with heap := h' }) :
    wpAny (model prog w) A (call (.builtin initId) [.ref e, v]) Q E s := by
  obtain ⟨hh, g, d, tk, os⟩ := s
  refine wpAny_call (codeAny_call_builtin F.init.plain F.initEntry (x_check_init F T hC he rfl ?_))
  wp_walk
  have he₁ := Heap.get?_push_of_some { cls := .type "tuple", data := .seq #[v] } he
  refine h _ hh.objs.size (fun b o ob ne => ?_) ?_
  · exact (Heap.get?_update_other _ _ (Ne.symm ne)).trans (Heap.get?_push_of_some _ ob)
  · exact Heap.get?_update_self _ he₁ rfl
end
end Mine

namespace Mine

noncomputable def Frm.intoA (fr : Frm) (A : Around) (s : Shared) (hide : List Addr) (f : Addr) (fd : FuncData) (L : Addr) : Frm := ⟨A, fr.base, hideAll s.heap hide, fr.env :: fr.outer, L, f, fd.qualname, fd.scope, fd.code⟩
section
variable {B : Bs} {fr : Frm} {n n' : Nat} {s : Shared} {m : Str → Option Value}
/-- a plain def is entered, from within a call of a builtin -/
theorem enterA {R : Result → Shared → Prop} {A : Around} (O : FrB B fr n') (F : Fr fr.g fr.L s.heap m) (hide : List Addr) (hnew : ∀ a ∈ hide, fr.g.get? a = none ∧ a ≠ fr.L)
    (hst : A.frames = some (fr.env :: fr.outer)) (hh : A.handled = none) (hroom : A.depth + n + 20 ≤ recursionLimit) (hunits : A.units + 10 * (n + 20) ≤ cLine)
    {f : Addr} {fd : FuncData} {body : List Stmt} {vs : List Value} {mv : List (Str × Value)} (hf : fnAt B.K f = some fd) (hfd : fdOk B.K fd = true) (hbody : fd.body = .stmts body) (hb : BindsTo s fd ⟨vs, []⟩ mv)
    (hnd : (mv.map (·.1)).Nodup) (hloc : allLocal fd.scope (mv.map (·.1)) = true)
    (k : ∀ L s₁, s.heap.get? L = none → Kept s.heap s₁.heap → OutAs s s₁ → FrB B (fr.intoA A s hide f fd L) n → Fr (hideAll s.heap hide) L s₁.heap (fun z => find z mv) →
      wpAny (model B.prog B.w) (fr.intoA A s hide f fd L).A (execs body (fr.intoA A s hide f fd L).env) (fun fl s' => R (.ok (.ret (flowV fl))) s') (fun _ _ => False) s₁) :
    codeAny (model B.prog B.w) A (.call (.ref f) ⟨vs, []⟩) R s := by
  have st0 := stays_hide F.keep fun a ha => (hnew a ha).1
  have I := fdOk_is hfd
  have room : A.depth < recursionLimit := by omega
  refine callee room (O.X.keeps F.keep) (O.T.nolimit.keeps F.keep) hf I hbody hb hnd hloc fun h₁ hns hk₁ => ?_
  exact wpAny_mono (k s.heap.objs.size { s with heap := h₁, toks := s.toks + mv.length } (Heap.get?_none_of_le (Nat.le_refl _)) hk₁ ⟨rfl, rfl, rfl⟩ ⟨below_in hst O.below F O.kind hnew, O.X.keeps st0, O.T.keeps st0, I.kind, hh, I.dbg, hroom, hunits⟩
    ⟨hns, fun b o e => hk₁ b o (of_hideAll _ e), Nat.le_of_eq (hideAll_size _ _)⟩) (fun fl s' q => q) fun _ _ e => e.elim
end

noncomputable section
noncomputable def lendT (w : Ws) : List Stmt := [.Expr (.Call (.Attribute (.Name "Exception" (wp w 0)) "__init__" (wp w 1)) [.Name "self" (wp w 2), .Name "message" (wp w 3)] [] (wp w 4)) (wp w 5), .Assign [.Attribute (.Name "self" (wp w 6)) "message" (wp w 7)] (.Name "message" (wp w 8)) (wp w 9), .Assign [.Attribute (.Name "self" (wp w 10)) "spot" (wp w 11)] (.Name "spot" (wp w 12)) (wp w 13)]
noncomputable def lendS (K : Frag) (fd : FuncData) (w : Ws) : Bool := dfI K fd 0 && (isLc fd "self" && (isLc fd "message" && (isLc fd "spot" && (isGl fd "Exception" && (noneK K "Exception" && oneLine w 1 4)))))
noncomputable def okLend (K : Frag) (f : Addr) : Prop := Txt K f ["self", "message", "spot"] lendT (lendS K)

noncomputable def cdOf (o : Obj) : ClassData := match o.data with
  | .cls cd => cd
  | _ => default
/-- what a class of the fault's kind looks like -/
noncomputable def excAs (C : Addr) (o : Obj) : Obj := excClassObj (cdOf o).name (cdOf o).qualname C (cdOf o).ns (cdOf o).bases (cdOf o).mro.tail (cdOf o).hasDict (cdOf o).slotNames (cdOf o).subclasses (cdOf o).abstract (cdOf o).collection o.dict
  (o.slots.toList.getD 0 none) (o.slots.toList.getD 1 none) (o.slots.toList.getD 2 none) (o.slots.toList.getD 3 none) (o.slots.toList.getD 5 none) "Exception.__new__"
noncomputable def hasExc (bm : List Value) : Bool := bm.contains (.type "Exception") && (bm.contains (.type "BaseException") && (!bm.contains (.type "AttributeError") && !bm.contains (.type "NameError")))
noncomputable def isExcCls (C : Addr) (o : Obj) : Prop := o = excAs C o ∧ hasExc (cdOf o).mro.tail = true
theorem exc_elim {C : Addr} {o : Obj} {G : Prop} (h : isExcCls C o) (k : ∀ nm q N bs bm hdct sn sub ab col dd k0 k1 k2 k3 k5, o = excClassObj nm q C N bs bm hdct sn sub ab col dd k0 k1 k2 k3 k5 "Exception.__new__" → Holds "Exception" bm → G) : G := by
  obtain ⟨h1, h2⟩ := h
  obtain ⟨a1, h2⟩ := and_b h2
  obtain ⟨a2, h2⟩ := and_b h2
  obtain ⟨a3, a4⟩ := and_b h2
  exact k _ _ _ _ _ _ _ _ _ _ _ _ _ _ _ _ h1 ⟨a1, a2, (Bool.not_eq_true' _).mp a3, (Bool.not_eq_true' _).mp a4⟩
end

/-- the class of what is raised -/
structure FaultK (B : Bs) (fI : Addr) : Prop where
  cls : ∃ o, B.K.lookup B.GF = some o ∧ isExcCls B.GF o
  ini : findIn B.K (.ref B.GF) "__init__" = some (some (.ref fI))
  ity : typeIn B.K (.ref fI) = some (.type "function")
  sa : findIn B.K (.ref B.GF) "__setattr__" = some (some (.builtin "object.__setattr__"))
  po : overX B.K B.GF = true
  hd : hasDictIn B.K B.GF = true
  t1 : takerIn B.K B.GF "message" = some none
  t2 : takerIn B.K B.GF "spot" = some none
  text : okLend B.K fI
  ei : findCls B.K (.type "Exception") (.type "type") "__init__" = some (.val (.builtin "Exception.__init__"))
end Mine

namespace Mine
theorem ty_Exception : typeOf (.type "Exception") = pure (.type "type") := by kernel_rfl
theorem nostub_Exception : Manifest.isStub "Exception" = false := by decide +kernel

section
variable {B : Bs} {fr : Frm} {n n' : Nat} {s : Shared} {m : Str → Option Value}
theorem c_lend {fI : Addr} {R : Result → Shared → Prop} {A : Around} (FK : FaultK B fI) (O : FrB B fr n') (F : Fr fr.g fr.L s.heap m)
    (hst : A.frames = some (fr.env :: fr.outer)) (hh : A.handled = none) (hroom : A.depth + n + 20 ≤ recursionLimit) (hunits : A.units + 10 * (n + 20) ≤ cLine)
    {e t : Addr} {msg spot : Value} (he : s.heap.get? e = some (excObj B.GF t none)) (heg : fr.g.get? e = none) (heL : e ≠ fr.L)
    (h : ∀ s' t' D, (∀ b o, s.heap.get? b = some o → b ≠ e → s'.heap.get? b = some o) → s'.heap.get? e = some (excObj B.GF t' (some D)) → OutAs s s' → R (.ok (.ret .none)) s') :
    codeAny (model B.prog B.w) A (.call (.ref fI) ⟨[.ref e, msg, spot], []⟩) R s := by
  have hf := FK.text
  obtain ⟨fd, w, hdef, hS⟩ := hf
  obtain ⟨hdf, hS⟩ := and_b hS
  obtain ⟨hl1, hS⟩ := and_b hS
  obtain ⟨hl2, hS⟩ := and_b hS
  obtain ⟨hl3, hS⟩ := and_b hS
  obtain ⟨hg, hS⟩ := and_b hS
  obtain ⟨hn, hpos⟩ := and_b hS
  obtain ⟨q1, q2, q3, q4, q5⟩ := defOf_is hdef
  have X := O.X.keeps F.keep
  obtain ⟨_, hb⟩ := bindD (args := ⟨[.ref e, msg, spot], []⟩) (m := fun _ => [("self", .ref e), ("message", msg), ("spot", spot)]) X q2 q4 hdf fun _ _ _ _ _ _ _ _ _ _ _ ho => BindsTo.of_defaults rfl ho rfl rfl (by kernel_rfl)
  refine enterA (n := n) O F [e] (by intro a h; simp only [List.mem_singleton] at h; subst h; exact ⟨heg, heL⟩) hst hh hroom hunits q1 q2 q3 hb (show (["self", "message", "spot"] : List Str).Nodup by decide) q5 fun L s₁ hL hk ho O' F' => ?_
  have eL : e ≠ L := by rintro rfl; rw [he] at hL; (first | exact ff hL | exact nn hL | exact ns hL | exact tf hL | exact ln hL | exact lc hL | cases hL)
  have ge : (hideAll s.heap [e]).get? e = none := hideAll_none _ (.head _)
  obtain ⟨oc, hCl, hcls⟩ := FK.cls
  refine exc_elim hcls fun nmC q N bs bm hdct sn sub ab col dd k0 k1 k2 k3 k5 eO T => ?_
  subst eO
  have hne : (Str.ofString "Exception") ≠ "__name__" := by decide
  have nointer : interactive (fr.intoA A s [e] fI fd L).env = false := by
    unfold interactive
    show (fd.scope.kind == .module && _) = false
    rw [show fd.scope.kind = .function from O'.kind]; rfl
  refine wpAny_execs_cons (wpAny_Expr_any ?_ nointer rfl)
  refine meth_rule rfl (show 2 ≤ 20 by decide) (oneLine_is hpos) (bnm O' F' (isGl_is hg) (noneK_is hn) PyProof.Rows.Boot.«Exception» hne ?_)
  refine method_type F' O'.X ty_Exception nostub_Exception FK.ei rfl ?_
  refine callWith_builtin rfl (evalArgs_plain (spliced_cons (Mine.nm O' F' (isLc_is hl1) rfl (spliced_cons (Mine.nm O' F' (isLc_is hl2) rfl (spliced_nil ?_))))))
  refine x_init (t := t) PySem.F.excBase_Exception T ((O'.X.keeps F'.keep) _ _ hCl) (hk _ _ he) fun h₂ t₂ hk₂ he₂ => ?_
  have F₂ : Fr (hideAll s.heap [e]) L h₂ _ := frBut F' (c := e) (fun b o ne q => hk₂ b o q ne) ge eL
  have I₂ : InstAt h₂ e (excObj B.GF t₂ none) B.GF none := ⟨he₂, rfl, rfl, trivial⟩
  refine wpAny_execs_cons (plainObj_wpAny_Assign_Attribute (nm O' F₂ (isLc_is hl2) rfl (nm O' F₂ (isLc_is hl1) rfl ?_)))
  refine set_plain (ox := excObj B.GF t₂ none) (od := none) (O'.X.keeps F₂.keep) I₂ FK.sa ?_
  refine set_first (ox := excObj B.GF t₂ none) (vs := _) (O'.X.keeps F₂.keep) he₂ rfl rfl rfl FK.po FK.t1 ?_ fun h₃ D hs tk' hk₃ hD₃ he₃ hDo => ?_
  · exact FK.hd
  · have F₃ : Fr (hideAll s.heap [e]) L h₃ _ := frBut F₂ (c := e) (fun b o ne q => hk₃ b o q ne) ge eL
    have eD : e ≠ D := by rintro rfl; rw [he₂] at hD₃; (first | exact ff hD₃ | exact nn hD₃ | exact ns hD₃ | exact tf hD₃ | exact ln hD₃ | exact lc hD₃ | cases hD₃)
    have gD : (hideAll s.heap [e]).get? D = none := by
      cases q : (hideAll s.heap [e]).get? D with
      | none => rfl
      | some o => have := F₂.keep D o q; rw [hD₃] at this; (first | exact ff this | exact nn this | exact ns this | exact tf this | exact ln this | exact lc this | cases this)
    have DL : D ≠ L := by
      rintro rfl
      obtain ⟨o, _, _, h1, _⟩ := F₂.ns
      rw [hD₃] at h1; (first | exact ff h1 | exact nn h1 | exact ns h1 | exact tf h1 | exact ln h1 | exact lc h1 | cases h1)
    have N₃ : News (hideAll s.heap [e]) L h₃ [(e, excObj B.GF t₂ (some D)), (D, dictOf [⟨hs, .str "message" tk', msg⟩] 1)] := by
      intro p hp
      simp only [List.mem_cons, List.not_mem_nil, or_false] at hp
      rcases hp with rfl | rfl
      · exact ⟨he₃, eL, ge⟩
      · exact ⟨hDo, DL, gD⟩
    have I₃ : InstAt h₃ e (excObj B.GF t₂ (some D)) B.GF (some (dictOf [⟨hs, .str "message" tk', msg⟩] 1)) := ⟨he₃, rfl, rfl, hDo⟩
    refine wpAny_execs_cons (plainObj_wpAny_Assign_Attribute (nm O' F₃ (isLc_is hl3) rfl (nm O' F₃ (isLc_is hl1) rfl ?_)))
    refine set_plain (ox := excObj B.GF t₂ (some D)) (od := some (dictOf [⟨hs, .str "message" tk', msg⟩] 1)) (O'.X.keeps F₃.keep) I₃ FK.sa ?_
    refine set_second (ox := excObj B.GF t₂ (some D)) (vs := _) (D := D) (O'.X.keeps F₃.keep) he₃ rfl rfl rfl hDo ⟨_, _, rfl⟩ FK.po FK.t2 FK.hd fun h₄ hk₄ => ?_
    refine wpAny_execs_nil (h _ t₂ D (fun b o q ne => ?_) (hk₄ _ _ he₃ eD) (ho.trans ⟨rfl, rfl, rfl⟩))
    have gb : (hideAll s.heap [e]).get? b = some o := hideAll_get _ q (by simpa using ne)
    exact hk₄ _ _ (F₃.keep b o gb) (by rintro rfl; rw [gD] at gb; (first | exact ff gb | exact nn gb | exact ns gb | exact tf gb | exact ln gb | exact lc gb | cases gb))
end
end Mine

namespace Mine

section
variable {M : Model} {A : Around} {E : Value → Shared → Prop} {env : Env}
variable {nm q : Str} {C N : Addr} {bs bm : List Value} {hdct : Bool} {sn : List Str} {sub : List Value} {ab : Bool} {col : Option Bool} {dd : Option Addr} {k0 k1 k2 k3 k5 : Option Value} {newId : String}
theorem x_raise {s : Shared} {x : Sem Value} {Q : Flow → Shared → Prop} {C : Addr} (hh : A.handled = none)
    (h : wpAny M A x (fun v s₁ => ∃ e t D o, v = .ref e ∧ s₁.heap.get? C = some o ∧ isExcCls C o ∧
      s₁.heap.get? e = some (excObj C t D) ∧ E (.ref e) s₁) E s) :
    wpAny M A (raiseStmt env (some x) none) Q E s := by
  unfold raiseStmt
  refine wpAny_bind (wpAny_mono h (fun v s₁ h₁ => ?_) fun _ _ x => x)
  obtain ⟨e, t, D, o, rfl, hC, ho, he, hE⟩ := h₁
  refine exc_elim ho fun nm q N bs bm hdct sn sub ab col dd k0 k1 k2 k3 k5 eO T => ?_
  subst eO
  have hcB : (Value.ref C :: bm).contains (.type "BaseException") = true := by rw [List.contains_cons, T.hasBase, Bool.or_true]
  obtain ⟨hp, g, d, tk, os⟩ := s₁
  unfold excObj at he
  repeat (first | with_reducible refine wpAny_loadPart_at he ?_ | with_reducible refine wpAny_loadPart_at hC ?_ | (with_reducible refine wpAny_isSubtype_exc hC ?_; rw [hcB]) | wp_step)
  exact wpAny_raiseNew_none hh hE
end

theorem under_frames (A : Around) (a : Args) {l : List Env} (h : A.frames = some l) : (A.under (.builtin "type.__call__" a)).frames = some l := by
  unfold Around.under
  simp only
  rw [h]
  rfl
section
variable {B : Bs} {fr : Frm} {n : Nat} {s : Shared} {m : Str → Option Value} {ω : Wd} {i d : Nat} {hp : Heap}

/-- the fault is raised -/
theorem s_raise {E : Value → Shared → Prop} {Q : Flow → Shared → Prop} {fp fI : Addr} {p q r p1 p2 ap pos p3 p4 : Pos} {x : Str} {a1 a2 : Nat} (CK : ClsK B) (FK : FaultK B fI) (hpk : okPeek B.K fp) (M : Mt B "peek" fp) (hg : nsIn B.K mainGlobals "GrammarFault" = some (some (.ref B.GF))) (hkeep : keepIn B.K (.ref B.GF) = true)
    (hpos : ap.endLine = pos.line) (O : FrB B fr (n + 3)) (F : Fr fr.g fr.L hp m) (hC : ω.C = B.C) (W : WordsAt ω hp i d) (hl : find "self" fr.scope.names = some .local) (hm : m "self" = some (.ref ω.W)) (hgl : find "GrammarFault" fr.scope.names = some .globalImplicit)
    (h : ∀ s' e t D, Kept hp s'.heap → hp.get? e = none → s'.heap.get? e = some (excObj B.GF t D) → OutAs s s' → E (.ref e) s') (hs : s.heap = hp := by rfl) :
    wpAny (model B.prog B.w) fr.A (exec (.Raise (some (.Call (.Name "GrammarFault" p) [.Constant (.str x) a1 p1, .Subscript (.Call (.Attribute (.Name "self" p2) "peek" ap) [] [] pos) (.Constant (.int (2 : Nat)) a2 p3) p4] [] q)) none r) fr.env) Q E s := by
  subst hs
  obtain ⟨oc, hCl, hcls⟩ := FK.cls
  have hlt := W.lt
  have htok : ω.toks[i]? = some ω.toks[i] := by simp [hlt]
  obtain ⟨a, k1, k2, k3, nn, ha, hta⟩ := tok_obj W (k := ω.toks[i].1) (x := ω.toks[i].2) htok
  rw [arm_exec_Raise]
  refine wpAny_bind (wpAny_standAt (x_raise (C := B.GF) O.hh (wpAny_bind (wpAny_mono (Q := fun v s₃ => ∃ e t D o, v = .ref e ∧ s₃.heap.get? B.GF = some o ∧ isExcCls B.GF o ∧ s₃.heap.get? e = some (excObj B.GF t D) ∧ E (.ref e) s₃) (wpAny_Call_ofName (gnm O F hgl hg ?_)) (fun v s₃ h₃ => wpAny_bind (wpAny_standAt (wpAny_pure h₃))) fun _ _ x => x))))
  refine callWith_K (h₀ := fr.g) O.X hkeep (spliced_more (wpAny_Constant_str (spliced_more (Subscript_ ?_)))) rfl rfl
  refine self0 CK M (fun _ _ _ _ _ => rfl) O F hC W hl hm hpos ?_
  have pk := c_peek (s := { s with toks := s.toks + 1 }) (n := n + 2) CK hpk O F hC W (vs := [.ref ω.W]) (k := 0) (j := i) (.inl ⟨rfl, rfl⟩) (by omega) (by omega) (by omega) ha
  refine wpAny_mono pk (fun v s₂ h₂ => ?_) fun _ _ e => e.elim
  obtain ⟨rfl, hk, ho⟩ := h₂
  refine wpAny_Constant_int (item_tupleT (l := _) (k := ((2 : Nat) : Int)) (x := .int i k3) ⟨_, hk _ _ hta, rfl, nn, rfl⟩ (by omega) (by omega) (seqIndex_nat (show 2 < 5 by decide)) rfl (spliced_none ?_) rfl)
  have F₂ := frExt F hk
  have X₂ := O.X.keeps F₂.keep
  refine ⟨X₂, ?_⟩
  obtain ⟨hh, g, dr, tk, os⟩ := s₂
  refine exc_elim hcls fun nmC qq N bs bm hdct sn sub ab col dd k0 kk1 kk2 kk3 k5 eO T => ?_
  subst eO
  refine wpAny_call (x_make PySem.F.excBase_Exception T (X₂ _ _ hCl) X₂ FK.ini FK.ity ?_ (show 2 ≤ sizeLine by rw [sizeLine_eq]; decide))
  have k : Kept hh ((hh.push { cls := .type "tuple", data := .seq [Value.str x s.toks, Value.int i k3].toArray }).push (excObj B.GF hh.objs.size none)) := fun b o e => Heap.get?_push_of_some _ (Heap.get?_push_of_some _ e)
  have F₃ := frExt F₂ k
  have hsz : ∀ b o, hh.get? b = some o → b ≠ hh.objs.size + 1 := fun b o e => Nat.ne_of_lt (Nat.lt_succ_of_lt (Heap.lt_size e))
  have hen : hh.get? (hh.objs.size + 1) = none := Heap.get?_none_of_le (Nat.le_succ _)
  refine c_lend (n := n) FK O F₃ (A := fr.A.under _) (under_frames _ _ (Around.frames_deeper O.below.stack)) O.hh ?_ ?_ (t := hh.objs.size) ?_ ?_ ?_ fun s' t' D hk' he' ho' => ?_
  · rw [depth_under_make]
    have := O.room
    show fr.A₀.depth + 1 + 1 + n + 20 ≤ recursionLimit
    omega
  · have := O.units
    have hu : ∀ a, Code.cUnits (.builtin "type.__call__" a) ≤ 10 := fun a => by
      show 1 + 3 * Code.frames (.builtin "type.__call__" a) ≤ 10
      rw [show Code.frames (.builtin "type.__call__" a) = 0 from by first | rfl | simp [Code.frames, Code.isFrame]]; decide
    have hu := hu ⟨Value.ref B.GF :: ([] ++ [Value.str x s.toks, Value.int i k3]), []⟩
    show fr.A₀.units + 3 + Code.cUnits (.builtin "type.__call__" ⟨Value.ref B.GF :: ([] ++ [Value.str x s.toks, Value.int i k3]), []⟩) + 10 * (n + 20) ≤ cLine
    omega
  · heap_get
  · cases q : fr.g.get? (hh.objs.size + 1) with
    | none => rfl
    | some o => have := F₂.keep _ _ q; rw [hen] at this; (first | exact ff this | exact nn this | exact ns this | exact tf this | exact ln this | exact lc this | cases this)
  · rintro q
    obtain ⟨o, _, _, h1, _⟩ := F₂.ns
    exact hsz _ _ h1 q.symm
  · refine ⟨rfl, ?_⟩
    refine ⟨hh.objs.size + 1, t', some D, _, rfl, hk' _ _ (k _ _ (X₂ _ _ hCl)) ?_, hcls, he', h s' _ t' (some D) (fun b o e => hk' b o (k _ _ (hk _ _ e)) (hsz _ _ (hk _ _ e))) ?_ he' (ho.trans ho')⟩
    · have := X₂ _ _ hCl
      exact hsz _ _ this
    · cases q : s.heap.get? (hh.objs.size + 1) with
      | none => rfl
      | some o => have := hk _ _ q; rw [hen] at this; (first | exact ff this | exact nn this | exact ns this | exact tf this | exact ln this | exact lc this | cases this)
end
end Mine

namespace Mine

noncomputable section
noncomputable def deeperT (w : Ws) : List Stmt := [.AugAssign (.Attribute (.Name "self" (wp w 0)) "deep" (wp w 1)) .Add (.Constant (.int (1 : Nat)) (wn w 2) (wp w 3)) (wp w 4), .If (.Compare (.Attribute (.Name "self" (wp w 5)) "deep" (wp w 6)) [.Gt] [.Name "MOST_DEEP" (wp w 7)] (wp w 8)) [.Raise (some (.Call (.Name "GrammarFault" (wp w 9)) [.Constant (.str (wx w 12)) (wn w 10) (wp w 11), .Subscript (.Call (.Attribute (.Name "self" (wp w 13)) "peek" (wp w 14)) [] [] (wp w 15)) (.Constant (.int (2 : Nat)) (wn w 16) (wp w 17)) (wp w 18)] [] (wp w 19))) none (wp w 20)] [] (wp w 21)]
noncomputable def deeperS (fd : FuncData) (w : Ws) : Bool := noDf fd && (isLc fd "self" && (isGl fd "MOST_DEEP" && (isGl fd "GrammarFault" && oneLine w 14 15)))
noncomputable def okDeeper (K : Frag) (f : Addr) : Prop := Txt K f ["self"] deeperT deeperS

section
variable {B : Bs} {fr : Frm} {n : Nat} {s : Shared} {m : Str → Option Value} {ω : Wd} {i d : Nat} {hp : Heap}

theorem c_deeper (CK : ClsK B) {f fp fI : Addr} {tM : PySem.Tok} (FK : FaultK B fI) (hf : okDeeper B.K f) (hpk : okPeek B.K fp) (M : Mt B "peek" fp) (hg : nsIn B.K mainGlobals "GrammarFault" = some (some (.ref B.GF))) (hkeep : keepIn B.K (.ref B.GF) = true)
    (hM : nsIn B.K mainGlobals "MOST_DEEP" = some (some (.int 60 tM)))
    (O : FrB B fr (n + 4)) (F : Fr fr.g fr.L s.heap m) (hD0 : fr.g.get? ω.D = none) (hDL0 : ω.D ≠ fr.L) (hC : ω.C = B.C) (hR : ω.R ≠ ω.D) (W : WordsAt ω s.heap i d) :
    wpAny (model B.prog B.w) fr.A (call (.ref f) [.ref ω.W]) (fun v s' => v = .none ∧ d + 1 ≤ 60 ∧ KeepsBut ω.D s.heap s'.heap ∧ WordsAt ω s'.heap i (d + 1) ∧ OutAs s s') (fun x s' => 60 < d + 1 ∧ FliesTo B fr s x s') s := by
  obtain ⟨fd, w, hdef, hS⟩ := hf
  obtain ⟨hnd, hS⟩ := and_b hS
  obtain ⟨hl1, hS⟩ := and_b hS
  obtain ⟨hgM, hS⟩ := and_b hS
  obtain ⟨hgF, hpos⟩ := and_b hS
  obtain ⟨q1, q2, q3, q4, q5⟩ := defOf_is hdef
  obtain ⟨ti, td, hD⟩ := W.dict
  refine enter O F [ω.D] (by intro a h; simp only [List.mem_singleton] at h; subst h; exact ⟨hD0, hDL0⟩) q1 q2 q3 (bind1 q2 q4 (noDf_is hnd)) (show (["self"] : List Str).Nodup by decide) q5 fun L s₁ hL hkk ho O' F' => ?_
  have hDL : ω.D ≠ L := by rintro rfl; rw [hD] at hL; (first | exact ff hL | exact nn hL | exact ns hL | exact tf hL | exact ln hL | exact lc hL | cases hL)
  have gD : (hideAll s.heap [ω.D]).get? ω.D = none := hideAll_none _ (.head _)
  refine wpAny_execs_cons (aug_deep CK O' F' hC (W.ext hkk) (isLc_is hl1) rfl gD hDL fun h₃ tk₃ t₃ td₃ F₃ hD₃ => ?_)
  have W₃ := W_now W hR F₃ hD₃ W.lt
  refine wpAny_execs_cons (wpAny_If (wpAny_isTrue_Compare1 (rd_deep CK O' F₃ hC W₃ (isLc_is hl1) rfl fun t4 => gnm O' F₃ (isGl_is hgM) hM (PyProof.Rows.gt_int (wpAny_truthy_bool ?_))) rfl))
  by_cases hdd : 60 < d + 1
  · rw [show decide ((60 : Int) < ((d + 1 : Nat) : Int)) = true by simp; omega]
    simp only [if_true]
    refine wpAny_execs_cons (s_raise CK FK hpk M hg hkeep (oneLine_is hpos) O' F₃ hC W₃ (isLc_is hl1) rfl (isGl_is hgF) fun s₅ e t D hk₅ hen he₅ ho₅ => ?_)
    have F₅ := frExt F₃ hk₅
    have B₅ := O'.below.push (name := fd.qualname) (scope := fd.scope) (a := f) (cd := fd.code) F₅ O'.kind
    have hbs : fr.base.StaysIn h₃ := fun b o q => F₃.keep b o (O'.below.stays b o q)
    refine wpAny_leaving_firstW (base := fr.base) (outer := fr.env :: fr.outer) (a0 := .ref t) (Around.frames_deeper O'.below.stack) B₅.frames rfl he₅ (fun b o q => hk₅ b o (hbs b o q)) (fresh_of_stays hbs hen) rfl rfl rfl fun h' hL' => ?_
    obtain ⟨k1, ⟨_, _, k2⟩, k3, k4⟩ := hL'
    refine ⟨hdd, e, .ref t, rfl, .inl ⟨k1, fresh_of_stays hbs hen, k2, k3⟩, ?_, ho.trans (OutAs.trans ⟨rfl, rfl, rfl⟩ (ho₅.trans ⟨rfl, rfl, rfl⟩))⟩
    have keep : Kept fr.g s₅.heap := fun b o q => hk₅ b o (F₃.keep b o (hideAll_get _ (F.keep b o q) (by intro z; simp only [List.mem_singleton] at z; subst z; rw [hD0] at q; (first | exact ff q | exact nn q | exact ns q | exact tf q | exact ln q | exact lc q | cases q))))
    exact (Heap.UpToSlots.of_keeps keep).trans k4
  · rw [show decide ((60 : Int) < ((d + 1 : Nat) : Int)) = false by simp; omega]
    simp only [Bool.false_eq_true, if_false]
    refine wpAny_execs_nil (wpAny_execs_nil ?_)
    exact ⟨rfl, by omega, K_now F₃, W₃, ho.trans ⟨rfl, rfl, rfl⟩⟩
end
end
end Mine

namespace Mine

structure MethK (B : Bs) : Prop where
  CK : ClsK B
  FK : ∃ fI, FaultK B fI
  peek : ∃ f, Mt B "peek" f ∧ okPeek B.K f
  looks : ∃ f, Mt B "looks" f ∧ okLooks B.K f
  take : ∃ f, Mt B "take" f ∧ okTake B.K f
  expect : ∃ f, Mt B "expect" f ∧ okExpect B.K f
  name : ∃ f, Mt B "name" f ∧ okName B.K f
  deeper : ∃ f, Mt B "deeper" f ∧ okDeeper B.K f
  shallower : ∃ f, Mt B "shallower" f ∧ okShallower B.K f
  gf : nsIn B.K mainGlobals "GrammarFault" = some (some (.ref B.GF))
  gk : keepIn B.K (.ref B.GF) = true
  md : ∃ t, nsIn B.K mainGlobals "MOST_DEEP" = some (some (.int 60 t))
  lev : ∀ d, nsIn B.K mainGlobals "LEVELS" = some (some (.ref d)) → ∃ es n, B.K.lookup d = some ⟨.type "dict", none, .dict es n, #[]⟩ ∧ KeysLit B.w.params es.toList ∧ (d == sysModules) = false

theorem nthTok_at {ρ : Rho} {t : Wo} {rest : List TK} : ∀ {n : Nat} {l : List (Str × Str)}, Match ρ rest l → nthTok rest n = some t → ∃ x, l[n]? = some (t.kind, x) ∧ x ∈ t.texts := by
  induction rest with
  | nil =>
    intro n l _ h
    cases n with
    | zero => exact nn h
    | succ n => exact nn h
  | cons c r ih =>
    intro n l M h
    cases c with
    | tok t' =>
      obtain ⟨x, l', rfl, hx, M'⟩ := M.inv
      cases n with
      | zero => rw [← Option.some.inj h]; exact ⟨x, rfl, hx⟩
      | succ n =>
        have := ih (n := n) M' h
        exact this
    | hole blk t' =>
      cases n with
      | zero =>
        obtain ⟨x, i, l', _, rfl, hi, hx, _⟩ := M.inv
        rw [← Option.some.inj h, hi]
        exact ⟨x, rfl, hx⟩
      | succ n => exact nn h
theorem drop_at {α : Type} {l : List α} {i j : Nat} {a : α} (h : (l.drop i)[j]? = some a) : l[i + j]? = some a := by rwa [List.getElem?_drop] at h
theorem drop_cons {α : Type} {l r : List α} {i : Nat} {a : α} (h : l.drop i = a :: r) : l[i]? = some a ∧ l.drop (i + 1) = r := by
  constructor
  · have := drop_at (l := l) (i := i) (j := 0) (a := a) (by rw [h]; rfl)
    simpa using this
  · rw [← List.drop_drop, h]; rfl
theorem tok_end {ρ : Rho} {t : Wo} {r : List TK} {l : List (Str × Str)} (M : Match ρ (.tok t :: r) l) : ∃ x l', l = (t.kind, x) :: l' ∧ x ∈ t.texts ∧ Match ρ r l' := M.inv
section
variable {G : Gl} {fr : Frm} {kp : Kp} {cx : Cx} {st : St} {s s' : Shared} {ads : List Addr} {ω : Wd} {i : Nat} {m : Str → Option Value}

theorem Core.keeps {ρ : Rho} (x : Core ρ kp st s ads) (k : Kept s.heap s'.heap) (o : OutAs s s') : Core ρ kp st s' ads := by
  refine ⟨x.lists.mono (Later.ext k) fun a _ o e => k a o e, fun ω e => ?_, fun S e => (x.src S e).mono fun o q => k _ _ q,
    fun b o hp => ⟨k _ _ (x.kept b o hp).1, (x.kept b o hp).2⟩, x.apart, x.lv, o.1.trans x.out.1, o.2.1.trans x.out.2.1, o.2.2.trans x.out.2.2⟩
  obtain ⟨i, W, r⟩ := x.words ω e
  exact ⟨i, W.ext k, r⟩

theorem tok_rep {ρ : Rho} {d : Nat} {h : Heap} {j : Nat} {t : Wo} {x : Str} {a : Addr} (W : WordsAt ω h i d) (ht : ω.toks[j]? = some (t.kind, x)) (hx : x ∈ t.texts) (ha : ω.tvs[j]? = some a) : RepV ρ ads h (.ref a) (tokAV t) := by
  obtain ⟨k1, k2, k3, n, e⟩ := W.tok j _ a ht ha
  exact .tup e rfl (RepVs.cons (.str _ (.head _)) (.cons (.str _ hx) (.cons (.num _ _) (.cons .none (.cons .none .nil))))).at
/-- one word is gone past -/
theorem Core.step {ρ : Rho} (C : Core ρ (AllBut ρ s ads) st s ads) (hω : ρ.wd = some ω) {t : Wo} {r : List TK} {x : Str} {l' : List (Str × Str)} (hd : ω.toks.drop i = (t.kind, x) :: l') (hx : x ∈ t.texts) (M : Match ρ r l') (nR : ω.R ∉ muts ρ ads) {o₀ : Obj} (h₀ : s.heap.get? ω.D = some o₀) (hT : o₀.cls ≠ .type "tuple")
    (hk : KeepsBut ω.D s.heap s'.heap) (W' : WordsAt ω s'.heap (i + 1) (ρ.d0 + st.ws.lvl)) (ho : OutAs s s') :
    Core ρ (AllBut ρ s ads) ⟨st.loc, st.lists, { st.ws with prev := some t, rest := r }⟩ s' ads ∧ Later ads s.heap ads s'.heap := by
  refine C.but1 (st' := ⟨st.loc, st.lists, { st.ws with prev := some t, rest := r }⟩) (mem_wd hω) (wd_out C.apart hω) h₀ hT hk rfl (fun ω' e => ?_) (fun S e => (C.src S e).mono fun o q => hk S o q (wd_src C.apart hω e)) C.lv ⟨ho.1.trans C.out.1, ho.2.1.trans C.out.2.1, ho.2.2.trans C.out.2.2⟩
  rw [← Option.some.inj (hω.symm.trans e)]
  obtain ⟨h1, h2⟩ := drop_cons hd
  refine ⟨i + 1, W', by rw [h2]; exact M, fun t' e => ?_, nR⟩
  rw [← Option.some.inj e]
  exact ⟨x, Nat.succ_pos i, h1, hx⟩
theorem dict_notT {ω : Wd} {i d : Nat} {ti td : PySem.Tok} : (ω.dict i ti d td).cls ≠ .type "tuple" := show Value.type "dict" ≠ Value.type "tuple" by decide

theorem took_is {ws : WS} {p : Wo × WS} : took ws = some p → ∃ r, ws.rest = .tok p.1 :: r ∧ p.1.kind ≠ Str.ofString "end" ∧ p.2 = { ws with prev := some p.1, rest := r } := by
  unfold took
  rcases ws.rest with _ | ⟨t, r⟩
  · exact fun h => nn h
  · cases t with
    | hole _ _ => exact fun h => nn h
    | tok t =>
      show (match eqS t.kind (Str.ofString "end") with | true => none | false => some (t, ({ ws with prev := some t, rest := r } : WS))) = some p → _
      cases hk : eqS t.kind (Str.ofString "end") with
      | true => exact fun h => nn h
      | false => exact fun h => by rw [← Option.some.inj h]; exact ⟨r, rfl, eqS_false.mp hk, rfl⟩

theorem looksA_is {rest : List TK} {y : Str} {n : Nat} {b : Bool} : looksA rest y n = some b → ∃ t, nthTok rest n = some t ∧ ((inS t.kind kinds = true ∧ sameOne t.texts [y] = some b) ∨ (inS t.kind kinds = false ∧ b = false)) := by
  unfold looksA
  cases nthTok rest n with
  | none => exact fun h => nn h
  | some t =>
    show (match inS t.kind kinds with | true => sameOne t.texts [y] | false => some false) = some b → _
    cases hk : inS t.kind kinds with
    | true => exact fun h => ⟨t, rfl, .inl ⟨hk, h⟩⟩
    | false => exact fun h => ⟨t, rfl, .inr ⟨hk, (Option.some.inj h).symm⟩⟩
theorem looksA_val {rest : List TK} {y x : Str} {n : Nat} {b : Bool} {t : Wo} (h : (inS t.kind kinds = true ∧ sameOne t.texts [y] = some b) ∨ (inS t.kind kinds = false ∧ b = false)) (hx : x ∈ t.texts) : (inS t.kind kinds && (x == y)) = b := by
  rcases h with ⟨h1, h2⟩ | ⟨h1, rfl⟩
  · rw [h1, Bool.true_and]; exact (sameOne_is h2 x hx y (by simp))
  · rw [h1]; rfl

theorem FrmOk.sub (O : FrmOk G fr cx) {k : Nat} (h : k ≤ G.ρ.sz) : FrB G.bs fr (G.ρ.sz - k + k) := (Nat.sub_add_cancel h).symm ▸ O.frB
theorem isM1_is {v : AV} (h : isM1 v = true) : v = .int (Int.negSucc 0) := by
  cases v with
  | int i => cases i with
    | ofNat n => exact ff h
    | negSucc n => cases n with
      | zero => rfl
      | succ n => exact ff h
  | _ => exact ff h
theorem peek_to (MK : MethK G.bs) (h4 : 4 ≤ G.ρ.sz) (O : FrmOk G fr cx) (F : Fr fr.g fr.L s.heap m) (C : Core G.ρ (AllBut G.ρ s ads) st s ads) (hC : ω.C = G.cf.C) {f : Addr} (hf : okPeek G.cf.K f) {d j : Nat} {x : Str} {t : Wo} {kk : Int} {vs : List Value} {k : KV}
    (W : WordsAt ω s.heap i d) (hv : (vs = [.ref ω.W] ∧ kk = 0) ∨ ∃ t, vs = [.ref ω.W, .int kk t]) (h0 : (i : Int) + kk = j) (h1 : kk ≤ 1000000) (hx : ω.toks[j]? = some (t.kind, x)) (hxt : x ∈ t.texts) (h : k (tokAV t) st = true) :
    wpAny (model G.prog G.w) fr.A (call (.ref f) vs) (PostC G.ρ st.loc s ads k) (Exc G fr) s := by
  obtain ⟨a, k1, k2, k3, nn, ha, hta⟩ := tok_obj W hx
  have hlen := (List.getElem?_eq_some_iff.mp hx).1
  refine wpAny_mono (c_peek (n := G.ρ.sz - 1) MK.CK hf (O.sub (Nat.le_trans (by decide) h4)) F hC W (k := kk) (j := j) hv (by omega) h1 (by omega) ha) (fun v s' q => ?_) fun _ _ e => e.elim
  rw [q.1]
  exact ⟨tokAV t, st, ads, tok_rep (W.ext q.2.1) hx hxt ha, C.keeps q.2.1 q.2.2, Later.ext q.2.1, rfl, h⟩
theorem m_peek (MK : MethK G.bs) (h4 : 4 ≤ G.ρ.sz) (O : FrmOk G fr cx) (F : Fr fr.g fr.L s.heap m) (C : Core G.ρ (AllBut G.ρ s ads) st s ads) (hω : G.ρ.wd = some ω) (hC : ω.C = G.cf.C) {f : Addr} (hf : okPeek G.cf.K f)
    {vs : List Value} {xs : List AV} {k : KV} (r : RepVs G.ρ ads s.heap vs xs) (h : mPeek xs st k = true) :
    wpAny (model G.prog G.w) fr.A (call (.ref f) (.ref ω.W :: vs)) (PostC G.ρ st.loc s ads k) (Exc G fr) s := by
  obtain ⟨i, W, M, hp, nR⟩ := C.words ω hω
  cases xs with
  | nil =>
    rw [r.nil_inv]
    refine onS_el (o := nthTok st.ws.rest 0) h fun t ht h => ?_
    obtain ⟨x, hx, hxt⟩ := nthTok_at M ht
    exact peek_to MK h4 O F C hC hf W (.inl ⟨rfl, rfl⟩) (Int.add_zero _) (by decide) (drop_at hx) hxt h
  | cons v r' =>
    obtain ⟨u, ws, rfl, r0, rs⟩ := r.cons_inv
    refine and_el h fun hn h => and_el h fun hv h => onS_el h fun t ht h => ?_
    rw [nil_is hn] at rs
    rw [isM1_is hv] at r0
    rw [rs.nil_inv]
    obtain ⟨tk, rfl⟩ := r0.int_inv
    obtain ⟨x, hi, hx, hxt⟩ := hp t ht
    exact peek_to MK h4 O F C hC hf W (.inr ⟨tk, rfl⟩) (by omega) (by decide) hx hxt h

theorem looks_to (MK : MethK G.bs) (h4 : 4 ≤ G.ρ.sz) (O : FrmOk G fr cx) (F : Fr fr.g fr.L s.heap m) (C : Core G.ρ (AllBut G.ρ s ads) st s ads) (hω : G.ρ.wd = some ω) (hC : ω.C = G.cf.C) {f : Addr} (hf : okLooks G.cf.K f) {y : Str} {n : Nat} {ty : PySem.Tok} {vs : List Value} {k : KV}
    (hv : (vs = [.ref ω.W, .str y ty] ∧ n = 0) ∨ ∃ t, vs = [.ref ω.W, .str y ty, .int n t]) (h : mLooksN y n st k = true) :
    wpAny (model G.prog G.w) fr.A (call (.ref f) vs) (PostC G.ρ st.loc s ads k) (Exc G fr) s := by
  obtain ⟨i, W, M, hp, nR⟩ := C.words ω hω
  obtain ⟨fp, Mp, hpk⟩ := MK.peek
  refine onS_el h fun b hb h => ?_
  obtain ⟨t, ht, hv'⟩ := looksA_is hb
  obtain ⟨x, hx, hxt⟩ := nthTok_at M ht
  have hlen := (List.getElem?_eq_some_iff.mp (drop_at hx)).1
  have hn : n ≤ 1000000 := by have := W.small.1; omega
  refine wpAny_mono (c_looks (n := G.ρ.sz - 2) MK.CK hf hpk Mp (O.sub (Nat.le_trans (by decide) h4)) F hC W (a := n) hv hn (drop_at hx)) (fun v s' q => ?_) fun _ _ e => e.elim
  rw [q.1, looksA_val (rest := st.ws.rest) (n := 0) hv' hxt]
  exact ⟨.bool b, st, ads, .bool b, C.keeps q.2.1 q.2.2, Later.ext q.2.1, rfl, h⟩
theorem m_looks (MK : MethK G.bs) (h4 : 4 ≤ G.ρ.sz) (O : FrmOk G fr cx) (F : Fr fr.g fr.L s.heap m) (C : Core G.ρ (AllBut G.ρ s ads) st s ads) (hω : G.ρ.wd = some ω) (hC : ω.C = G.cf.C) {f : Addr} (hf : okLooks G.cf.K f)
    {vs : List Value} {xs : List AV} {k : KV} (r : RepVs G.ρ ads s.heap vs xs) (h : mLooks xs st k = true) :
    wpAny (model G.prog G.w) fr.A (call (.ref f) (.ref ω.W :: vs)) (PostC G.ρ st.loc s ads k) (Exc G fr) s := by
  cases xs with
  | nil => exact ff h
  | cons v r' =>
    obtain ⟨u, ws, rfl, r0, rs⟩ := r.cons_inv
    apply R_str1 r0 h
    intro y ty h
    cases r' with
    | nil =>
      rw [rs.nil_inv]
      exact looks_to MK h4 O F C hω hC hf (.inl ⟨rfl, rfl⟩) h
    | cons w z =>
      obtain ⟨u2, ws2, rfl, r1, rs⟩ := rs.cons_inv
      obtain ⟨hz, h⟩ := and_b h
      rw [nil_is hz] at rs
      rw [rs.nil_inv]
      apply R_nat r1 h
      exact fun n t h => looks_to MK h4 O F C hω hC hf (.inr ⟨t, rfl⟩) h
end
end Mine

namespace Mine
section
variable {G : Gl} {fr : Frm} {kp : Kp} {cx : Cx} {st : St} {s s' : Shared} {ads : List Addr} {ω : Wd} {i : Nat} {m : Str → Option Value}

theorem R_ne {ρ : Rho} (hω : ρ.wd = some ω) (nR : ω.R ∉ muts ρ ads) : ω.R ≠ ω.D := by rintro q; rw [q] at nR; exact nR (mem_wd hω)

theorem m_take (MK : MethK G.bs) (h4 : 4 ≤ G.ρ.sz) (O : FrmOk G fr cx) (F : Fr fr.g fr.L s.heap m) (new : ∀ a ∈ muts G.ρ ads, fr.g.get? a = none ∧ a ≠ fr.L) (C : Core G.ρ (AllBut G.ρ s ads) st s ads) (hω : G.ρ.wd = some ω) (hC : ω.C = G.cf.C) {f : Addr} (hf : okTake G.cf.K f)
    {vs : List Value} {xs : List AV} {k : KV} (r : RepVs G.ρ ads s.heap vs xs) (h : mTake xs st k = true) :
    wpAny (model G.prog G.w) fr.A (call (.ref f) (.ref ω.W :: vs)) (PostC G.ρ st.loc s ads k) (Exc G fr) s := by
  refine and_el h fun hn h => onS_el h fun p ht h => ?_
  rw [nil_is hn] at r
  rw [r.nil_inv]
  obtain ⟨i, W, M, hp, nR⟩ := C.words ω hω
  obtain ⟨fp, Mp, hpk⟩ := MK.peek
  obtain ⟨rr, hr, hk, hp2⟩ := took_is ht
  rw [hr] at M
  rw [hp2] at h
  obtain ⟨x, l', hd, hx, M'⟩ := tok_end M
  have hti := (drop_cons hd).1
  obtain ⟨ti, td, hD⟩ := W.dict
  obtain ⟨n1, n2⟩ := new _ (mem_wd hω)
  refine wpAny_mono (c_take (n := G.ρ.sz - 2) MK.CK hf hpk Mp (O.sub (Nat.le_trans (by decide) h4)) F n1 n2 hC (R_ne hω nR) W hti hk) (fun v s' q => ?_) fun _ _ e => e.elim
  obtain ⟨⟨a, ha, rfl⟩, hkb, W', ho⟩ := q
  obtain ⟨C', l⟩ := C.step hω hd hx M' nR hD dict_notT hkb W' ho
  exact ⟨tokAV p.1, _, ads, tok_rep W' hti hx ha, C', l, rfl, h⟩

theorem m_expect (MK : MethK G.bs) (h4 : 4 ≤ G.ρ.sz) (O : FrmOk G fr cx) (F : Fr fr.g fr.L s.heap m) (new : ∀ a ∈ muts G.ρ ads, fr.g.get? a = none ∧ a ≠ fr.L) (C : Core G.ρ (AllBut G.ρ s ads) st s ads) (hω : G.ρ.wd = some ω) (hC : ω.C = G.cf.C) {f : Addr} (hf : okExpect G.cf.K f)
    {vs : List Value} {xs : List AV} {k : KV} (r : RepVs G.ρ ads s.heap vs xs) (h : mExpect xs st k = true) :
    wpAny (model G.prog G.w) fr.A (call (.ref f) (.ref ω.W :: vs)) (PostC G.ρ st.loc s ads k) (Exc G fr) s := by
  apply Rs_one r h
  intro v0 x0 r0 h
  apply R_str1 r0 h
  intro yv ty h
  refine onS_el h fun b hb h => and_el h fun hbt h => onS_el h fun p htk' h => ?_
  obtain ⟨i, W, M, hp, nR⟩ := C.words ω hω
  obtain ⟨fp, Mp, hpk⟩ := MK.peek
  obtain ⟨fl, Ml, hlk⟩ := MK.looks
  obtain ⟨ft, Mt', htk⟩ := MK.take
  obtain ⟨t, ht, hv⟩ := looksA_is hb
  obtain ⟨rr, hr, hk, hp2⟩ := took_is htk'
  rw [hr] at M ht
  rw [hp2] at h
  obtain ⟨x, l', hd, hx, M'⟩ := tok_end M
  have hti := (drop_cons hd).1
  obtain ⟨ti, td, hD⟩ := W.dict
  obtain ⟨n1, n2⟩ := new _ (mem_wd hω)
  rw [← Option.some.inj ht, hbt] at hv
  rcases hv with ⟨h1, h2⟩ | ⟨_, h2⟩
  · have hxy : x = yv := eq_of_beq (sameOne_is h2 x hx yv (.head _))
    rw [hxy] at hti
    refine wpAny_mono (c_expect (n := G.ρ.sz - 3) MK.CK hf hlk htk hpk Ml Mt' Mp (O.sub (Nat.le_trans (by decide) h4)) F n1 n2 hC (R_ne hω nR) W hti h1) (fun v s' q => ?_) fun _ _ e => e.elim
    obtain ⟨⟨a, ha, rfl⟩, hkb, W', ho⟩ := q
    obtain ⟨C', l⟩ := C.step hω hd hx M' nR hD dict_notT hkb W' ho
    exact ⟨tokAV p.1, _, ads, tok_rep W' hti (hxy ▸ hx) ha, C', l, rfl, h⟩
  · exact tf h2

theorem kwds_is {cf : Cf} {kw : List Str} : kwds cf = some kw → ∃ Kw kl, nsIn cf.K mainGlobals "KEYWORDS" = some (some Kw) ∧ litV cf.K litD Kw = some (.tup kl) ∧ allStr kl = some kw := by
  unfold kwds globA
  show (match (match nsIn cf.K mainGlobals "KEYWORDS" with | some (some v) => litV cf.K litD v | _ => none) with | some (.tup l) => allStr l | _ => none) = some kw → _
  rcases nsIn cf.K mainGlobals "KEYWORDS" with _ | _ | Kw
  · exact fun h => nn h
  · exact fun h => nn h
  · show (match litV cf.K litD Kw with | some (.tup l) => allStr l | _ => none) = some kw → _
    cases hl : litV cf.K litD Kw with
    | none => exact fun h => nn h
    | some a =>
      cases a with
      | tup l => exact fun h => ⟨Kw, l, rfl, hl, h⟩
      | _ => exact fun h => nn h
theorem m_name (MK : MethK G.bs) (h4 : 4 ≤ G.ρ.sz) (O : FrmOk G fr cx) (F : Fr fr.g fr.L s.heap m) (new : ∀ a ∈ muts G.ρ ads, fr.g.get? a = none ∧ a ≠ fr.L) (C : Core G.ρ (AllBut G.ρ s ads) st s ads) (hω : G.ρ.wd = some ω) (hC : ω.C = G.cf.C) {f : Addr} (hf : okName G.cf.K f)
    {vs : List Value} {xs : List AV} {k : KV} (r : RepVs G.ρ ads s.heap vs xs) (h : mName G.cf xs st k = true) :
    wpAny (model G.prog G.w) fr.A (call (.ref f) (.ref ω.W :: vs)) (PostC G.ρ st.loc s ads k) (Exc G fr) s := by
  refine and_el h fun hn h => onS_el h fun p ht h => onS_el h fun kw hkw h => and_el h fun hnm h => onS_el h fun b ha h => and_el h fun hb h => ?_
  rw [nil_is hn] at r
  rw [r.nil_inv]
  obtain ⟨i, W, M, hp, nR⟩ := C.words ω hω
  obtain ⟨fp, Mp, hpk⟩ := MK.peek
  obtain ⟨rr, hr, hk, hp2⟩ := took_is ht
  rw [hr] at M
  rw [hp2] at h
  obtain ⟨x, l', hd, hx, M'⟩ := tok_end M
  have hti := (drop_cons hd).1
  obtain ⟨ti, td, hD⟩ := W.dict
  obtain ⟨n1, n2⟩ := new _ (mem_wd hω)
  have hin := (amid_true ha x hx).trans (not_b hb)
  obtain ⟨Kw, kl, hK, hg, hs⟩ := kwds_is hkw
  refine wpAny_mono (c_name (n := G.ρ.sz - 2) (x := x) MK.CK hf hpk Mp (O.sub (Nat.le_trans (by decide) h4)) F n1 n2 hC (R_ne hω nR) W (eqS_iff.mp hnm ▸ hti) hK hg hs hin) (fun v s' q => ?_) fun _ _ e => e.elim
  obtain ⟨⟨T, t1, t2, rfl, hT⟩, hkb, W', ho⟩ := q
  obtain ⟨C', l⟩ := C.step hω hd hx M' nR hD dict_notT hkb W' ho
  exact ⟨_, _, ads, .tup hT rfl (RepVs.cons (.str _ hx) (.cons (.num _ _) .nil)).at, C', l, rfl, h⟩
/-- the levels are changed -/
theorem Core.lvl {ρ : Rho} (C : Core ρ (AllBut ρ s ads) st s ads) (hω : ρ.wd = some ω) {l mp : Nat} {d : Nat} (W : WordsAt ω s.heap i d) (M : Match ρ st.ws.rest (ω.toks.drop i)) (hp : ∀ t, st.ws.prev = some t → ∃ x, 0 < i ∧ ω.toks[i - 1]? = some (t.kind, x) ∧ x ∈ t.texts) (nR : ω.R ∉ muts ρ ads)
    (hk : KeepsBut ω.D s.heap s'.heap) (W' : WordsAt ω s'.heap i (ρ.d0 + l)) (ho : OutAs s s') (hl : ρ.d0 + l ≤ 60) (hmp : ρ.d0 + mp ≤ 60) :
    Core ρ (AllBut ρ s ads) ⟨st.loc, st.lists, ⟨st.ws.prev, st.ws.rest, l, mp, st.ws.mh⟩⟩ s' ads ∧ Later ads s.heap ads s'.heap := by
  obtain ⟨ti, td, hD⟩ := W.dict
  refine C.but1 (st' := ⟨st.loc, st.lists, ⟨st.ws.prev, st.ws.rest, l, mp, st.ws.mh⟩⟩) (mem_wd hω) (wd_out C.apart hω) hD dict_notT hk rfl (fun ω' e => ?_) (fun S e => (C.src S e).mono fun o q => hk S o q (wd_src C.apart hω e)) ⟨hl, hmp, C.lv.2.2⟩ ⟨ho.1.trans C.out.1, ho.2.1.trans C.out.2.1, ho.2.2.trans C.out.2.2⟩
  rw [← Option.some.inj (hω.symm.trans e)]
  exact ⟨i, W', M, hp, nR⟩

theorem lv_max {d0 a b : Nat} (h1 : d0 + a ≤ 60) (h2 : d0 + b ≤ 60) : d0 + maxN a b ≤ 60 := by
  rcases maxN_or a b with e | e <;> rw [e] <;> assumption
theorem m_deeper (MK : MethK G.bs) (h4 : 4 ≤ G.ρ.sz) (O : FrmOk G fr cx) (F : Fr fr.g fr.L s.heap m) (new : ∀ a ∈ muts G.ρ ads, fr.g.get? a = none ∧ a ≠ fr.L) (C : Core G.ρ (AllBut G.ρ s ads) st s ads) (hω : G.ρ.wd = some ω) (hC : ω.C = G.cf.C) {f : Addr} (hf : okDeeper G.cf.K f)
    {vs : List Value} {xs : List AV} {k : KV} (r : RepVs G.ρ ads s.heap vs xs) (h : mDeeper G.cf xs st k = true) :
    wpAny (model G.prog G.w) fr.A (call (.ref f) (.ref ω.W :: vs)) (PostC G.ρ st.loc s ads k) (Exc G fr) s := by
  refine and_el h fun hn h => and_el h fun hb h => ?_
  rw [nil_is hn] at r
  rw [r.nil_inv]
  have hb := Nat.le_of_ble_eq_true hb
  obtain ⟨i, W, M, hp, nR⟩ := C.words ω hω
  obtain ⟨fp, Mp, hpk⟩ := MK.peek
  obtain ⟨fI, FK⟩ := MK.FK
  obtain ⟨tM, hM⟩ := MK.md
  obtain ⟨n1, n2⟩ := new _ (mem_wd hω)
  refine wpAny_mono (c_deeper (n := G.ρ.sz - 4) MK.CK FK hf hpk Mp MK.gf MK.gk hM (O.sub h4) F n1 n2 hC (R_ne hω nR) W) (fun v s' q => ?_) fun x s' q => ?_
  · obtain ⟨rfl, hd, hkb, W', ho⟩ := q
    obtain ⟨C', l⟩ := C.lvl hω (l := st.ws.lvl + 1) W M hp nR hkb W' ho hd (lv_max (b := st.ws.lvl + 1) C.lv.2.1 hd)
    exact ⟨.none, _, ads, .none, C', l, rfl, h⟩
  · obtain ⟨hd, e, a0, rfl, hfl, hu, ho⟩ := q
    exact ⟨.inl (Nat.lt_of_lt_of_le hd (Nat.add_le_add_left hb _)), e, a0, rfl, hfl, hu, ho.1.trans C.out.1, ho.2.1.trans C.out.2.1, ho.2.2.trans C.out.2.2⟩

theorem m_shallower (MK : MethK G.bs) (h4 : 4 ≤ G.ρ.sz) (O : FrmOk G fr cx) (F : Fr fr.g fr.L s.heap m) (new : ∀ a ∈ muts G.ρ ads, fr.g.get? a = none ∧ a ≠ fr.L) (C : Core G.ρ (AllBut G.ρ s ads) st s ads) (hω : G.ρ.wd = some ω) (hC : ω.C = G.cf.C) {f : Addr} (hf : okShallower G.cf.K f)
    {vs : List Value} {xs : List AV} {k : KV} (r : RepVs G.ρ ads s.heap vs xs) (h : mShallower xs st k = true) :
    wpAny (model G.prog G.w) fr.A (call (.ref f) (.ref ω.W :: vs)) (PostC G.ρ st.loc s ads k) (Exc G fr) s := by
  refine and_el h fun hn h => ?_
  rw [nil_is hn] at r
  rw [r.nil_inv]
  obtain ⟨i, W, M, hp, nR⟩ := C.words ω hω
  obtain ⟨n1, n2⟩ := new _ (mem_wd hω)
  have hlv := C.lv.1
  revert h W hlv
  cases st.ws.lvl with
  | zero => exact fun h => ff h
  | succ l =>
    intro h W hlv
    refine wpAny_mono (c_shallower (n := G.ρ.sz - 1) (d := G.ρ.d0 + l) MK.CK hf (O.sub (Nat.le_trans (by decide) h4)) F n1 n2 hC (R_ne hω nR) W) (fun v s' q => ?_) fun _ _ e => e.elim
    obtain ⟨rfl, hkb, W', ho⟩ := q
    obtain ⟨C', l'⟩ := C.lvl hω (l := l) W M hp nR hkb W' ho (Nat.le_of_succ_le hlv) C.lv.2.1
    exact ⟨.none, _, ads, .none, C', l', rfl, h⟩

noncomputable def nameMe : Me → Str
  | .looks => "looks"
  | .peek => "peek"
  | .take => "take"
  | .expect => "expect"
  | .name => "name"
  | .deeper => "deeper"
  | .shallower => "shallower"
  | .other => "looks"
theorem which_is (x : Str) : whichMe x = .other ∨ x = nameMe (whichMe x) := by
  unfold whichMe
  cases h1 : eqS x "looks" with
  | true => exact .inr (eqS_iff.mp h1)
  | false => cases h2 : eqS x "peek" with
    | true => exact .inr (eqS_iff.mp h2)
    | false => cases h3 : eqS x "take" with
      | true => exact .inr (eqS_iff.mp h3)
      | false => cases h4 : eqS x "expect" with
        | true => exact .inr (eqS_iff.mp h4)
        | false => cases h5 : eqS x "name" with
          | true => exact .inr (eqS_iff.mp h5)
          | false => cases h6 : eqS x "deeper" with
            | true => exact .inr (eqS_iff.mp h6)
            | false => cases h7 : eqS x "shallower" with
              | true => exact .inr (eqS_iff.mp h7)
              | false => exact .inl rfl

/-- what a method of the words is asked -/
noncomputable def FnOk (G : Gl) (ω : Wd) (x : Str) : Prop := ∃ f, findIn G.cf.K (.ref ω.C) x = some (some (.ref f)) ∧ typeIn G.cf.K (.ref f) = some (.type "function") ∧ keepIn G.cf.K (.ref f) = true ∧
    (∀ (i : Nat) ti (d : Nat) td, shadowIn (some (ω.dict i ti d td)) x = some false) ∧
    ∀ {fr cx st s ads vs xs k} {mm : Str → Option Value}, meth G.cf x xs st k = true → FrmOk G fr cx → Fr fr.g fr.L s.heap mm → (∀ a ∈ muts G.ρ ads, fr.g.get? a = none ∧ a ≠ fr.L) →
      Core G.ρ (AllBut G.ρ s ads) st s ads → RepVs G.ρ ads s.heap vs xs →
      wpAny (model G.prog G.w) fr.A (call (.ref f) (.ref ω.W :: vs)) (PostC G.ρ st.loc s ads k) (Exc G fr) s
theorem fn_ok {x : Str} {f : Addr} {me : Me} (hC : ω.C = G.cf.C) (M : Mt G.bs x f) (hw : whichMe x = me) (sh : ∀ (i : Nat) ti (d : Nat) td, shadowIn (some (ω.dict i ti d td)) x = some false)
    (k : ∀ {fr cx st s ads vs xs k} {mm : Str → Option Value}, (match me with | .looks => mLooks xs st k | .peek => mPeek xs st k | .take => mTake xs st k | .expect => mExpect xs st k | .name => mName G.cf xs st k | .deeper => mDeeper G.cf xs st k | .shallower => mShallower xs st k | .other => false) = true →
      FrmOk G fr cx → Fr fr.g fr.L s.heap mm → (∀ a ∈ muts G.ρ ads, fr.g.get? a = none ∧ a ≠ fr.L) → Core G.ρ (AllBut G.ρ s ads) st s ads → RepVs G.ρ ads s.heap vs xs →
      wpAny (model G.prog G.w) fr.A (call (.ref f) (.ref ω.W :: vs)) (PostC G.ρ st.loc s ads k) (Exc G fr) s) : FnOk G ω x := by
  subst hw
  exact ⟨f, hC ▸ M.find, M.type, M.keep, sh, k⟩
theorem methHyp (MK : MethK G.bs) (h4 : 4 ≤ G.ρ.sz) (hcls : ∀ ω, G.ρ.wd = some ω → ω.C = G.cf.C) : MethHyp G := by
  refine ⟨fun ω hω => by rw [hcls ω hω]; exact ⟨MK.CK.ga, MK.CK.gb⟩, fun ω x hω hx => ?_, fun d hd => MK.lev d (globRef_is hd)⟩
  have hC := hcls ω hω
  show FnOk G ω x
  rcases which_is x with h | h
  · exact (hx h).elim
  revert h
  cases hw : whichMe x with
  | looks =>
    rintro rfl
    obtain ⟨f, M, hf⟩ := MK.looks
    exact fn_ok hC M hw (fun _ _ _ _ => rfl) fun h O F new C r => m_looks MK h4 O F C hω hC hf r h
  | peek =>
    rintro rfl
    obtain ⟨f, M, hf⟩ := MK.peek
    exact fn_ok hC M hw (fun _ _ _ _ => rfl) fun h O F new C r => m_peek MK h4 O F C hω hC hf r h
  | take =>
    rintro rfl
    obtain ⟨f, M, hf⟩ := MK.take
    exact fn_ok hC M hw (fun _ _ _ _ => rfl) fun h O F new C r => m_take MK h4 O F new C hω hC hf r h
  | expect =>
    rintro rfl
    obtain ⟨f, M, hf⟩ := MK.expect
    exact fn_ok hC M hw (fun _ _ _ _ => rfl) fun h O F new C r => m_expect MK h4 O F new C hω hC hf r h
  | name =>
    rintro rfl
    obtain ⟨f, M, hf⟩ := MK.name
    exact fn_ok hC M hw (fun _ _ _ _ => rfl) fun h O F new C r => m_name MK h4 O F new C hω hC hf r h
  | deeper =>
    rintro rfl
    obtain ⟨f, M, hf⟩ := MK.deeper
    exact fn_ok hC M hw (fun _ _ _ _ => rfl) fun h O F new C r => m_deeper MK h4 O F new C hω hC hf r h
  | shallower =>
    rintro rfl
    obtain ⟨f, M, hf⟩ := MK.shallower
    exact fn_ok hC M hw (fun _ _ _ _ => rfl) fun h O F new C r => m_shallower MK h4 O F new C hω hC hf r h
  | other => exact (hx hw).elim
end
end Mine

namespace Mine

noncomputable def Bs.cf (B : Bs) (top holeTop : Nat) (blk : Bool) : Cf := ⟨B.K, B.C, B.fExpr, B.fBlock, B.fTake, top, holeTop, blk⟩
/-- what is asked where a def has read -/
noncomputable def endsAt (mp mh : Nat) (_ : AV) (st : St) : Bool := match st.ws.rest with
  | [.tok _] => Nat.beq st.ws.lvl 0 && Nat.beq st.ws.mh mh && Nat.ble mp st.ws.mp
  | _ => false
noncomputable def st0 (items : List TK) : St := ⟨[], [], ⟨none, items, 0, 0, 0⟩⟩
noncomputable def sc0 : Scope := ⟨.function, [], false, false, []⟩
noncomputable def follows : List Wo := [⟨Str.ofString "sign", followS⟩, ⟨Str.ofString "end", [Str.ofString ""]⟩]

theorem run_scope {cf : Cf} {n cb : Nat} {sc sc' : Scope} {f : Addr} {vs : List AV} {k : KV} {st : St} (h : run cf n (.call f vs k) ⟨sc, cb⟩ st = true) : run cf n (.call f vs k) ⟨sc', cb⟩ st = true := by
  cases n with
  | zero => (first | exact ff h | exact nn h | exact ns h | exact tf h | exact ln h | exact lc h | cases h)
  | succ n => exact h

structure HoleOk (B : Bs) (inner : List (Str × Str)) (blk : Bool) (e sz : Nat) : Prop where
  ex : inner ≠ [] → ReadsBy B B.fExpr true inner e sz
  bl : inner ≠ [] → blk = true → 1 ≤ e ∧ ReadsBy B B.fBlock false inner (e - 1) sz

theorem follows_at {k x : Str} (h : FollW k x) : ∃ fo ∈ follows, fo.kind = k ∧ x ∈ fo.texts := by
  rcases h with ⟨rfl, h⟩ | ⟨rfl, rfl⟩
  · exact ⟨_, .head _, rfl, h⟩
  · exact ⟨_, .tail _ (.head _), rfl, .head _⟩

theorem reads_of_run {B : Bs} (MK : MethK B) {f : Addr} {flag : Bool} {inner full : List (Str × Str)} {items : List TK} {blk : Bool} {e sz top holeTop mp mh n e' : Nat} (HO : HoleOk B inner blk e sz) (h4 : 4 ≤ sz)
    (hM : ∀ ρ : Rho, ρ.inner = inner → ρ.blk = blk → ∀ r l, Match ρ r l → Match ρ (items ++ r) (full ++ l))
    (hr : ∀ fo ∈ follows, run (B.cf top holeTop blk) n (.call f [.words] (endsAt mp mh)) ⟨sc0, 40⟩ (st0 (items ++ [.tok fo])) = true ∧
      (flag = true → run (B.cf top holeTop blk) n (.call f [.words, .bool false] (endsAt mp mh)) ⟨sc0, 40⟩ (st0 (items ++ [.tok fo])) = true))
    (hN : ∀ d0, d0 + mp ≤ 60 → (mh = 0 ∨ d0 + (mh - 1) + e ≤ 60) → d0 + e' ≤ 60) (hX : ∀ d0, d0 ≤ 60 → 60 < d0 + top ∨ 60 < d0 + holeTop + e → 60 < d0 + e') :
    ReadsBy B f flag full e' (40 + sz) := by
  intro fr ω s i d m vs O F hD0 hDL hRD hC W hfo hd hvs
  obtain ⟨k, x, post, hdrop, hfw⟩ := hfo
  obtain ⟨fo, hfo, rfl, hxf⟩ := follows_at hfw
  obtain ⟨hr1, hr2⟩ := hr fo hfo
  let ρ : Rho := ⟨some ω, none, inner, [], d, 0, blk, e, sz, s, post⟩
  let G : Gl := ⟨B.prog, B.w, B.p, B.loose, B.mg, B.mb, B.cf top holeTop blk, ρ, B.GF⟩
  have hG : G.bs = B := rfl
  have MH : MethHyp G := methHyp (G := G) (hG ▸ MK) h4 fun ω' e => by (first | exact ff e | exact nn e | exact ns e | exact tf e | exact ln e | exact lc e | cases e); exact hC
  have HH : HoleHyp G := ⟨fun ω' e => by (first | exact ff e | exact nn e | exact ns e | exact tf e | exact ln e | exact lc e | cases e); exact hC, fun hi => hG ▸ HO.ex hi, fun hi hb => hG ▸ HO.bl hi hb, fun S e => by (first | exact ff e | exact nn e | exact ns e | exact tf e | exact ln e | exact lc e | cases e)⟩
  have O' : FrmOk G fr ⟨fr.scope, 40⟩ := ⟨rfl, O.below, O.X, O.T, O.kind, O.hh, O.dbg, by have := O.room; show fr.A₀.depth + 40 + sz + 20 ≤ recursionLimit; omega, by have := O.units; show fr.A₀.units + 10 * (40 + sz + 20) ≤ cLine; omega, Nat.zero_le _⟩
  have hm : muts ρ [] = [ω.D] := rfl
  have hML : Match ρ (items ++ [.tok fo]) (ω.toks.drop i) := by
    rw [hdrop]
    exact hM ρ rfl rfl _ _ (.tok hxf .nil)
  have C : Core ρ (AllBut ρ s []) (st0 (items ++ [.tok fo])) s [] := by
    refine ⟨⟨rfl, fun i a xs h => by simp at h⟩, fun ω' e => ?_, fun S e => (by (first | exact ff e | exact nn e | exact ns e | exact tf e | exact ln e | exact lc e | cases e)), fun b o e => e, by rw [hm]; simp, ⟨hd, hd, .inl rfl⟩, rfl, rfl, rfl⟩
    (first | exact ff e | exact nn e | exact ns e | exact tf e | exact ln e | exact lc e | cases e)
    exact ⟨i, W, hML, fun t e => (by (first | exact ff e | exact nn e | exact ns e | exact tf e | exact ln e | exact lc e | cases e)), by rw [hm]; simpa using hRD⟩
  have new : ∀ a ∈ muts ρ [], fr.g.get? a = none ∧ a ≠ fr.L := fun a ha => by
    rw [hm] at ha
    simp only [List.mem_singleton] at ha
    subst ha
    exact ⟨hD0, hDL⟩
  have go : ∀ xs, RepVs ρ [] s.heap vs xs → run (B.cf top holeTop blk) n (.call f xs (endsAt mp mh)) ⟨sc0, 40⟩ (st0 (items ++ [.tok fo])) = true →
      wpAny (model B.prog B.w) fr.A (call (.ref f) vs) (fun _ s' => d + e' ≤ 60 ∧ (∀ b o, s.heap.get? b = some o → b ≠ ω.D → s'.heap.get? b = some o) ∧ WordsAt ω s'.heap (i + full.length) d ∧ OutAs s s')
      (fun x s' => 60 < d + e' ∧ FliesTo B fr s x s') s := by
    intro xs r hrun
    refine wpAny_mono ((snd_all MH HH n).call (run_scope hrun) O' F new C r) (fun v s' q => ?_) fun x s' q => ?_
    · obtain ⟨y, st', ads', _, C', l, _, hk⟩ := q
      unfold endsAt at hk
      split at hk
      · rename_i t hrest
        simp only [Bool.and_eq_true] at hk
        obtain ⟨⟨h1, h2⟩, h3⟩ := hk
        have h1 := Nat.eq_of_beq_eq_true h1
        have h2 := Nat.eq_of_beq_eq_true h2
        have h3 := Nat.le_of_ble_eq_true h3
        obtain ⟨i', W', M', _, _⟩ := C'.words ω rfl
        have lv := C'.lv
        rw [h1] at W'
        rw [h2] at lv
        rw [hrest] at M'
        obtain ⟨x', l', hd', _, M''⟩ := tok_end M'
        have hlt := W.lt
        have hlt' := W'.lt
        have e1 : (ω.toks.drop i').length = 1 + post.length := by
          rw [hd']
          generalize hz : l' = z at M''
          (first | exact ff M'' | exact nn M'' | exact ns M'' | exact tf M'' | exact ln M'' | exact lc M'' | cases M'')
          show post.length + 1 = 1 + post.length
          omega
        have e2 : (ω.toks.drop i).length = full.length + 1 + post.length := by rw [hdrop]; simp; omega
        rw [List.length_drop] at e1 e2
        have ei : i' = i + full.length := by omega
        subst ei
        refine ⟨hN d (by have : d + st'.ws.mp ≤ 60 := lv.2.1; omega) lv.2.2, fun b o e ne => (C'.kept b o ⟨e, by rw [hm]; simpa using ne⟩).1, W', C'.out⟩
      · (first | exact ff hk | exact nn hk | exact ns hk | exact tf hk | exact ln hk | exact lc hk | cases hk)
    · obtain ⟨ho, e1, a0, rfl, hfl, hu, hout⟩ := q
      exact ⟨hX d hd ho, e1, a0, rfl, hfl, hu, hout⟩
  rcases hvs with rfl | ⟨hf, rfl⟩
  · exact go [.words] (.cons (.words rfl) .nil) hr1
  · exact go [.words, .bool false] (.cons (.words rfl) (.cons (.bool false) .nil)) (hr2 hf)
end Mine

namespace Mine

theorem run_two {cf : Cf} {n : Nat} {f : Addr} {k : KV} {cx : Cx} {st : St} {fd : FuncData} {a b : Arg} (hf : fnAt cf.K f = some fd) (ha : fd.params.args = [a, b]) (hd : dflts cf.K fd.defaults = some [.bool false]) (hne : Nat.beq f cf.fTake = false)
    (hh : ∀ blk t r, st.ws.rest ≠ .hole blk t :: r) (h : run cf n (.call f [.words] k) cx st = true) : run cf n (.call f [.words, .bool false] k) cx st = true := by
  cases n with
  | zero => exact ff h
  | succ n =>
    have hl : ∀ vs, leaps cf f vs st = none := by
      intro vs
      unfold leaps
      revert hh
      rcases st.ws.rest with _ | ⟨t, r⟩
      · exact fun _ => rfl
      · cases t with
        | tok t => exact fun _ => rfl
        | hole blk t => exact fun hh => (hh _ _ _ rfl).elim
    have e : ∀ vs, stCall cf (run cf n) f vs k cx st = cPlain cf (run cf n) f vs k cx st := fun vs => by unfold stCall; rw [hl, hne]
    show stCall cf (run cf n) f [.words, .bool false] k cx st = true
    replace h : stCall cf (run cf n) f [.words] k cx st = true := h
    rw [e] at h ⊢
    unfold cPlain at h ⊢
    cases hcb : cx.cb with
    | zero => rw [hcb] at h; exact ff h
    | succ cb =>
      rw [hcb] at h
      rw [hf] at h ⊢
      replace h : cFd cf (run cf n) fd [.words] cb k st = true := h
      show cFd cf (run cf n) fd [.words, .bool false] cb k st = true
      unfold cFd at h ⊢
      rw [hd, ha] at h ⊢
      exact h

noncomputable def refOf (K : Frag) (x : Str) : Addr := match nsIn K mainGlobals x with
  | some (some (.ref a)) => a
  | _ => 0
noncomputable def cfOf (K : Frag) (top holeTop : Nat) (blk : Bool) : Cf := ⟨K, refOf K "Words", refOf K "read_expr", refOf K "read_block_like", refOf K "_law_take", top, holeTop, blk⟩
noncomputable def fuel : Nat := 400
noncomputable def signC : List Nat := [40, 41, 91, 93, 123, 125, 44, 59, 58, 61, 43, 45, 42, 33, 38, 46]
noncomputable def memN (a : Nat) : List Nat → Bool
  | [] => false
  | b :: r => match Nat.beq a b with
    | true => true
    | false => memN a r
noncomputable def kindOf (x : Str) : Str := match x.cps.toList with
  | c :: _ => match memN c signC with
    | true => Str.ofString "sign"
    | false => Str.ofString "name"
  | [] => Str.ofString "name"
noncomputable def wordsOf (l : List Str) : List (Str × Str) := l.map fun x => (kindOf x, x)
noncomputable def tksOf (blk : Bool) (first : Wo) : List AV → Option (List TK)
  | [] => some []
  | .str [x] :: r => match tksOf blk first r with
    | some l => some (.tok ⟨kindOf x, [x]⟩ :: l)
    | none => none
  | .inner :: r => match tksOf blk first r with
    | some l => some (.hole blk first :: l)
    | none => none
  | _ => none
/-- the texts that items stand for -/
noncomputable def spell (inner : List Str) : List AV → List Str
  | [] => []
  | .str [x] :: r => x :: spell inner r
  | .inner :: r => inner ++ spell inner r
  | _ :: r => spell inner r
noncomputable def firsts (blk : Bool) : List Wo := match blk with
  | false => [⟨Str.ofString "name", [Str.ofString "a", Str.ofString "f", Str.ofString "S", Str.ofString "return", Str.ofString "break"]⟩, ⟨Str.ofString "sign", [Str.ofString "[", Str.ofString "-", Str.ofString "!", Str.ofString "*"]⟩]
  | true => [⟨Str.ofString "name", [Str.ofString "match", Str.ofString "loop", Str.ofString "if", Str.ofString "while", Str.ofString "for"]⟩, ⟨Str.ofString "sign", [Str.ofString "{"]⟩]
noncomputable def all2 {α : Type} (p : α → Bool) : List α → Bool
  | [] => true
  | x :: r => match p x with
    | true => all2 p r
    | false => false
theorem all2_is {α : Type} {p : α → Bool} : ∀ {l : List α}, all2 p l = true → ∀ x ∈ l, p x = true
  | [], _, x, hx => by (first | exact ff hx | exact nn hx | exact ns hx | exact tf hx | exact ln hx | exact lc hx | cases hx)
  | y :: r, h, x, hx => by
    unfold all2 at h
    split at h
    · rcases List.mem_cons.mp hx with rfl | hx
      · assumption
      · exact all2_is h x hx
    · (first | exact ff h | exact nn h | exact ns h | exact tf h | exact ln h | exact lc h | cases h)
noncomputable def least (blk : Bool) : Nat := match blk with
  | true => 3
  | false => 1
noncomputable def startsAt : List AV → Option Str
  | .str [x] :: _ => some x
  | _ => none
/-- a word that stands first is one of those that are looked for -/
noncomputable def firstOk (b : Bool) (its : List AV) : Bool := match startsAt its with
  | some x => inS x (((firsts b).filter fun t => eqS t.kind (kindOf x)).flatMap Wo.texts)
  | none => false
noncomputable def noHole : List TK → Bool
  | .hole _ _ :: _ => false
  | _ => true
noncomputable def reads (K : Frag) (f : Addr) (blk : Bool) (top holeTop mp mh : Nat) (items : List TK) : Bool :=
  all2 (fun fo => run (cfOf K top holeTop blk) fuel (.call f [.words] (endsAt mp mh)) ⟨sc0, 40⟩ (st0 (items ++ [.tok fo]))) follows
noncomputable def others : List AV → Nat
  | [] => 0
  | .inner :: r => others r
  | _ :: r => others r + 1
noncomputable def inners : List AV → Nat
  | [] => 0
  | .inner :: r => inners r + 1
  | _ :: r => inners r
/-- a form with a hole: it is read c levels deeper than what stands in the hole -/
noncomputable def formFine (K : Frag) (blk : Bool) (first : Wo) (its : List AV) (c : Nat) (b : Bool) : Bool := match tksOf blk first its with
  | some tks => noHole tks && firstOk b its && Nat.ble (least b) (c + least blk) && Nat.ble (others its) 20 && Nat.ble (inners its) 1 && reads K (refOf K "read_expr") blk (c + least blk) c 0 (c + 1) tks && (match b with
    | true => Nat.ble 1 c && reads K (refOf K "read_block_like") blk (c + least blk - 1) (c - 1) 0 c tks
    | false => true)
  | none => false
/-- an expression without a hole, c levels deep -/
noncomputable def baseFine (K : Frag) (its : List AV) (c : Nat) (b : Bool) : Bool := match tksOf false ⟨Str.ofString "", []⟩ its with
  | some tks => noHole tks && firstOk b its && Nat.ble (least b) c && Nat.ble (others its) 20 && Nat.beq (inners its) 0 && reads K (refOf K "read_expr") false c 0 c 0 tks && (match b with
    | true => reads K (refOf K "read_block_like") false (c - 1) 0 (c - 1) 0 tks
    | false => true)
  | none => false

structure PartOk (B : Bs) (told : List Str) (e : Nat) (b : Bool) (sz : Nat) : Prop where
  start : ∃ t ∈ firsts b, ∃ x r, told = x :: r ∧ t.kind = kindOf x ∧ x ∈ t.texts
  deep : least b ≤ e
  read : HoleOk B (wordsOf told) b e sz

/-- the names of the text that are called by hand -/
structure BsOk (B : Bs) : Prop where
  C : B.C = refOf B.K "Words"
  ex : B.fExpr = refOf B.K "read_expr"
  bl : B.fBlock = refOf B.K "read_block_like"
  tk : B.fTake = refOf B.K "_law_take"
  two : ∃ fd a b, fnAt B.K B.fExpr = some fd ∧ fd.params.args = [a, b] ∧ dflts B.K fd.defaults = some [.bool false]
  ne : Nat.beq B.fExpr B.fTake = false
theorem cf_is {B : Bs} (H : BsOk B) (top holeTop : Nat) (blk : Bool) : B.cf top holeTop blk = cfOf B.K top holeTop blk := by
  unfold Bs.cf cfOf
  rw [H.C, H.ex, H.bl, H.tk]

theorem match_items {ρ : Rho} {inner : List Str} {blk : Bool} {first : Wo} (hi : ρ.inner = wordsOf inner) (hb : ρ.blk = blk) (hf : ∃ x r, inner = x :: r ∧ first.kind = kindOf x ∧ x ∈ first.texts) : ∀ {its : List AV} {tks r : List TK} {l : List (Str × Str)},
    tksOf blk first its = some tks → Match ρ r l → Match ρ (tks ++ r) (wordsOf (spell inner its) ++ l) := by
  intro its
  induction its with
  | nil => intro tks r l h M; (first | exact ff h | exact nn h | exact ns h | exact tf h | exact ln h | exact lc h | cases h); exact M
  | cons y its ih =>
    intro tks r l h M
    unfold tksOf at h
    split at h
    · rename_i e; (first | exact ff e | exact nn e | exact ns e | exact tf e | exact ln e | exact lc e | cases e)
    · rename_i x r' e
      (first | exact ff e | exact nn e | exact ns e | exact tf e | exact ln e | exact lc e | cases e)
      split at h
      · rename_i l' hl
        (first | exact ff h | exact nn h | exact ns h | exact tf h | exact ln h | exact lc h | cases h)
        show Match ρ (.tok ⟨kindOf x, [x]⟩ :: (l' ++ r)) ((kindOf x, x) :: (wordsOf (spell inner its) ++ l))
        exact .tok (t := ⟨kindOf x, [x]⟩) (.head _) (ih hl M)
      · (first | exact ff h | exact nn h | exact ns h | exact tf h | exact ln h | exact lc h | cases h)
    · rename_i r' e
      (first | exact ff e | exact nn e | exact ns e | exact tf e | exact ln e | exact lc e | cases e)
      split at h
      · rename_i l' hl
        (first | exact ff h | exact nn h | exact ns h | exact tf h | exact ln h | exact lc h | cases h)
        obtain ⟨x, r0, rfl, hk, hx⟩ := hf
        show Match ρ (.hole blk first :: (l' ++ r)) (wordsOf ((x :: r0) ++ spell (x :: r0) its) ++ l)
        have : wordsOf ((x :: r0) ++ spell (x :: r0) its) ++ l = ρ.inner ++ (wordsOf (spell (x :: r0) its) ++ l) := by rw [hi]; simp [wordsOf]
        rw [this, ← hb]
        exact .hole (i := wordsOf r0) (by rw [hi, hk]; rfl) hx (ih hl M)
      · (first | exact ff h | exact nn h | exact ns h | exact tf h | exact ln h | exact lc h | cases h)
    · (first | exact ff h | exact nn h | exact ns h | exact tf h | exact ln h | exact lc h | cases h)
theorem match_plain {ρ : Rho} {blk : Bool} {first : Wo} : ∀ {its : List AV} {tks r : List TK} {l : List (Str × Str)}, inners its = 0 →
    tksOf blk first its = some tks → Match ρ r l → Match ρ (tks ++ r) (wordsOf (spell [] its) ++ l) := by
  intro its
  induction its with
  | nil => intro tks r l _ h M; (first | exact ff h | exact nn h | exact ns h | exact tf h | exact ln h | exact lc h | cases h); exact M
  | cons y its ih =>
    intro tks r l hn h M
    unfold tksOf at h
    split at h
    · rename_i e; (first | exact ff e | exact nn e | exact ns e | exact tf e | exact ln e | exact lc e | cases e)
    · rename_i x r' e
      (first | exact ff e | exact nn e | exact ns e | exact tf e | exact ln e | exact lc e | cases e)
      split at h
      · rename_i l' hl
        (first | exact ff h | exact nn h | exact ns h | exact tf h | exact ln h | exact lc h | cases h)
        show Match ρ (.tok ⟨kindOf x, [x]⟩ :: (l' ++ r)) ((kindOf x, x) :: (wordsOf (spell [] its) ++ l))
        exact .tok (t := ⟨kindOf x, [x]⟩) (.head _) (ih hn hl M)
      · (first | exact ff h | exact nn h | exact ns h | exact tf h | exact ln h | exact lc h | cases h)
    · rename_i r' e
      (first | exact ff e | exact nn e | exact ns e | exact tf e | exact ln e | exact lc e | cases e)
      (first | exact ff hn | exact nn hn | exact ns hn | exact tf hn | exact ln hn | exact lc hn | cases hn)
    · (first | exact ff h | exact nn h | exact ns h | exact tf h | exact ln h | exact lc h | cases h)

theorem firstOk_is {b : Bool} {its : List AV} {inner : List Str} (h : firstOk b its = true) : ∃ t ∈ firsts b, ∃ x r, spell inner its = x :: r ∧ t.kind = kindOf x ∧ x ∈ t.texts := by
  unfold firstOk at h
  split at h
  · rename_i x hx
    have h := inS_iff.mp h
    simp only [List.mem_flatMap, List.mem_filter] at h
    obtain ⟨t, ⟨ht, hk⟩, hxt⟩ := h
    unfold startsAt at hx
    split at hx
    · (first | exact ff hx | exact nn hx | exact ns hx | exact tf hx | exact ln hx | exact lc hx | cases hx)
      exact ⟨t, ht, x, _, rfl, eqS_iff.mp hk, hxt⟩
    · (first | exact ff hx | exact nn hx | exact ns hx | exact tf hx | exact ln hx | exact lc hx | cases hx)
  · (first | exact ff h | exact nn h | exact ns h | exact tf h | exact ln h | exact lc h | cases h)

theorem noHole_is {tks : List TK} {fo : Wo} (h : noHole tks = true) : ∀ blk t r, (st0 (tks ++ [.tok fo])).ws.rest ≠ .hole blk t :: r := by
  intro blk t r q
  cases tks with
  | nil => (first | exact ff q | exact nn q | exact ns q | exact tf q | exact ln q | exact lc q | cases q)
  | cons y l =>
    have : y = .hole blk t := by
      have := congrArg List.head? (show (y :: l) ++ [.tok fo] = .hole blk t :: r from q)
      simpa using this
    subst this
    (first | exact ff h | exact nn h | exact ns h | exact tf h | exact ln h | exact lc h | cases h)

/-- a form makes of a part a part -/
theorem form_step {B : Bs} (MK : MethK B) (H : BsOk B) {inner : List Str} {e sz : Nat} {blk b : Bool} {its : List AV} {c : Nat} (P : PartOk B inner e blk sz) (h4 : 4 ≤ sz) (hf : ∀ first ∈ firsts blk, formFine B.K blk first its c b = true) :
    PartOk B (spell inner its) (c + e) b (40 + sz) := by
  obtain ⟨first, hfirst, x, r, hx, hk, hxt⟩ := P.start
  have h := hf first hfirst
  unfold formFine at h
  split at h
  · rename_i tks htks
    simp only [Bool.and_eq_true] at h
    obtain ⟨⟨⟨⟨⟨⟨h1, h2⟩, h3⟩, h5⟩, h6⟩, h7⟩, h8⟩ := h
    have h3 := Nat.le_of_ble_eq_true h3
    have hd := P.deep
    obtain ⟨fd, a1, a2, f1, f2, f3⟩ := H.two
    have hM : ∀ ρ : Rho, ρ.inner = wordsOf inner → ρ.blk = blk → ∀ r l, Match ρ r l → Match ρ (tks ++ r) (wordsOf (spell inner its) ++ l) := fun ρ hi hb r' l M => match_items hi hb ⟨x, r, hx, hk, hxt⟩ htks M
    refine ⟨firstOk_is h2, by omega, fun _ => ?_, fun _ hbt => ?_⟩
    · refine reads_of_run (n := fuel) (top := c + least blk) (holeTop := c) (mp := 0) (mh := c + 1) MK P.read h4 hM (fun fo hfo => ?_) (fun d0 _ hm => ?_) (fun d0 _ ho => ?_)
      · have := all2_is h7 fo hfo
        rw [← cf_is H, ← H.ex] at this
        exact ⟨this, fun _ => run_two f1 f2 f3 H.ne (noHole_is h1) this⟩
      · rcases hm with hm | hm <;> omega
      · rcases ho with ho | ho <;> omega
    · subst hbt
      simp only [Bool.and_eq_true] at h8
      have h9 := Nat.le_of_ble_eq_true h8.1
      refine ⟨by omega, ?_⟩
      refine reads_of_run (n := fuel) (top := c + least blk - 1) (holeTop := c - 1) (mp := 0) (mh := c) MK P.read h4 hM (fun fo hfo => ?_) (fun d0 _ hm => ?_) (fun d0 _ ho => ?_)
      · have := all2_is h8.2 fo hfo
        rw [← cf_is H, ← H.bl] at this
        exact ⟨this, fun q => by (first | exact ff q | exact nn q | exact ns q | exact tf q | exact ln q | exact lc q | cases q)⟩
      · rcases hm with hm | hm <;> omega
      · rcases ho with ho | ho <;> omega
  · (first | exact ff h | exact nn h | exact ns h | exact tf h | exact ln h | exact lc h | cases h)

theorem base_step {B : Bs} (MK : MethK B) (H : BsOk B) {b : Bool} {its : List AV} {c : Nat} (hf : baseFine B.K its c b = true) : PartOk B (spell [] its) c b 44 := by
  unfold baseFine at hf
  split at hf
  · rename_i tks htks
    simp only [Bool.and_eq_true] at hf
    obtain ⟨⟨⟨⟨⟨⟨h1, h2⟩, h3⟩, h5⟩, h6⟩, h7⟩, h8⟩ := hf
    have h3 := Nat.le_of_ble_eq_true h3
    have h6 := Nat.eq_of_beq_eq_true h6
    obtain ⟨fd, a1, a2, f1, f2, f3⟩ := H.two
    have hM : ∀ ρ : Rho, ρ.inner = [] → ρ.blk = false → ∀ r l, Match ρ r l → Match ρ (tks ++ r) (wordsOf (spell [] its) ++ l) := fun ρ _ _ r' l M => match_plain h6 htks M
    have HO : HoleOk B [] false 0 4 := ⟨fun q => (q rfl).elim, fun q => (q rfl).elim⟩
    refine ⟨firstOk_is h2, h3, fun _ => ?_, fun _ hbt => ?_⟩
    · refine reads_of_run (n := fuel) (top := c) (holeTop := 0) (mp := c) (mh := 0) (sz := 4) MK HO (Nat.le_refl _) hM (fun fo hfo => ?_) (fun d0 hm _ => hm) (fun d0 _ ho => ?_)
      · have := all2_is h7 fo hfo
        rw [← cf_is H, ← H.ex] at this
        exact ⟨this, fun _ => run_two f1 f2 f3 H.ne (noHole_is h1) this⟩
      · rcases ho with ho | ho <;> omega
    · subst hbt
      have h9 : 3 ≤ c := h3
      refine ⟨by omega, ?_⟩
      refine reads_of_run (n := fuel) (top := c - 1) (holeTop := 0) (mp := c - 1) (mh := 0) (sz := 4) MK HO (Nat.le_refl _) hM (fun fo hfo => ?_) (fun d0 hm _ => hm) (fun d0 _ ho => ?_)
      · have := all2_is h8 fo hfo
        rw [← cf_is H, ← H.bl] at this
        exact ⟨this, fun q => by (first | exact ff q | exact nn q | exact ns q | exact tf q | exact ln q | exact lc q | cases q)⟩
      · rcases ho with ho | ho <;> omega
  · (first | exact ff hf | exact nn hf | exact ns hf | exact tf hf | exact ln hf | exact lc hf | cases hf)
end Mine

namespace Mine

noncomputable def sg (x : Str) : AV := .str [x]
noncomputable abbrev Ent := List AV × Nat × Bool
/-- the forms around a hole; the levels that they add -/
noncomputable def formsP : List Ent := [
  ([sg "f", sg "(", sg "a", sg ",", .inner, sg ")"], 1, false), ([sg "[", sg "a", sg ",", .inner, sg "]"], 1, false), ([sg "S", sg "{", sg "x", sg ":", sg "a", sg ",", sg "y", sg ":", .inner, sg "}"], 1, false), ([sg "a", sg "[", .inner, sg "]"], 1, false),
  ([sg "a", sg "=", .inner], 1, false), ([sg "a", sg "+=", .inner], 1, false), ([sg "return", .inner], 1, false), ([sg "break", .inner], 1, false)]
noncomputable def formsQ : List Ent := [
  ([sg "-", sg "(", .inner, sg ")"], 2, false), ([sg "!", sg "(", .inner, sg ")"], 2, false), ([sg "*", sg "(", .inner, sg ")"], 2, false),
  ([sg "a", sg "+", sg "(", .inner, sg ")"], 2, false), ([sg "a", sg "==", sg "(", .inner, sg ")"], 2, false), ([sg "a", sg "&&", sg "(", .inner, sg ")"], 2, false)]
noncomputable def formsR (c : Nat) : List Ent := [
  ([sg "{", .inner, sg "}"], c, true), ([sg "loop", sg "{", .inner, sg "}"], c, true), ([sg "if", sg "a", sg "{", sg "a", sg "}", sg "else", sg "{", .inner, sg "}"], c, true), ([sg "match", sg "a", sg "{", sg "_", sg "=>", .inner, sg ",", sg "}"], c, true)]
noncomputable def formsS : List Ent := [
  ([sg "{", sg "let", sg "x", sg "=", .inner, sg ";", sg "a", sg "}"], 2, true), ([sg "match", sg "a", sg "{", sg "_", sg "if", .inner, sg "=>", sg "a", sg ",", sg "}"], 2, true)]
noncomputable def formsT : List Ent := [
  ([sg "if", sg "a", sg "{", sg "}", sg "else", sg "if", sg "(", .inner, sg ")", sg "{", sg "}"], 3, true), ([sg "while", sg "(", .inner, sg ")", sg "{", sg "}"], 3, true),
  ([sg "for", sg "x", sg "in", sg "a", sg "..", sg "(", .inner, sg ")", sg "{", sg "}"], 3, true), ([sg "match", sg "(", .inner, sg ")", sg "{", sg "}"], 3, true)]
noncomputable def rowC (blk : Bool) : Nat := match blk with
  | true => 1
  | false => 2
noncomputable def forms (blk : Bool) : List Ent := formsP ++ formsQ ++ formsR (rowC blk) ++ formsS ++ formsT
noncomputable def castB (k : Nat) : Ent := ([sg "a", sg "as"] ++ List.replicate k (sg "&") ++ [sg "u8"], k + 2, false)
noncomputable def matchB (k : Nat) : Ent := ([sg "match", sg "a", sg "{"] ++ List.replicate k (sg "&") ++ [sg "_", sg "=>", sg "a", sg ",", sg "}"], k + 3, true)
noncomputable def bases : List Ent := ([sg "a"], 1, false) :: ([0, 1, 2, 3, 4, 5, 6, 7, 8].map castB ++ [0, 1, 2, 3, 4, 5, 6, 7, 8].map matchB)

noncomputable def eqIts : List AV → List AV → Bool
  | [], [] => true
  | .str [x] :: r, .str [y] :: l => match eqS x y with
    | true => eqIts r l
    | false => false
  | .inner :: r, .inner :: l => eqIts r l
  | _, _ => false
noncomputable def eqB : Bool → Bool → Bool
  | true, true => true
  | false, false => true
  | _, _ => false
noncomputable def hasEnt (its : List AV) (c : Nat) (b : Bool) : List Ent → Bool
  | [] => false
  | (i, c', b') :: r => match Nat.beq c c', eqB b b' with
    | true, true => match eqIts its i with
      | true => true
      | false => hasEnt its c b r
    | _, _ => hasEnt its c b r
theorem eqIts_is : ∀ {a b : List AV}, eqIts a b = true → a = b
  | [], [], _ => rfl
  | x :: r, [], h => by
    exfalso
    cases x with
    | str ss =>
      cases ss with
      | nil => (first | exact ff h | exact nn h | exact ns h | exact tf h | exact ln h | exact lc h | cases h)
      | cons a t => (first | exact ff t | exact nn t | exact ns t | exact tf t | exact ln t | exact lc t | cases t) <;> cases h
    | _ => (first | exact ff h | exact nn h | exact ns h | exact tf h | exact ln h | exact lc h | cases h)
  | [], y :: l, h => by (first | exact ff h | exact nn h | exact ns h | exact tf h | exact ln h | exact lc h | cases h)
  | x :: r, y :: l, h => by
    unfold eqIts at h
    split at h
    · rename_i e; (first | exact ff e | exact nn e | exact ns e | exact tf e | exact ln e | exact lc e | cases e)
    · rename_i e1 e2
      (first | exact ff e1 | exact nn e1 | exact ns e1 | exact tf e1 | exact ln e1 | exact lc e1 | cases e1); cases e2
      split at h
      · rename_i q; rw [eqS_iff.mp q, eqIts_is h]
      · (first | exact ff h | exact nn h | exact ns h | exact tf h | exact ln h | exact lc h | cases h)
    · rename_i e1 e2
      (first | exact ff e1 | exact nn e1 | exact ns e1 | exact tf e1 | exact ln e1 | exact lc e1 | cases e1); cases e2
      rw [eqIts_is h]
    · (first | exact ff h | exact nn h | exact ns h | exact tf h | exact ln h | exact lc h | cases h)
theorem hasEnt_is {its : List AV} {c : Nat} {b : Bool} : ∀ {l : List Ent}, hasEnt its c b l = true → (its, c, b) ∈ l
  | [], h => by (first | exact ff h | exact nn h | exact ns h | exact tf h | exact ln h | exact lc h | cases h)
  | (i, c', b') :: r, h => by
    unfold hasEnt at h
    split at h
    · rename_i q1 q2
      have q1 := Nat.eq_of_beq_eq_true q1
      have q2 : b = b' := by (first | exact ff b | exact nn b | exact ns b | exact tf b | exact ln b | exact lc b | cases b) <;> cases b' <;> first | rfl | (first | exact ff q2 | exact nn q2 | exact ns q2 | exact tf q2 | exact ln q2 | exact lc q2 | cases q2)
      subst q1; subst q2
      split at h
      · rename_i q; rw [eqIts_is q]; exact .head _
      · exact .tail _ (hasEnt_is h)
    · exact .tail _ (hasEnt_is h)

noncomputable def kForm (blk : Bool) (v : AV) (st : St) : Bool := match v with
  | .tup [.lst i, .sym (.ofNat c), .bool b] => match nth st.lists i with
    | some its => hasEnt its c b (forms blk)
    | none => false
  | _ => false
noncomputable def formsRun (K : Frag) (blk : Bool) : Bool :=
  run (cfOf K 0 0 blk) fuel (.call (refOf K "_law_form") [.src, .tup [.lst 0, .sym 0, .bool blk]] (kForm blk)) ⟨sc0, 40⟩ ⟨[], [[.inner]], ⟨none, [], 0, 0, 0⟩⟩
noncomputable def kBase (v : AV) (st : St) : Bool := match v with
  | .tup [.lst i, .int (.ofNat c), .bool b] => match nth st.lists i with
    | some its => hasEnt its c b bases
    | none => false
  | _ => false
noncomputable def baseRun (K : Frag) : Bool :=
  run (cfOf K 0 0 false) fuel (.call (refOf K "_law_base") [.src] kBase) ⟨sc0, 40⟩ ⟨[], [], ⟨none, [], 0, 0, 0⟩⟩
noncomputable def fineAll (K : Frag) (blk : Bool) (l : List Ent) : Bool := all2 (fun x => all2 (fun first => formFine K blk first x.1 x.2.1 x.2.2) (firsts blk)) l
noncomputable def baseAll (K : Frag) (l : List Ent) : Bool := all2 (fun x => baseFine K x.1 x.2.1 x.2.2) l
end Mine

namespace Mine

/-- values that are texts -/
noncomputable def StrsAre (vs : List Value) (l : List Str) : Prop := vs.length = l.length ∧ ∀ (i : Nat) v, vs[i]? = some v → ∃ x t, l[i]? = some x ∧ v = .str x t
theorem StrsAre.nil : StrsAre [] [] := ⟨rfl, fun i v h => by simp at h⟩
theorem StrsAre.cons {v : Value} {vs : List Value} {x : Str} {l : List Str} {t : PySem.Tok} (hv : v = .str x t) (h : StrsAre vs l) : StrsAre (v :: vs) (x :: l) := by
  refine ⟨by simp [h.1], fun i w hw => ?_⟩
  cases i with
  | zero => simp at hw; subst hw; exact ⟨x, t, rfl, hv⟩
  | succ i => exact h.2 i w (by simpa using hw)
theorem StrsAre.app {vs us : List Value} {l r : List Str} (h : StrsAre vs l) (k : StrsAre us r) : StrsAre (vs ++ us) (l ++ r) := by
  refine ⟨by simp [h.1, k.1], fun i w hw => ?_⟩
  by_cases hi : i < vs.length
  · rw [List.getElem?_append_left hi] at hw
    obtain ⟨x, t, h1, h2⟩ := h.2 i w hw
    exact ⟨x, t, nth_app h1, h2⟩
  · have hi := Nat.le_of_not_lt hi
    rw [List.getElem?_append_right hi] at hw
    obtain ⟨x, t, h1, h2⟩ := k.2 _ w hw
    exact ⟨x, t, by rw [List.getElem?_append_right (by rw [← h.1]; exact hi), ← h.1]; exact h1, h2⟩

/-- items that are texts or the hole -/
noncomputable def textual : List AV → Bool
  | [] => true
  | .str [_] :: r => textual r
  | .inner :: r => textual r
  | _ => false
theorem Items.spelt {ρ : Rho} {ads : List Addr} {h : Heap} {inner : List Str} (hi : StrsAre ρ.ivs inner) {vs : List Value} {its : List AV} (r : Items ρ ads h vs its) : textual its = true → StrsAre vs (spell inner its) := by
  induction r with
  | nil => intro _; exact .nil
  | cons q _ ih =>
    intro ht
    cases q with
    | @str x ss t hx =>
      cases ss with
      | nil => (first | exact ff hx | exact nn hx | exact ns hx | exact tf hx | exact ln hx | exact lc hx | cases hx)
      | cons y l =>
        cases l with
        | nil =>
          simp only [List.mem_singleton] at hx
          subst hx
          exact .cons rfl (ih ht)
        | cons _ _ => (first | exact ff ht | exact nn ht | exact ns ht | exact tf ht | exact ln ht | exact lc ht | cases ht)
    | _ => (first | exact ff ht | exact nn ht | exact ns ht | exact tf ht | exact ln ht | exact lc ht | cases ht)
  | inner _ ih => intro ht; exact hi.app (ih ht)

theorem textual_forms : ∀ x ∈ formsP ++ formsQ ++ formsR 0 ++ formsS ++ formsT, textual x.1 = true := by decide
theorem textual_ent (blk : Bool) : ∀ x ∈ forms blk, textual x.1 = true := by (first | exact ff blk | exact nn blk | exact ns blk | exact tf blk | exact ln blk | exact lc blk | cases blk) <;> decide
theorem deep_base : ∀ x ∈ bases, x.2.1 ≤ 11 := by decide
theorem deep_form (blk : Bool) : ∀ x ∈ forms blk, x.2.1 ≤ 3 := by (first | exact ff blk | exact nn blk | exact ns blk | exact tf blk | exact ln blk | exact lc blk | cases blk) <;> decide
theorem textual_base : ∀ x ∈ bases, textual x.1 = true := by decide

/-- a text that is no void one, and whose first sign tells its kind -/
noncomputable def signS : Str := Str.ofString "()[]{},;:=+-*!&."
noncomputable def goodT (x : Str) : Bool := match x.cps.toList with
  | c :: _ => (!(Builtin.Str.occurrences signS ⟨#[c]⟩ 0 signS.length 1).isEmpty) == memN c signC
  | [] => false
noncomputable def textsGood : List AV → Bool
  | [] => true
  | .str [x] :: r => match goodT x with
    | true => textsGood r
    | false => false
  | _ :: r => textsGood r
theorem spell_good {inner : List Str} (hi : ∀ x ∈ inner, goodT x = true) : ∀ {its : List AV}, textsGood its = true → ∀ x ∈ spell inner its, goodT x = true
  | [], _, x, hx => by (first | exact ff hx | exact nn hx | exact ns hx | exact tf hx | exact ln hx | exact lc hx | cases hx)
  | y :: r, h, x, hx => by
    unfold textsGood at h
    split at h
    · rename_i e; (first | exact ff e | exact nn e | exact ns e | exact tf e | exact ln e | exact lc e | cases e)
    · rename_i z r' e
      (first | exact ff e | exact nn e | exact ns e | exact tf e | exact ln e | exact lc e | cases e)
      split at h
      · rename_i hz
        rcases List.mem_cons.mp (show x ∈ z :: spell inner r from hx) with rfl | hx
        · exact hz
        · exact spell_good hi h x hx
      · (first | exact ff h | exact nn h | exact ns h | exact tf h | exact ln h | exact lc h | cases h)
    · rename_i z r' h1 e
      (first | exact ff e | exact nn e | exact ns e | exact tf e | exact ln e | exact lc e | cases e)
      cases y with
      | inner =>
        rcases List.mem_append.mp (show x ∈ inner ++ spell inner r from hx) with hx | hx
        · exact hi x hx
        · exact spell_good hi h x hx
      | str l => match l, hx, h1 with
        | [], hx, _ => exact spell_good hi h x hx
        | [z], _, h1 => exact (h1 z rfl).elim
        | _ :: _ :: _, hx, _ => exact spell_good hi h x hx
      | _ => exact spell_good hi h x hx
theorem good_base : ∀ x ∈ bases, textsGood x.1 = true := all2_is (p := fun (x : List AV × Nat × Bool) => textsGood x.1) (by decide +kernel)
theorem good_form (blk : Bool) : ∀ x ∈ forms blk, textsGood x.1 = true := all2_is (p := fun (x : List AV × Nat × Bool) => textsGood x.1) (by (first | exact ff blk | exact nn blk | exact ns blk | exact tf blk | exact ln blk | exact lc blk | cases blk) <;> decide +kernel)

structure PartAt (h : Heap) (S P L : Addr) (told : List Str) (e : Nat) (b : Bool) : Prop where
  tup : ∃ t n, h.get? P = some (tupObj [.ref L, .int e t, .bool b] n)
  lst : ∃ us n, h.get? L = some (listObj us n) ∧ StrsAre us told
  ne : L ≠ S
  good : ∀ x ∈ told, goodT x = true

section
variable {B : Bs} {fr : Frm} {s : Shared} {m : Str → Option Value} {S : Addr}

/-- what a drawn part is -/
noncomputable def Drawn (B : Bs) (fr : Frm) (s : Shared) (S : Addr) (sz : Nat) (len dm : Nat) (off : List Addr) (v : Value) (s' : Shared) : Prop :=
  ∃ P L told e b, v = .ref P ∧ PartAt s'.heap S P L told e b ∧ PartOk B told e b sz ∧ told.length ≤ len ∧ e ≤ dm ∧ fr.g.get? L = none ∧ L ≠ fr.L ∧ SrcAt s'.heap S ∧ (∀ b o, s.heap.get? b = some o → b ≠ S → b ∉ off → s'.heap.get? b = some o) ∧ OutAs s s'

theorem spell_len (inner : List Str) : ∀ its : List AV, (spell inner its).length ≤ others its + inners its * inner.length
  | [] => Nat.zero_le _
  | y :: r => by
    have ih := spell_len inner r
    unfold spell
    split
    · rename_i e; (first | exact ff e | exact nn e | exact ns e | exact tf e | exact ln e | exact lc e | cases e)
    · rename_i x r' e
      (first | exact ff e | exact nn e | exact ns e | exact tf e | exact ln e | exact lc e | cases e)
      simp only [List.length_cons, others, inners]
      omega
    · rename_i r' e
      (first | exact ff e | exact nn e | exact ns e | exact tf e | exact ln e | exact lc e | cases e)
      have hm : (inners r + 1) * inner.length = inners r * inner.length + inner.length := by rw [Nat.add_mul, Nat.one_mul]
      simp only [List.length_append, others, inners]
      omega
    · rename_i r' h1 h2 e
      (first | exact ff e | exact nn e | exact ns e | exact tf e | exact ln e | exact lc e | cases e)
      cases y with
      | inner => first | exact (h2 rfl).elim | exact (h1 rfl).elim
      | _ => simp only [others, inners]; omega

theorem off_S {ρ : Rho} (h : ρ.wd = none) (hs : ρ.src = some S) (ads : List Addr) : muts ρ ads = S :: ads := by unfold muts; rw [h, hs]; rfl

theorem new_of {ρ : Rho} {kp : Kp} {st : St} {s s' : Shared} {ads ads' : List Addr} (C : Core ρ (AllBut ρ s ads) st s' ads') (l : Later ads s.heap ads' s'.heap) {a : Addr} (ha : a ∈ ads') (hn : a ∉ ads) : s.heap.get? a = none := by
  obtain ⟨⟨r, rfl⟩, _⟩ := l
  have ha : a ∈ r := (List.mem_append.mp ha).resolve_left hn
  cases q : s.heap.get? a with
  | none => rfl
  | some o =>
    exfalso
    by_cases hm : a ∈ muts ρ ads
    · have := C.apart
      rw [muts_app] at this
      exact (List.nodup_append.mp this).2.2 a hm a ha rfl
    · have := (C.kept a o ⟨q, hm⟩).2
      rw [muts_app] at this
      exact this (List.mem_append.mpr (.inr ha))

theorem len_three {α : Type} : ∀ {l : List α}, l.length = 3 → ∃ a b c, l = [a, b, c]
  | [a, b, c], _ => ⟨a, b, c, rfl⟩
theorem tup3_inv {ρ : Rho} {ads : List Addr} {h : Heap} {v : Value} {x y z : AV} (r : RepV ρ ads h v (.tup [x, y, z])) : ∃ t v0 v1 v2 n, v = .ref t ∧ h.get? t = some (tupObj [v0, v1, v2] n) ∧ RepV ρ ads h v0 x ∧ RepV ρ ads h v1 y ∧ RepV ρ ads h v2 z := by
  obtain ⟨t, vs, n, rfl, hT, hlen, hat⟩ := r.tup_inv
  obtain ⟨v0, v1, v2, rfl⟩ := len_three hlen
  exact ⟨t, v0, v1, v2, n, rfl, hT, hat 0 _ _ rfl rfl, hat 1 _ _ rfl rfl, hat 2 _ _ rfl rfl⟩
theorem kBase_is {y : AV} {st : St} (h : kBase y st = true) : ∃ (i c : Nat) (b : Bool) (its : List AV), y = .tup [.lst i, .int c, .bool b] ∧ nth st.lists i = some its ∧ (its, c, b) ∈ bases := by
  unfold kBase at h
  split at h
  · split at h
    · rename_i hits
      exact ⟨_, _, _, _, rfl, hits, hasEnt_is h⟩
    · (first | exact ff h | exact nn h | exact ns h | exact tf h | exact ln h | exact lc h | cases h)
  · (first | exact ff h | exact nn h | exact ns h | exact tf h | exact ln h | exact lc h | cases h)
theorem kForm_is {b : Bool} {y : AV} {st : St} (h : kForm b y st = true) : ∃ (i c : Nat) (b' : Bool) (its : List AV), y = .tup [.lst i, .sym c, .bool b'] ∧ nth st.lists i = some its ∧ (its, c, b') ∈ forms b := by
  unfold kForm at h
  split at h
  · split at h
    · rename_i hits
      exact ⟨_, _, _, _, rfl, hits, hasEnt_is h⟩
    · (first | exact ff h | exact nn h | exact ns h | exact tf h | exact ln h | exact lc h | cases h)
  · (first | exact ff h | exact nn h | exact ns h | exact tf h | exact ln h | exact lc h | cases h)
theorem base_len {K : Frag} {its : List AV} {c : Nat} {b : Bool} (h : baseFine K its c b = true) : (spell [] its).length ≤ 40 := by
  have := spell_len [] its
  unfold baseFine at h
  split at h
  · simp only [Bool.and_eq_true] at h
    have h5 := Nat.le_of_ble_eq_true h.1.1.1.2
    simp only [List.length_nil, Nat.mul_zero] at this
    omega
  · (first | exact ff h | exact nn h | exact ns h | exact tf h | exact ln h | exact lc h | cases h)
theorem off_new {g h : Heap} {L a : Addr} {m : Str → Option Value} (F : Fr g L h m) (n : h.get? a = none) : g.get? a = none ∧ a ≠ L := by
  constructor
  · cases q : g.get? a with
    | none => rfl
    | some o => have := F.keep _ _ q; rw [n] at this; (first | exact ff this | exact nn this | exact ns this | exact tf this | exact ln this | exact lc this | cases this)
  · rintro rfl
    obtain ⟨o, _, _, h1, _⟩ := F.ns
    rw [n] at h1; (first | exact ff h1 | exact nn h1 | exact ns h1 | exact tf h1 | exact ln h1 | exact lc h1 | cases h1)

theorem c_base {n : Nat} (MK : MethK B) (H : BsOk B) (TB : TakesBy B 20) (hrun : baseRun B.K = true) (hall : baseAll B.K bases = true) (O : FrB B fr 60) (F : Fr fr.g fr.L s.heap m) (hg : fr.g.get? S = none) (hL : S ≠ fr.L) (hS : SrcAt s.heap S) :
    wpAny (model B.prog B.w) fr.A (call (.ref (refOf B.K "_law_base")) [.ref S]) (Drawn B fr s S 44 40 11 []) (fun _ _ => False) s := by
  let ρ : Rho := ⟨none, some S, [], [], 0, 0, false, 0, 20, s, []⟩
  let G : Gl := ⟨B.prog, B.w, B.p, B.loose, B.mg, B.mb, B.cf 0 0 false, ρ, B.GF⟩
  have hG : G.bs = B := rfl
  have hm : ∀ ads, muts ρ ads = S :: ads := fun ads => rfl
  have MH : MethHyp G := methHyp (G := G) (hG ▸ MK) (show 4 ≤ 20 by decide) fun ω' e => by (first | exact ff e | exact nn e | exact ns e | exact tf e | exact ln e | exact lc e | cases e)
  have HH : HoleHyp G := ⟨fun ω' e => (by (first | exact ff e | exact nn e | exact ns e | exact tf e | exact ln e | exact lc e | cases e)), fun hi => (hi rfl).elim, fun hi => (hi rfl).elim, fun S' e => hG ▸ TB⟩
  have O' : FrmOk G fr ⟨fr.scope, 40⟩ := ⟨rfl, O.below, O.X, O.T, O.kind, O.hh, O.dbg, by have := O.room; show fr.A₀.depth + 40 + 20 + 20 ≤ recursionLimit; omega, by have := O.units; show fr.A₀.units + 10 * (40 + 20 + 20) ≤ cLine; omega, Nat.zero_le _⟩
  have C : Core ρ (AllBut ρ s []) ⟨[], [], ⟨none, [], 0, 0, 0⟩⟩ s [] := by
    refine ⟨⟨rfl, fun i a xs h => by simp at h⟩, fun ω' e => (by (first | exact ff e | exact nn e | exact ns e | exact tf e | exact ln e | exact lc e | cases e)), fun S' e => by (first | exact ff e | exact nn e | exact ns e | exact tf e | exact ln e | exact lc e | cases e); exact hS, fun b o e => e, by rw [hm]; simp, ⟨by show 0 ≤ 60; omega, by show 0 ≤ 60; omega, .inl rfl⟩, rfl, rfl, rfl⟩
  have new : ∀ a ∈ muts ρ [], fr.g.get? a = none ∧ a ≠ fr.L := fun a ha => by
    rw [hm] at ha
    simp only [List.mem_singleton] at ha
    subst ha
    exact ⟨hg, hL⟩
  have hrun' : run (B.cf 0 0 false) fuel (.call (refOf B.K "_law_base") [.src] kBase) ⟨fr.scope, 40⟩ ⟨[], [], ⟨none, [], 0, 0, 0⟩⟩ = true := by rw [cf_is H]; exact run_scope hrun
  refine wpAny_mono ((snd_all MH HH fuel).call hrun' O' F new C (.cons (.src rfl) .nil)) (fun v s' q => ?_) fun x s' q => ?_
  · obtain ⟨y, st', ads', r, C', l, _, hk⟩ := q
    obtain ⟨i, c, b, its, rfl, hits, hent⟩ := kBase_is hk
    clear hk hrun hrun' MH HH O'
    have hfine := all2_is hall _ hent
    obtain ⟨P, v0, v1, v2, nn, rfl, hT, r0, r1, r2⟩ := tup3_inv r
    obtain ⟨L, ha, rfl⟩ := r0.lst_inv
    obtain ⟨t, rfl⟩ := r1.int_inv
    obtain rfl := r2.bool_inv
    rw [nth_eq] at hits
    obtain ⟨us, ep, hLo, it⟩ := C'.lists.2 _ _ _ ha hits
    have hmem : L ∈ ads' := List.mem_of_getElem? ha
    have hnew := new_of (kp := AllBut ρ s []) C' l hmem List.not_mem_nil
    have hLS : L ≠ S := by
      have := C'.apart
      rw [hm] at this
      rintro rfl
      exact (List.nodup_cons.mp this).1 hmem
    have off := off_new F hnew
    exact ⟨P, L, spell [] its, c, b, rfl, ⟨⟨t, nn, hT⟩, ⟨us, ep, hLo, it.spelt (inner := []) .nil (textual_base _ hent)⟩, hLS, spell_good (fun _ q => (by (first | exact ff q | exact nn q | exact ns q | exact tf q | exact ln q | exact lc q | cases q))) (good_base _ hent)⟩, base_step MK H hfine, base_len hfine, deep_base _ hent, off.1, off.2, C'.src S rfl, fun b o e ne _ => (C'.kept b o ⟨e, by rw [hm]; simpa using ne⟩).1, C'.out⟩
  · obtain ⟨ho, _⟩ := q
    have ho : 60 < 0 + 0 ∨ 60 < 0 + 0 + 0 := ho
    omega
end
end Mine

namespace Mine
section
variable {B : Bs} {fr : Frm} {s : Shared} {m : Str → Option Value} {S : Addr}
theorem form_len {K : Frag} {b : Bool} {first : Wo} {its : List AV} {c : Nat} {b' : Bool} (told : List Str) (h : formFine K b first its c b' = true) : (spell told its).length ≤ told.length + 20 := by
  have hl := spell_len told its
  unfold formFine at h
  split at h
  · simp only [Bool.and_eq_true] at h
    have h5 := Nat.le_of_ble_eq_true h.1.1.1.2
    have h6 := Nat.le_of_ble_eq_true h.1.1.2
    have : inners its * told.length ≤ 1 * told.length := Nat.mul_le_mul_right _ h6
    omega
  · (first | exact ff h | exact nn h | exact ns h | exact tf h | exact ln h | exact lc h | cases h)
theorem c_form (MK : MethK B) (H : BsOk B) (TB : TakesBy B 20) (hrun : ∀ b, formsRun B.K b = true) (hall : ∀ b, fineAll B.K b (forms b) = true) (O : FrB B fr 60) (F : Fr fr.g fr.L s.heap m) (hg : fr.g.get? S = none) (hL : S ≠ fr.L) (hS : SrcAt s.heap S)
    {P L : Addr} {told : List Str} {e sz : Nat} {b : Bool} (hP : PartAt s.heap S P L told e b) (hok : PartOk B told e b sz) (h4 : 4 ≤ sz) (hlen : told.length ≤ 1000) (hLg : fr.g.get? L = none) (hLL : L ≠ fr.L) :
    wpAny (model B.prog B.w) fr.A (call (.ref (refOf B.K "_law_form")) [.ref S, .ref P]) (Drawn B fr s S (40 + sz) (told.length + 20) (3 + e) [L]) (fun _ _ => False) s := by
  obtain ⟨⟨te, np, hT0⟩, ⟨us0, n0, hL0, hstr⟩, hne, hgood⟩ := hP
  let ρ : Rho := ⟨none, some S, [], us0, 0, e, b, 0, 20, s, []⟩
  let G : Gl := ⟨B.prog, B.w, B.p, B.loose, B.mg, B.mb, B.cf 0 0 b, ρ, B.GF⟩
  have hG : G.bs = B := rfl
  have hm : ∀ ads, muts ρ ads = S :: ads := fun ads => rfl
  have MH : MethHyp G := methHyp (G := G) (hG ▸ MK) (show 4 ≤ 20 by decide) fun ω' e => by (first | exact ff e | exact nn e | exact ns e | exact tf e | exact ln e | exact lc e | cases e)
  have HH : HoleHyp G := ⟨fun ω' e => (by (first | exact ff e | exact nn e | exact ns e | exact tf e | exact ln e | exact lc e | cases e)), fun hi => (hi rfl).elim, fun hi => (hi rfl).elim, fun S' e => hG ▸ TB⟩
  have O' : FrmOk G fr ⟨fr.scope, 40⟩ := ⟨rfl, O.below, O.X, O.T, O.kind, O.hh, O.dbg, by have := O.room; show fr.A₀.depth + 40 + 20 + 20 ≤ recursionLimit; omega, by have := O.units; show fr.A₀.units + 10 * (40 + 20 + 20) ≤ cLine; omega, by show us0.length ≤ 1000; rw [hstr.1]; exact hlen⟩
  have hit : Items ρ [L] s.heap us0 [.inner] := by
    have : Items ρ [L] s.heap (ρ.ivs ++ []) [.inner] := .inner .nil
    rwa [List.append_nil] at this
  have C : Core ρ (AllBut ρ s [L]) ⟨[], [[.inner]], ⟨none, [], 0, 0, 0⟩⟩ s [L] := by
    refine ⟨⟨rfl, fun i a xs h1 h2 => ?_⟩, fun ω' e => (by (first | exact ff e | exact nn e | exact ns e | exact tf e | exact ln e | exact lc e | cases e)), fun S' e => by (first | exact ff e | exact nn e | exact ns e | exact tf e | exact ln e | exact lc e | cases e); exact hS, fun b o e => e, by rw [hm]; simpa using Ne.symm hne, ⟨by show 0 ≤ 60; omega, by show 0 ≤ 60; omega, .inl rfl⟩, rfl, rfl, rfl⟩
    match i, h1, h2 with
    | 0, h1, h2 => (first | exact ff h1 | exact nn h1 | exact ns h1 | exact tf h1 | exact ln h1 | exact lc h1 | cases h1); cases h2; exact ⟨us0, n0, hL0, hit⟩
  have new : ∀ a ∈ muts ρ [L], fr.g.get? a = none ∧ a ≠ fr.L := fun a ha => by
    rw [hm] at ha
    simp only [List.mem_cons, List.not_mem_nil, or_false] at ha
    rcases ha with rfl | rfl
    · exact ⟨hg, hL⟩
    · exact ⟨hLg, hLL⟩
  have rP : RepV ρ [L] s.heap (.ref P) (.tup [.lst 0, .sym 0, .bool b]) := by
    refine .tup hT0 rfl fun i v x h1 h2 => ?_
    match i, h1, h2 with
    | 0, h1, h2 => (first | exact ff h1 | exact nn h1 | exact ns h1 | exact tf h1 | exact ln h1 | exact lc h1 | cases h1); cases h2; exact .lst rfl
    | 1, h1, h2 =>
      (first | exact ff h1 | exact nn h1 | exact ns h1 | exact tf h1 | exact ln h1 | exact lc h1 | cases h1); cases h2
      have : RepV ρ [L] s.heap (.int (ρ.dsym + 0) te) (.sym 0) := .sym 0 te
      rwa [Int.add_zero] at this
    | 2, h1, h2 => (first | exact ff h1 | exact nn h1 | exact ns h1 | exact tf h1 | exact ln h1 | exact lc h1 | cases h1); cases h2; exact .bool b
  have hrun' : run (B.cf 0 0 b) fuel (.call (refOf B.K "_law_form") [.src, .tup [.lst 0, .sym 0, .bool b]] (kForm b)) ⟨fr.scope, 40⟩ ⟨[], [[.inner]], ⟨none, [], 0, 0, 0⟩⟩ = true := by rw [cf_is H]; exact run_scope (hrun b)
  refine wpAny_mono ((snd_all MH HH fuel).call hrun' O' F new C (.cons (.src rfl) (.cons rP .nil))) (fun v s' q => ?_) fun x s' q => ?_
  · obtain ⟨y, st', ads', r, C', l, _, hk⟩ := q
    obtain ⟨i, c, b', its, rfl, hits, hent⟩ := kForm_is hk
    clear hk hrun hrun' MH HH O'
    have hfine : ∀ first ∈ firsts b, formFine B.K b first its c b' = true := all2_is (all2_is (hall b) _ hent)
    obtain ⟨P', v0, v1, v2, nn, rfl, hT, r0, r1, r2⟩ := tup3_inv r
    obtain ⟨L', ha, rfl⟩ := r0.lst_inv
    obtain ⟨t, rfl⟩ := r1.sym_inv
    obtain rfl := r2.bool_inv
    rw [nth_eq] at hits
    obtain ⟨us, ep, hLo, it⟩ := C'.lists.2 _ _ _ ha hits
    have hmem : L' ∈ ads' := List.mem_of_getElem? ha
    have hLS : L' ≠ S := by
      have := C'.apart
      rw [hm] at this
      rintro rfl
      exact (List.nodup_cons.mp this).1 hmem
    have hT' : s'.heap.get? P' = some (tupObj [.ref L', .int ((c + e : Nat) : Int) t, .bool b'] nn) := by
      have hz : (ρ.dsym + Int.ofNat c) = ((c + e : Nat) : Int) := by
        show (e : Int) + (c : Int) = _
        omega
      rw [← hz]; exact hT
    have off : fr.g.get? L' = none ∧ L' ≠ fr.L := by
      by_cases q : L' = L
      · rw [q]; exact ⟨hLg, hLL⟩
      · exact off_new F (new_of (kp := AllBut ρ s [L]) C' l hmem (by simpa using q))
    obtain ⟨first, hfirst, _⟩ := id hok.start
    exact ⟨P', L', spell told its, c + e, b', rfl, ⟨⟨t, nn, hT'⟩, ⟨us, ep, hLo, it.spelt (inner := told) hstr (textual_ent b _ hent)⟩, hLS, spell_good hgood (good_form b _ hent)⟩, form_step MK H hok h4 hfine, form_len told (hfine first hfirst), Nat.add_le_add_right (deep_form b _ hent) e, off.1, off.2, C'.src S rfl,
      fun b o e ne ne' => (C'.kept b o ⟨e, by rw [hm]; simp only [List.mem_cons, List.not_mem_nil, or_false, not_or]; exact ⟨ne, by simpa using ne'⟩⟩).1, C'.out⟩
  · obtain ⟨ho, _⟩ := q
    have ho : 60 < 0 + 0 ∨ 60 < 0 + 0 + 0 := ho
    omega
end
end Mine

namespace Mine

noncomputable section
noncomputable def takeLT (w : Ws) : List Stmt := [.If (.Compare (.Subscript (.Name "source" (wp w 0)) (.Constant (.int (0 : Nat)) (wn w 1) (wp w 2)) (wp w 3)) [.Gt] [.Constant (.int (0 : Nat)) (wn w 4) (wp w 5)] (wp w 6)) [.Assign [.Name "drawn" (wp w 7)] (.BinOp (.Subscript (.Name "source" (wp w 8)) (.Constant (.int (0 : Nat)) (wn w 9) (wp w 10)) (wp w 11)) .Mod (.Name "top" (wp w 12)) (wp w 13)) (wp w 14), .Assign [.Subscript (.Name "source" (wp w 15)) (.Constant (.int (0 : Nat)) (wn w 16) (wp w 17)) (wp w 18)] (.BinOp (.Subscript (.Name "source" (wp w 19)) (.Constant (.int (0 : Nat)) (wn w 20) (wp w 21)) (wp w 22)) .FloorDiv (.Name "top" (wp w 23)) (wp w 24)) (wp w 25), .Return (some (.Name "drawn" (wp w 26))) (wp w 27)] [] (wp w 28), .Assign [.Subscript (.Name "source" (wp w 29)) (.Constant (.int (1 : Nat)) (wn w 30) (wp w 31)) (wp w 32)] (.BinOp (.BinOp (.BinOp (.Subscript (.Name "source" (wp w 33)) (.Constant (.int (1 : Nat)) (wn w 34) (wp w 35)) (wp w 36)) .Mult (.Constant (.int (39373 : Nat)) (wn w 37) (wp w 38)) (wp w 39)) .Add (.Constant (.int (7 : Nat)) (wn w 40) (wp w 41)) (wp w 42)) .Mod (.Constant (.int (2147483647 : Nat)) (wn w 43) (wp w 44)) (wp w 45)) (wp w 46), .Return (some (.BinOp (.BinOp (.BinOp (.BinOp (.Subscript (.Name "source" (wp w 47)) (.Constant (.int (1 : Nat)) (wn w 48) (wp w 49)) (wp w 50)) .Mult (.Subscript (.Name "source" (wp w 51)) (.Constant (.int (1 : Nat)) (wn w 52) (wp w 53)) (wp w 54)) (wp w 55)) .Mod (.Constant (.int (2147483629 : Nat)) (wn w 56) (wp w 57)) (wp w 58)) .FloorDiv (.Constant (.int (32 : Nat)) (wn w 59) (wp w 60)) (wp w 61)) .Mod (.Name "top" (wp w 62)) (wp w 63))) (wp w 64)]
noncomputable def takeLS (fd : FuncData) (_ : Ws) : Bool := noDf fd && (isLc fd "source" && (isLc fd "top" && isLc fd "drawn"))
noncomputable def okTakeL (K : Frag) (f : Addr) : Prop := Txt K f ["source", "top"] takeLT takeLS
end
end Mine
namespace Mine
theorem bits_small {j : Int} (h0 : 0 ≤ j) (h : j < 2147483647) : Builtin.Int.intBits j ≤ 64 := by
  unfold Builtin.Int.intBits
  split
  · omega
  · have : j.natAbs < 2 ^ 31 := by omega
    have hne : j.natAbs ≠ 0 := by rename_i q; simp at q; omega
    have := (Nat.log2_lt hne).mpr this
    omega
theorem bits_nat {k : Nat} (h : k ≤ 1000000) : Builtin.Int.intBits (k : Int) ≤ 64 := bits_small (by omega) (by omega)

section
variable {B : Bs} {fr : Frm} {n : Nat} {s : Shared} {m : Str → Option Value} {hp : Heap}
theorem it_list {Q : Value → Shared → Prop} {E : Value → Shared → Prop} {x : Str} {p b q : Pos} {c : Nat} {a : Addr} {vs : List Value} {j : Nat} {v : Value} (O : FrB B fr n) (F : Fr fr.g fr.L hp m) (hl : find x fr.scope.names = some .local) (hm : m x = some (.ref a))
    (ht : hp.IsList a vs.toArray) (hv : vs[j]? = some v) (hj : j < 100) (h : ∀ tk, Q v { s with toks := tk }) (hs : s.heap = hp := by rfl) :
    wpAny (model B.prog B.w) fr.A (eval (.Subscript (.Name x p) (.Constant (.int j) c b) q) fr.env) Q E s := by
  subst hs
  refine Subscript_ (nm O F hl hm (wpAny_Constant_int ?_))
  exact tail_any ht.typeIs PySem.slot_list_getitem.lookup (wpAny_getItem_list (k := (j : Int)) (x := v) ht (by omega) (by omega) (by simp [hv]) (h _)) rfl

theorem put_list {Q : Flow → Shared → Prop} {E : Value → Shared → Prop} {x : Str} {p b q r : Pos} {c : Nat} {a : Addr} {e : Expr} {j : Nat} (O : FrB B fr n) (hc : isComp e = false) (hl : find x fr.scope.names = some .local) (hj : j < 100)
    (h : wpAny (model B.prog B.w) fr.A (eval e fr.env) (fun v s₁ => ∃ (m : Str → Option Value) (vs : List Value), Fr fr.g fr.L s₁.heap m ∧ m x = some (.ref a) ∧ s₁.heap.IsList a vs.toArray ∧ j < vs.length ∧
      ∀ h' tk, h'.IsList a (vs.set j v).toArray → Heap.SameBut a s₁.heap h' → Q .next { s₁ with heap := h', toks := tk }) E s) :
    wpAny (model B.prog B.w) fr.A (exec (.Assign [.Subscript (.Name x p) (.Constant (.int j) c b) q] e r) fr.env) Q E s := by
  refine wpAny_Assign_Subscript (wpAny_mono h (fun v s₁ h₁ => ?_) fun _ _ e => e) (no_swap hc)
  obtain ⟨m, vs, F, hm, hil, hjl, hQ⟩ := h₁
  refine nm O F hl hm (wpAny_Constant_int ?_)
  refine wpAny_setItem_list hil (by omega) (by omega) (by simp; omega) fun h' hl' hsb => ?_
  refine hQ h' _ ?_ hsb
  have : (vs.set j v).toArray = vs.toArray.setIfInBounds (j : Int).toNat v := by simp
  rw [this]; exact hl'
end
end Mine

namespace Mine
theorem fmod_range {x : Int} {n : Nat} (hn : 1 ≤ n) : ∃ i : Nat, x.fmod n = (i : Int) ∧ i < n := by
  have h1 : 0 ≤ x.fmod n := Int.fmod_nonneg_of_pos x (by omega)
  have h2 : x.fmod n < n := Int.fmod_lt_of_pos x (by omega)
  exact ⟨(x.fmod n).toNat, by omega, by omega⟩

theorem drawn_of {x : Int} {n : Nat} {t : PySem.Tok} {R : Prop} (h1 : 1 ≤ n) (r : R) : ∃ (i : Nat) (t' : PySem.Tok), Value.int (x.fmod n) t = .int (Int.ofNat i) t' ∧ i < n ∧ R := by
  obtain ⟨i, hi, hlt⟩ := fmod_range (x := x) h1
  exact ⟨i, t, by rw [hi]; rfl, hlt, r⟩
set_option maxHeartbeats 1000000 in
theorem takesBy {B : Bs} {sz : Nat} (hsz : 1 ≤ sz) (hf : okTakeL B.K B.fTake) : TakesBy B sz := by
  intro fr S s n t m O F hg hL hS h1 h2
  obtain ⟨z, hz⟩ : ∃ z, sz = z + 1 := ⟨sz - 1, by omega⟩
  have O1 : FrB B fr (z + 1) := hz ▸ O
  obtain ⟨fd, w, hdef, hZ⟩ := hf
  obtain ⟨hnd, hZ⟩ := and_b hZ
  obtain ⟨hl1, hZ⟩ := and_b hZ
  obtain ⟨hl2, hl3⟩ := and_b hZ
  obtain ⟨q1, q2, q3, q4, q5⟩ := defOf_is hdef
  obtain ⟨i, j, ti, tj, oS, nS, hSo, hSc, hSd, hi, hj, hj2⟩ := hS
  have hSl : s.heap.IsList S [Value.int i ti, .int j tj].toArray := ⟨oS, hSo, hSc, nS, hSd⟩
  refine wpAny_abs fun Q hQ => enterQ O1 F [S] (by intro a h; simp only [List.mem_singleton] at h; subst h; exact ⟨hg, hL⟩) q1 q2 q3 (bind2 q2 q4 (noDf_is hnd) (by decide)) (show (["source", "top"] : List Str).Nodup by decide) q5 fun L s₁ hL' hkk ho O' F' => ?_
  have hSL : S ≠ L := by rintro rfl; cases hSo.symm.trans hL'
  clear q1 q2 q3 q4 q5 hdef hnd
  have gS : (hideAll s.heap [S]).get? S = none := hideAll_none _ (.head _)
  have hl₁ : s₁.heap.IsList S [Value.int i ti, .int j tj].toArray := ⟨oS, hkk _ _ hSo, hSc, nS, hSd⟩
  refine ex_flow fun Q1 n1 r1 => (wpAny_If (wpAny_isTrue_Compare1 (it_list (j := 0) O' F' (isLc_is hl1) rfl hl₁ rfl (by decide) fun tk => wpAny_Constant_int (PyProof.Rows.gt_int (wpAny_truthy_bool ?_))) rfl))
  by_cases hpos : 0 < i
  · rw [show decide (((0 : Nat) : Int) < i) = true by simpa using hpos]
    rw [if_pos rfl]
    obtain ⟨dd, hdd, hdlt⟩ := fmod_range (x := i) h1
    refine ex_next fun Q2 n2 => (wpAny_Assign_Name (wpAny_BinOp (it_list (j := 0) O' F' (isLc_is hl1) rfl hl₁ rfl (by decide) fun tk => nm O' F' (isLc_is hl2) rfl (PyProof.Rows.mod_int (by omega) ?_))))
    refine stN' O' F' (isLc_is hl3) fun h₂ tk₂ F₂ hsb => n2 _ ?_
    have hl₂ : h₂.IsList S [Value.int i ti, .int j tj].toArray := ⟨oS, (hsb.2 S hSL).trans (hkk _ _ hSo), hSc, nS, hSd⟩
    refine ex_next fun Q3 n3 => (put_list (a := S) O' rfl (isLc_is hl1) (by decide) (wpAny_BinOp (it_list (j := 0) O' F₂ (isLc_is hl1) rfl hl₂ rfl (by decide) fun tk => nm O' F₂ (isLc_is hl2) rfl (PyProof.Rows.floordiv_int (by omega) ?_ (.inl (PyProof.noPylong_small (by omega)))))))
    refine ⟨_, _, F₂, rfl, hl₂, (show 0 < 2 by decide), fun h₃ tk₃ hl₃ hsb₃ => n3 _ ?_⟩
    have F₃ : Fr (hideAll s.heap [S]) L h₃ _ := frBut F₂ (c := S) (fun b o ne q => (hsb₃.2 b ne).trans q) gS hSL
    refine wpAny_execs_cons (wpAny_Return_some (nm O' F₃ (isLc_is hl3) rfl ?_))
    obtain ⟨o3, ho3, hc3, n3, hd3⟩ := hl₃
    refine r1 _ _ (hQ _ _ ⟨dd, _, by show Value.int (i.fmod n) _ = _; rw [hdd]; rfl, hdlt, ⟨i.fdiv n, j, _, tj, o3, n3, ho3, hc3, hd3, Int.fdiv_nonneg hi (by omega), hj, hj2⟩, fun b o e ne => F₃.keep b o (hideAll_get _ e (by simpa using ne)), ho.trans ⟨rfl, rfl, rfl⟩⟩)
  · rw [show decide (((0 : Nat) : Int) < i) = false by simpa using hpos]
    rw [if_neg (by decide)]
    refine wpAny_execs_nil (n1 _ ?_)
    clear n1 r1
    refine ex_next fun Q2 n2 => (put_list (a := S) O' rfl (isLc_is hl1) (by decide) (wpAny_BinOp (wpAny_BinOp (wpAny_BinOp (it_list (j := 1) O' F' (isLc_is hl1) rfl hl₁ rfl (by decide) fun tk => wpAny_Constant_int (PyProof.Rows.mul_int ?_ (IntMulOk.of_right (bits_nat (k := 39373) (by decide)))))))))
    refine wpAny_Constant_int (PyProof.Rows.add_int (wpAny_Constant_int (PyProof.Rows.mod_int (by omega) ?_)))
    obtain ⟨jj, hjj, hjlt⟩ := fmod_range (x := j * (39373 : Nat) + (7 : Nat)) (n := 2147483647) (by omega)
    refine ⟨_, _, F', rfl, hl₁, (show 1 < 2 by decide), fun h₃ tk₃ hl₃ hsb₃ => n2 _ ?_⟩
    have F₃ : Fr (hideAll s.heap [S]) L h₃ _ := frBut F' (c := S) (fun b o ne q => (hsb₃.2 b ne).trans q) gS hSL
    have hl₃' : h₃.IsList S [Value.int i ti, .int ((j * (39373 : Nat) + (7 : Nat)).fmod (2147483647 : Nat)) _].toArray := hl₃
    rw [hjj] at hl₃'
    have hb : Builtin.Int.intBits (jj : Int) ≤ 64 := bits_small (by omega) (by omega)
    refine ex_flow fun Q3 _ r3 => (wpAny_Return_some (wpAny_BinOp (wpAny_BinOp (wpAny_BinOp (wpAny_BinOp ?_)))))
    refine it_list (j := 1) O' F₃ (isLc_is hl1) rfl hl₃' rfl (by decide) fun tk => ?_
    refine it_list (j := 1) O' F₃ (isLc_is hl1) rfl hl₃' rfl (by decide) fun tk => ?_
    refine PyProof.Rows.mul_int ?_ (IntMulOk.of_right hb)
    refine wpAny_Constant_int (PyProof.Rows.mod_int (by omega) (wpAny_Constant_int (PyProof.Rows.floordiv_int (by omega) ?_ (.inl (PyProof.noPylong_small (by omega))))))
    refine nm O' F₃ (isLc_is hl2) rfl (PyProof.Rows.mod_int (by omega) ?_)
    obtain ⟨o3, ho3, hc3, n3, hd3⟩ := hl₃'
    clear hjj hb
    refine r3 _ _ (hQ _ _ (drawn_of h1 ⟨?_, ?_, ?_⟩))
    · exact ⟨i, jj, ti, _, o3, n3, ho3, hc3, hd3, hi, Int.natCast_nonneg _, Int.ofNat_lt.mpr hjlt⟩
    · exact fun b o e ne => F₃.keep b o (hideAll_get _ e (by simpa using ne))
    · exact ho.trans ⟨rfl, rfl, rfl⟩
end Mine

namespace Mine

noncomputable def mAddr (K : Frag) (C : Addr) (x : Str) : Addr := match findIn K (.ref C) x with
  | some (some (.ref f)) => f
  | _ => 0
noncomputable def isBuiltinAt (K : Frag) (C : Addr) (x : Str) (i : String) : Bool := match findIn K (.ref C) x with
  | some (some (.builtin j)) => decide (j = i)
  | _ => false
theorem isBuiltinAt_is {K : Frag} {C : Addr} {x : Str} {i : String} (h : isBuiltinAt K C x i = true) : findIn K (.ref C) x = some (some (.builtin i)) := by
  unfold isBuiltinAt at h
  split at h
  · rename_i q; rw [q, of_decide_eq_true h]
  · (first | exact ff h | exact nn h | exact ns h | exact tf h | exact ln h | exact lc h | cases h)
noncomputable def isNoneAt (K : Frag) (C : Addr) (x : Str) : Bool := match findIn K (.ref C) x with
  | some none => true
  | _ => false
theorem isNoneAt_is {K : Frag} {C : Addr} {x : Str} (h : isNoneAt K C x = true) : findIn K (.ref C) x = some none := by
  unfold isNoneAt at h
  split at h <;> first | assumption | (first | exact ff h | exact nn h | exact ns h | exact tf h | exact ln h | exact lc h | cases h)
noncomputable def isTakerNone (K : Frag) (C : Addr) (x : Str) : Bool := match takerIn K C x with
  | some none => true
  | _ => false
theorem isTakerNone_is {K : Frag} {C : Addr} {x : Str} (h : isTakerNone K C x = true) : takerIn K C x = some none := by
  unfold isTakerNone at h
  split at h <;> first | assumption | (first | exact ff h | exact nn h | exact ns h | exact tf h | exact ln h | exact lc h | cases h)
noncomputable def isFnT (K : Frag) (f : Addr) : Bool := match typeIn K (.ref f) with
  | some (.type t) => decide (t = "function")
  | _ => false
theorem isFnT_is {K : Frag} {f : Addr} (h : isFnT K f = true) : typeIn K (.ref f) = some (.type "function") := by
  unfold isFnT at h
  split at h
  · rename_i q; rw [q, of_decide_eq_true h]
  · (first | exact ff h | exact nn h | exact ns h | exact tf h | exact ln h | exact lc h | cases h)
noncomputable def hasM (K : Frag) (C : Addr) (x : Str) : Bool := match findIn K (.ref C) x with
  | some (some (.ref f)) => isFnT K f && keepIn K (.ref f)
  | _ => false
theorem hasM_is {K : Frag} {C : Addr} {x : Str} (h : hasM K C x = true) : findIn K (.ref C) x = some (some (.ref (mAddr K C x))) ∧ typeIn K (.ref (mAddr K C x)) = some (.type "function") ∧ keepIn K (.ref (mAddr K C x)) = true := by
  unfold hasM at h
  split at h
  · rename_i f q
    simp only [Bool.and_eq_true] at h
    have : mAddr K C x = f := by unfold mAddr; rw [q]
    rw [this]
    exact ⟨q, isFnT_is h.1, h.2⟩
  · (first | exact ff h | exact nn h | exact ns h | exact tf h | exact ln h | exact lc h | cases h)
noncomputable def refIs (K : Frag) (x : Str) : Bool := match nsIn K mainGlobals x with
  | some (some (.ref _)) => true
  | _ => false
theorem refIs_is {K : Frag} {x : Str} (h : refIs K x = true) : nsIn K mainGlobals x = some (some (.ref (refOf K x))) := by
  unfold refIs at h
  split at h
  · rename_i a q
    have : refOf K x = a := by unfold refOf; rw [q]
    rw [this]; exact q
  · (first | exact ff h | exact nn h | exact ns h | exact tf h | exact ln h | exact lc h | cases h)
noncomputable def clsOk (K : Frag) (C : Addr) : Bool := isBuiltinAt K C "__getattribute__" "object.__getattribute__" && isNoneAt K C "__getattr__" && isBuiltinAt K C "__setattr__" "object.__setattr__" && hasDictIn K C && plainOver K C &&
  isNoneAt K C "rows" && isNoneAt K C "at" && isNoneAt K C "deep" && isTakerNone K C "at" && isTakerNone K C "deep"
theorem clsOk_is {B : Bs} (h : clsOk B.K B.C = true) : ClsK B := by
  unfold clsOk at h
  simp only [Bool.and_eq_true] at h
  obtain ⟨⟨⟨⟨⟨⟨⟨⟨⟨h1, h2⟩, h3⟩, h4⟩, h5⟩, h6⟩, h7⟩, h8⟩, h9⟩, h10⟩ := h
  exact ⟨isBuiltinAt_is h1, isNoneAt_is h2, isBuiltinAt_is h3, h4, h5, isNoneAt_is h6, isNoneAt_is h7, isNoneAt_is h8, isTakerNone_is h9, isTakerNone_is h10⟩
noncomputable def eiOk (K : Frag) : Bool := match findCls K (.type "Exception") (.type "type") "__init__" with
  | some (.val (.builtin i)) => decide (i = "Exception.__init__")
  | _ => false
/-- the fault's class and how it is laid down -/
noncomputable def faultE (K : Frag) (C : Addr) : Prop := (K.lookup C).map (excAs C) = K.lookup C ∧ TE K (mAddr K C "__init__") ["self", "message", "spot"] lendT
noncomputable def faultB (K : Frag) (C : Addr) : Bool := ((K.lookup C).elim false fun o => hasExc (cdOf o).mro.tail) && (hasM K C "__init__" && (isBuiltinAt K C "__setattr__" "object.__setattr__" && (overX K C && (hasDictIn K C && (isTakerNone K C "message" && (isTakerNone K C "spot" &&
  (TB K (mAddr K C "__init__") ["self", "message", "spot"] (lendS K) && eiOk K)))))))
theorem faultOk_is {B : Bs} (e : faultE B.K B.GF) (h : faultB B.K B.GF = true) : FaultK B (mAddr B.K B.GF "__init__") := by
  obtain ⟨e1, e2⟩ := e
  obtain ⟨h1, h⟩ := and_b h
  obtain ⟨h2, h⟩ := and_b h
  obtain ⟨h3, h⟩ := and_b h
  obtain ⟨h4, h⟩ := and_b h
  obtain ⟨h5, h⟩ := and_b h
  obtain ⟨h6, h⟩ := and_b h
  obtain ⟨h7, h⟩ := and_b h
  obtain ⟨h8, h9⟩ := and_b h
  obtain ⟨m1, m2, _⟩ := hasM_is h2
  refine ⟨?_, m1, m2, isBuiltinAt_is h3, h4, h5, isTakerNone_is h6, isTakerNone_is h7, txt_of e2 h8, ?_⟩
  · revert e1 h1
    cases B.K.lookup B.GF with
    | none => intro _ h1; exact Bool.noConfusion h1
    | some o => intro e1 h1; exact ⟨o, rfl, (Option.some.inj e1).symm, h1⟩
  · unfold eiOk at h9
    split at h9
    · rename_i q; rw [q, of_decide_eq_true h9]
    · (first | exact ff h9 | exact nn h9 | exact ns h9 | exact tf h9 | exact ln h9 | exact lc h9 | cases h9)
structure methsE (K : Frag) (C : Addr) : Prop where
  peek : TE K (mAddr K C "peek") ["self", "ahead"] peekT
  looks : TE K (mAddr K C "looks") ["self", "text", "ahead"] looksT
  take : TE K (mAddr K C "take") ["self"] takeT
  expect : TE K (mAddr K C "expect") ["self", "text"] expectT
  name : TE K (mAddr K C "name") ["self"] nameT
  deeper : TE K (mAddr K C "deeper") ["self"] deeperT
  shal : TE K (mAddr K C "shallower") ["self"] shalT
noncomputable def methB (K : Frag) (C : Addr) (x : Str) (names : List Str) (S : FuncData → Ws → Bool) : Bool := hasM K C x && TB K (mAddr K C x) names S
noncomputable def methsB (K : Frag) (C : Addr) : Bool := methB K C "peek" ["self", "ahead"] (peekS K) && (methB K C "looks" ["self", "text", "ahead"] (looksS K) && (methB K C "take" ["self"] takeS && (methB K C "expect" ["self", "text"] expectS &&
  (methB K C "name" ["self"] nameS && (methB K C "deeper" ["self"] deeperS && methB K C "shallower" ["self"] shalS)))))
theorem methB_is {B : Bs} {x : Str} {names : List Str} {T : Ws → List Stmt} {S : FuncData → Ws → Bool} (h : methB B.K B.C x names S = true) (e : TE B.K (mAddr B.K B.C x) names T) : ∃ f, Mt B x f ∧ Txt B.K f names T S := by
  obtain ⟨h1, h2⟩ := and_b h
  obtain ⟨p, q, r⟩ := hasM_is h1
  exact ⟨_, ⟨p, q, r⟩, txt_of e h2⟩
noncomputable def mdOk (K : Frag) : Bool := match nsIn K mainGlobals "MOST_DEEP" with
  | some (some (.int (.ofNat k) _)) => Nat.beq k 60
  | _ => false
noncomputable def keysStr : List DictEntry → Bool
  | [] => true
  | e :: r => match e.key with
    | .str _ _ => keysStr r
    | _ => false
noncomputable def keyH (P : Params) (e : DictEntry) : Int := match e.key with
  | .str x _ => PyData.keyHash P x
  | _ => e.hash
theorem keysLit_of {P : Params} : ∀ {l : List DictEntry}, keysStr l = true → l.map (·.hash) = l.map (keyH P) → KeysLit P l
  | [], _, _ => trivial
  | e :: r, h, hh => by
    simp only [List.map_cons, List.cons.injEq] at hh
    unfold keysStr at h
    split at h
    · rename_i x t hk
      refine ⟨⟨x, t, hk, ?_⟩, keysLit_of h hh.2⟩
      have := hh.1
      unfold keyH at this
      rw [hk] at this
      exact this
    · (first | exact ff h | exact nn h | exact ns h | exact tf h | exact ln h | exact lc h | cases h)
noncomputable def levEs (K : Frag) : List DictEntry := match K.lookup (refOf K "LEVELS") with
  | some ⟨_, _, .dict es _, _⟩ => es.toList
  | _ => []
noncomputable def levOk (K : Frag) : Bool := match K.lookup (refOf K "LEVELS") with
  | some ⟨.type t, none, .dict es _, sl⟩ => decide (t = "dict") && isNil sl.toList && keysStr es.toList && !(refOf K "LEVELS" == sysModules)
  | _ => false
theorem methK_of {B : Bs} (hG : B.GF = refOf B.K "GrammarFault") (h1 : clsOk B.K B.C = true) (e2 : faultE B.K B.GF) (h2 : faultB B.K B.GF = true) (e3 : methsE B.K B.C) (h3 : methsB B.K B.C = true) (h4 : refIs B.K "GrammarFault" = true) (h5 : keepIn B.K (.ref B.GF) = true) (h6 : mdOk B.K = true) (h7 : levOk B.K = true)
    (h8 : (levEs B.K).map (·.hash) = (levEs B.K).map (keyH B.w.params)) : MethK B := by
  obtain ⟨a1, h3⟩ := and_b h3
  obtain ⟨a2, h3⟩ := and_b h3
  obtain ⟨a3, h3⟩ := and_b h3
  obtain ⟨a4, h3⟩ := and_b h3
  obtain ⟨a5, h3⟩ := and_b h3
  obtain ⟨a6, a7⟩ := and_b h3
  refine ⟨clsOk_is h1, ⟨_, faultOk_is e2 h2⟩, methB_is a1 e3.peek, methB_is a2 e3.looks, methB_is a3 e3.take, methB_is a4 e3.expect, methB_is a5 e3.name, methB_is a6 e3.deeper, methB_is a7 e3.shal, hG ▸ refIs_is h4, h5, ?_, fun d hd => ?_⟩
  · unfold mdOk at h6
    split at h6
    · rename_i k t q
      rw [Nat.eq_of_beq_eq_true h6] at q
      exact ⟨t, q⟩
    · (first | exact ff h6 | exact nn h6 | exact ns h6 | exact tf h6 | exact ln h6 | exact lc h6 | cases h6)
  · have hd' : refOf B.K "LEVELS" = d := by unfold refOf; rw [hd]
    unfold levOk at h7
    unfold levEs at h8
    rw [hd'] at h7 h8
    split at h7
    · rename_i t es n sl q
      rw [q] at h8
      simp only [Bool.and_eq_true, Bool.not_eq_true', decide_eq_true_eq] at h7
      obtain ⟨⟨⟨rfl, c2⟩, c3⟩, c4⟩ := h7
      obtain rfl : sl = #[] := Array.toList_inj.mp (isNil_iff c2)
      exact ⟨es, n, q, keysLit_of c3 h8, c4⟩
    · (first | exact ff h7 | exact nn h7 | exact ns h7 | exact tf h7 | exact ln h7 | exact lc h7 | cases h7)
noncomputable def twoOk (K : Frag) (f : Addr) : Bool := match fnAt K f with
  | some fd => match fd.params.args, dflts K fd.defaults with
    | [_, _], some [.bool false] => true
    | _, _ => false
  | none => false
theorem bsOk_of {B : Bs} (C : B.C = refOf B.K "Words") (ex : B.fExpr = refOf B.K "read_expr") (bl : B.fBlock = refOf B.K "read_block_like") (tk : B.fTake = refOf B.K "_law_take") (h : twoOk B.K B.fExpr = true) (ne : Nat.beq B.fExpr B.fTake = false) : BsOk B := by
  refine ⟨C, ex, bl, tk, ?_, ne⟩
  unfold twoOk at h
  split at h
  · rename_i fd q
    split at h
    · rename_i q1 q2; exact ⟨fd, _, _, q, q1, q2⟩
    · (first | exact ff h | exact nn h | exact ns h | exact tf h | exact ln h | exact lc h | cases h)
  · (first | exact ff h | exact nn h | exact ns h | exact tf h | exact ln h | exact lc h | cases h)
end Mine

namespace Mine
noncomputable section
noncomputable def poolT (w : Ws) : List Stmt := [.Assign [.Name "cell" (wp w 0)] (.IfExp (.Compare (.Name "script" (wp w 1)) [.NotEq] [.List [] (wp w 2)] (wp w 3)) (.Subscript (.Name "script" (wp w 4)) (.Constant (.int (0 : Nat)) (wn w 5) (wp w 6)) (wp w 7)) (.Constant (.int (0 : Nat)) (wn w 8) (wp w 9)) (wp w 10)) (wp w 11), .Assign [.Name "great" (wp w 12)] (.Call (.Name "max" (wp w 13)) [.Name "cell" (wp w 14), .BinOp (.UnaryOp .USub (.Constant (.int (1 : Nat)) (wn w 15) (wp w 16)) (wp w 17)) .Sub (.Name "cell" (wp w 18)) (wp w 19)] [] (wp w 20)) (wp w 21), .Return (some (.List [.IfExp (.Compare (.Name "great" (wp w 22)) [.GtE] [.BinOp (.Constant (.int (10 : Nat)) (wn w 23) (wp w 24)) .Pow (.Constant (.int (18 : Nat)) (wn w 25) (wp w 26)) (wp w 27)] (wp w 28)) (.Name "great" (wp w 29)) (.Constant (.int (0 : Nat)) (wn w 30) (wp w 31)) (wp w 32), .BinOp (.BinOp (.BinOp (.BinOp (.Name "great" (wp w 33)) .Mod (.Constant (.int (2147483629 : Nat)) (wn w 34) (wp w 35)) (wp w 36)) .Add (.Constant (.int (17 : Nat)) (wn w 37) (wp w 38)) (wp w 39)) .Mult (.Constant (.int (48271 : Nat)) (wn w 40) (wp w 41)) (wp w 42)) .Mod (.Constant (.int (2147483647 : Nat)) (wn w 43) (wp w 44)) (wp w 45)] (wp w 46))) (wp w 47)]
noncomputable def poolS (K : Frag) (fd : FuncData) (_ : Ws) : Bool := noDf fd && (isLc fd "script" && (isLc fd "cell" && (isLc fd "great" && (isGl fd "max" && noneK K "max"))))
noncomputable def okPool (K : Frag) (f : Addr) : Prop := Txt K f ["script"] poolT (poolS K)

section
variable {B : Bs} {fr : Frm} {n : Nat} {s : Shared} {m : Str → Option Value} {hp : Heap}
/-- the cell is read: an int -/
theorem x_cell {Q : Value → Shared → Prop} {E : Value → Shared → Prop} {p1 p2 p3 p4 b q p6 p7 : Pos} {c a1 : Nat} {l : Addr} {vs : List Value} {ns : List Int} (O : FrB B fr n) (F : Fr fr.g fr.L s.heap m) (hl : find "script" fr.scope.names = some .local) (hm : m "script" = some (.ref l))
    (hL : fr.g.IsList l vs.toArray) (hi : IntsAre vs ns) (hQ : ∀ i t h' tk, Kept s.heap h' → Q (.int i t) { s with heap := h', toks := tk }) :
    wpAny (model B.prog B.w) fr.A (eval (.IfExp (.Compare (.Name "script" p1) [.NotEq] [.List [] p2] p3) (.Subscript (.Name "script" p4) (.Constant (.int (0 : Nat)) c b) q) (.Constant (.int (0 : Nat)) a1 p6) p7) fr.env) Q E s := by
  refine IfExp_ (wpAny_isTrue_Compare1 (nm O F hl hm (List_ (spliced_none ?_))) rfl)
  refine wpAny_newObj_type (T := "list") (data := .seq #[]) (dict := none) ?_ (show 0 ≤ sizeLine from Nat.zero_le _)
  have k : Kept s.heap (s.heap.push (listObj [] 0)) := fun b o e => Heap.get?_push_of_some _ e
  have F₁ := frExt F k
  obtain ⟨o, ho, hc, ep, hd⟩ := hL
  have hl₁ : (s.heap.push (listObj [] 0)).IsList l vs.toArray := ⟨o, F₁.keep _ _ ho, hc, ep, hd⟩
  have hl₂ : (s.heap.push (listObj [] 0)).IsList s.heap.objs.size ([] : List Value).toArray := ⟨_, Heap.get?_push_size _ rfl, rfl, 0, rfl⟩
  refine ne_intsK hl₁ hi hl₂ .nil (by have := O.units; show fr.A₀.units + 3 + 64 < cLine; omega) (wpAny_truthy_bool ?_)
  cases hi with
  | nil =>
    simp only [decide_true, Bool.not_true, Bool.false_eq_true, if_false]
    exact wpAny_Constant_int (hQ _ _ _ _ k)
  | cons i t r =>
    rename_i vs' ns'
    rw [show (!decide (i :: ns' = [])) = true by simp]
    simp only [if_true]
    exact it_list (j := 0) O F₁ hl hm hl₁ rfl (by decide) fun tk => hQ _ _ _ _ k

end
end
end Mine

namespace Mine
theorem seed_range (x : Int) : 0 ≤ x.fmod (2147483647 : Nat) ∧ x.fmod (2147483647 : Nat) < 2147483647 :=
  ⟨Int.fmod_nonneg_of_pos x (by omega), Int.fmod_lt_of_pos x (by omega)⟩
theorem great_nonneg (c : Int) : 0 ≤ (if -1 - c > c then -1 - c else c) := by split <;> omega
theorem max_two' {prog : Program} {w : World} {A : Around} {E : Value → Shared → Prop} {s : Shared} {a b : Int} {t u : PySem.Tok} {Q : Value → Shared → Prop} (hh : A.handled = none)
    (h : ∀ h' tk v, Kept s.heap h' → Q (.int (if b > a then b else a) v) { s with heap := h', toks := tk }) : wpAny (model prog w) A (call (.builtin "max") [.int a t, .int b u]) Q E s := by
  refine max_two_ints hh fun h' tk hk => ?_
  by_cases hc : b > a
  · rw [if_pos hc]; have := h h' tk u hk; rwa [if_pos hc] at this
  · rw [if_neg hc]; have := h h' tk t hk; rwa [if_neg hc] at this

section
variable {B : Bs} {fr : Frm} {n : Nat} {s : Shared} {m : Str → Option Value}
/-- the second number is laid down, the list is made -/
theorem x_seed {Q : Value → Shared → Prop} {E : Value → Shared → Prop} {d2 j1 j3 j4 j6 j7 j9 j10 j12 j13 : Pos} {j2 j5 j8 j11 k2 k3 : Nat} {gv iv : Int} {gt it : PySem.Tok} {hp : Heap} (O : FrB B fr n) (F : Fr fr.g fr.L hp m) (hl : find "great" fr.scope.names = some .local) (hm : m "great" = some (.int gv gt)) (hk3 : k3 ≤ 1000000)
    (h : ∀ z t' tk, 0 ≤ z → z < 2147483647 → Q (.ref s.heap.objs.size) { s with heap := s.heap.push (listObj [.int iv it, .int z t'] 0), toks := tk }) (hs : s.heap = hp := by rfl) :
    wpAny (model B.prog B.w) fr.A (spliced (backTo d2 (starEach [.BinOp (.BinOp (.BinOp (.BinOp (.Name "great" j1) .Mod (.Constant (.int (2147483629 : Nat)) j2 j3) j4) .Add (.Constant (.int (k2 : Nat)) j5 j6) j7) .Mult (.Constant (.int (k3 : Nat)) j8 j9) j10) .Mod (.Constant (.int (2147483647 : Nat)) j11 j12) j13] fr.env)))
      (fun vs' s₂ => wpAny (model B.prog B.w) fr.A (newList (.int iv it :: vs')) Q E s₂) E s := by
  subst hs
  refine spliced_more (wpAny_BinOp (wpAny_BinOp (wpAny_BinOp (wpAny_BinOp (nm O F hl hm (wpAny_Constant_int (PyProof.Rows.mod_int (by omega) ?_)))))))
  refine wpAny_Constant_int (PyProof.Rows.add_int (wpAny_Constant_int (PyProof.Rows.mul_int ?_ (IntMulOk.of_right (bits_nat hk3)))))
  refine wpAny_Constant_int (PyProof.Rows.mod_int (by omega) (spliced_none ?_))
  generalize hz : Int.fmod _ ((2147483647 : Nat) : Int) = z
  have hr := seed_range ((gv.fmod (2147483629 : Nat) + k2) * k3)
  rw [hz] at hr
  exact wpAny_newObj_type (T := "list") (data := .seq #[.int iv it, .int z _]) (dict := none) (h z _ _ hr.1 hr.2) (show 2 ≤ sizeLine by rw [sizeLine_eq]; decide)

theorem c_pool {f : Addr} (hf : okPool B.K f) (O : FrB B fr (n + 1)) (F : Fr fr.g fr.L s.heap m) {l : Addr} {vs : List Value} {ns : List Int} (hL : s.heap.IsList l vs.toArray) (hi : IntsAre vs ns) :
    wpAny (model B.prog B.w) fr.A (call (.ref f) [.ref l]) (fun v s' => ∃ S, v = .ref S ∧ s.heap.get? S = none ∧ SrcAt s'.heap S ∧ Kept s.heap s'.heap ∧ OutAs s s') (fun _ _ => False) s := by
  obtain ⟨fd, w, hdef, hS⟩ := hf
  obtain ⟨hnd, hS⟩ := and_b hS
  obtain ⟨hl1, hS⟩ := and_b hS
  obtain ⟨hl2, hS⟩ := and_b hS
  obtain ⟨hl3, hS⟩ := and_b hS
  obtain ⟨hg, hn⟩ := and_b hS
  obtain ⟨q1, q2, q3, q4, q5⟩ := defOf_is hdef
  have hne : (Str.ofString "max") ≠ "__name__" := by decide
  refine wpAny_abs fun Q hQ => enterQ O F [] (by intro a h; (first | exact ff h | exact nn h | exact ns h | exact tf h | exact ln h | exact lc h | cases h)) q1 q2 q3 (bind1 q2 q4 (noDf_is hnd)) (show (["script"] : List Str).Nodup by decide) q5 fun L s₁ hL' hkk ho O' F' => ?_
  clear q1 q2 q3 q4 q5 hdef hnd
  have hLg : (hideAll s.heap []).IsList l vs.toArray := hL
  refine wpAny_execs_cons (wpAny_Assign_Name (x_cell O' F' (isLc_is hl1) rfl hLg hi fun cv ct h₂ tk₂ hk₂ => ?_) (no_swap rfl))
  refine stN' O' (frExt F' hk₂) (isLc_is hl2) fun h₃ tk₃ F₃ _ => ?_
  refine wpAny_execs_cons (wpAny_Assign_Name (Call_ (bnm O' F₃ (isGl_is hg) (noneK_is hn) PyProof.Rows.boot_max hne ?_)))
  refine callWith_builtin rfl (evalArgs_plain (spliced_cons (nm O' F₃ (isLc_is hl2) rfl (spliced_cons (wpAny_BinOp (UnaryOp_ (wpAny_Constant_int (PyProof.Rows.neg_int ?_))))))))
  refine nm O' F₃ (isLc_is hl2) rfl (PyProof.Rows.sub_int (spliced_nil ?_))
  refine max_two' O'.hh fun h₄ tk₄ v₄ hk₄ => ?_
  have hgr : 0 ≤ (if -((1 : Nat) : Int) - cv > cv then -((1 : Nat) : Int) - cv else cv) := great_nonneg cv
  generalize (if -((1 : Nat) : Int) - cv > cv then -((1 : Nat) : Int) - cv else cv) = gv at hgr
  refine stN' O' (frExt F₃ hk₄) (isLc_is hl3) fun h₅ tk₅ F₅ _ => ?_
  have hnew : s.heap.get? h₅.objs.size = none := by
    cases q : s.heap.get? h₅.objs.size with
    | none => rfl
    | some o => exact (Nat.lt_irrefl _ (Heap.lt_size (F₅.keep _ o q))).elim
  have fin : ∀ (iv : Int) (it : PySem.Tok) (z : Int) (t' : PySem.Tok) (tk : Nat), 0 ≤ iv → 0 ≤ z → z < 2147483647 → ∃ S, flowV (.ret (.ref h₅.objs.size)) = .ref S ∧ s.heap.get? S = none ∧ SrcAt (h₅.push (listObj [.int iv it, .int z t'] 0)) S ∧ Kept s.heap (h₅.push (listObj [.int iv it, .int z t'] 0)) ∧ OutAs s { heap := h₅.push (listObj [.int iv it, .int z t'] 0), gens := s₁.gens, drawn := s₁.drawn, toks := tk, os := s₁.os } := fun iv it z t' tk h1 h2 h3 =>
    ⟨_, rfl, hnew, ⟨iv, z, it, t', _, 0, Heap.get?_push_size _ rfl, rfl, rfl, h1, h2, h3⟩, fun b o e => Heap.get?_push_of_some _ (F₅.keep b o e), ho.trans ⟨rfl, rfl, rfl⟩⟩
  refine wpAny_execs_cons (wpAny_Return_some (List_ (spliced_more (IfExp_ (wpAny_isTrue_Compare1 (nm O' F₅ (isLc_is hl3) rfl (wpAny_BinOp (wpAny_Constant_int (wpAny_Constant_int (PyProof.Rows.pow_int (by omega) (by decide +kernel) ?_))))) rfl)))))
  refine PyProof.Rows.ge_int (wpAny_truthy_bool ?_)
  cases decide (((10 : Nat) : Int) ^ ((18 : Nat) : Int).toNat ≤ gv) with
  | true =>
    rw [if_pos rfl]
    exact nm O' F₅ (isLc_is hl3) rfl (x_seed O' F₅ (isLc_is hl3) rfl (by decide) fun z t' tk z1 z2 => hQ _ _ (fin gv _ z t' tk hgr z1 z2))
  | false =>
    rw [if_neg (by decide)]
    exact wpAny_Constant_int (x_seed O' F₅ (isLc_is hl3) rfl (by decide) fun z t' tk z1 z2 => hQ _ _ (fin _ _ z t' tk (Int.natCast_nonneg _) z1 z2))
end
end Mine

namespace Mine
noncomputable section
noncomputable def initT (w : Ws) : List Stmt := [.Assign [.Attribute (.Name "self" (wp w 0)) "rows" (wp w 1)] (.Call (.Name "list" (wp w 2)) [.Name "rows" (wp w 3)] [] (wp w 4)) (wp w 5), .Assign [.Attribute (.Name "self" (wp w 6)) "at" (wp w 7)] (.Constant (.int (0 : Nat)) (wn w 8) (wp w 9)) (wp w 10), .Assign [.Attribute (.Name "self" (wp w 11)) "deep" (wp w 12)] (.Constant (.int (0 : Nat)) (wn w 13) (wp w 14)) (wp w 15)]
noncomputable def initS (K : Frag) (fd : FuncData) (_ : Ws) : Bool := noDf fd && (isLc fd "self" && (isLc fd "rows" && (isGl fd "list" && noneK K "list")))
noncomputable def okInit (K : Frag) (f : Addr) : Prop := Txt K f ["self", "rows"] initT (initS K)
end
end Mine

namespace Mine
section
variable {B : Bs} {fr : Frm} {n n' : Nat} {s : Shared} {m : Str → Option Value}
/-- Words.__init__, from within the call of the class -/
theorem c_init {f : Addr} {R : Result → Shared → Prop} {A : Around} (CK : ClsK B) (t1 : takerIn B.K B.C "rows" = some none) (hf : okInit B.K f) (O : FrB B fr n') (F : Fr fr.g fr.L s.heap m)
    (hst : A.frames = some (fr.env :: fr.outer)) (hh : A.handled = none) (hroom : A.depth + n + 20 ≤ recursionLimit) (hunits : A.units + 10 * (n + 20) ≤ cLine)
    {x dx l : Addr} {vs : List Value} (hx : s.heap.get? x = some (instObj B.C dx)) (hdx : s.heap.get? dx = some emptyDict) (xg : fr.g.get? x = none) (xL : x ≠ fr.L) (dg : fr.g.get? dx = none) (dL : dx ≠ fr.L) (hxd : x ≠ dx)
    (hl : s.heap.IsList l vs.toArray) (hsz : vs.length ≤ 1000000)
    (h : ∀ s' R' h1 h2 h3 k1 k2 k3 ta td np c', (∀ b o, s.heap.get? b = some o → b ≠ dx → s'.heap.get? b = some o) → s.heap.get? R' = none → s'.heap.get? R' = some (listObj vs c') →
      s'.heap.get? dx = some (dictOf [⟨h1, .str "rows" k1, .ref R'⟩, ⟨h2, .str "at" k2, .int (0 : Nat) ta⟩, ⟨h3, .str "deep" k3, .int (0 : Nat) td⟩] np) → OutAs s s' → R (.ok (.ret .none)) s') :
    codeAny (model B.prog B.w) A (.call (.ref f) ⟨[.ref x, .ref l], []⟩) R s := by
  obtain ⟨fd, w, hdef, hS⟩ := hf
  obtain ⟨hnd, hS⟩ := and_b hS
  obtain ⟨hl1, hS⟩ := and_b hS
  obtain ⟨hl2, hS⟩ := and_b hS
  obtain ⟨hg, hn⟩ := and_b hS
  obtain ⟨q1, q2, q3, q4, q5⟩ := defOf_is hdef
  have X := O.X.keeps F.keep
  refine enterA (n := n) O F [dx] (by intro a h; simp only [List.mem_singleton] at h; subst h; exact ⟨dg, dL⟩) hst hh hroom hunits q1 q2 q3 (bind2 q2 q4 (noDf_is hnd) (by decide)) (show (["self", "rows"] : List Str).Nodup by decide) q5 fun L s₁ hL hk ho O' F' => ?_
  have dLL : dx ≠ L := by rintro rfl; rw [hdx] at hL; (first | exact ff hL | exact nn hL | exact ns hL | exact tf hL | exact ln hL | exact lc hL | cases hL)
  have gd : (hideAll s.heap [dx]).get? dx = none := hideAll_none _ (.head _)
  have gx : (hideAll s.heap [dx]).get? x = some (instObj B.C dx) := hideAll_get _ hx (by simpa using hxd)
  obtain ⟨ol, hol, hcl, ep, hdl⟩ := hl
  have hne : (Str.ofString "list") ≠ "__name__" := by decide
  refine wpAny_execs_cons (plainObj_wpAny_Assign_Attribute (Call_ (bnm O' F' (isGl_is hg) (noneK_is hn) PyProof.Rows.Boot.«list» hne ?_)))
  refine PyProof.Rows.callWith_type rfl (evalArgs_plain (spliced_cons (nm O' F' (isLc_is hl2) rfl (spliced_nil ?_))))
  refine call_list_seq l (.inl rfl) (hk _ _ hol) hcl hdl (fun h₂ c' hk₂ hR => ?_) (by rw [List.size_toArray]; exact line_of hsz)
  have F₂ := frExt F' hk₂
  have hRn : s.heap.get? s₁.heap.objs.size = none := by
    cases q : s.heap.get? s₁.heap.objs.size with
    | none => rfl
    | some o => exact (Nat.lt_irrefl _ (Heap.lt_size (hk _ o q))).elim
  have gR : (hideAll s.heap [dx]).get? s₁.heap.objs.size = none := by
    cases q : (hideAll s.heap [dx]).get? s₁.heap.objs.size with
    | none => rfl
    | some o => have := of_hideAll _ q; rw [hRn] at this; (first | exact ff this | exact nn this | exact ns this | exact tf this | exact ln this | exact lc this | cases this)
  have RL : s₁.heap.objs.size ≠ L := by
    rintro q
    obtain ⟨o, _, _, h1, _⟩ := F'.ns
    exact Nat.lt_irrefl _ (q ▸ Heap.lt_size h1)
  have Rd : s₁.heap.objs.size ≠ dx := by
    rintro q
    exact Nat.lt_irrefl _ (q ▸ Heap.lt_size (hk _ _ hdx))
  have N₂ : News (hideAll s.heap [dx]) L h₂ [(s₁.heap.objs.size, listObj vs c'), (dx, dictOf [] 0)] := by
    intro p hp
    simp only [List.mem_cons, List.not_mem_nil, or_false] at hp
    rcases hp with rfl | rfl
    · exact ⟨hR, RL, gR⟩
    · exact ⟨hk₂ _ _ (hk _ _ hdx), dLL, gd⟩
  have I₂ : InstAt h₂ x (instObj B.C dx) B.C (some (dictOf [] 0)) := ⟨F₂.keep _ _ gx, rfl, rfl, hk₂ _ _ (hk _ _ hdx)⟩
  refine nm O' F₂ (isLc_is hl1) rfl ?_
  refine set_dict F₂ O'.X N₂ I₂ rfl CK.sa CK.po t1 CK.hd rfl rfl (.tail Rd (.head (by intro p hp; (first | exact ff hp | exact nn hp | exact ns hp | exact tf hp | exact ln hp | exact lc hp | cases hp)))) (show 1 ≤ 1000 by decide) fun h₃ F₃ N₃ => ?_
  have I₃ := fun (es : List DictEntry) (k : Nat) (hd : h₃.get? dx = some (dictOf es k)) => (⟨F₃.keep _ _ gx, rfl, rfl, hd⟩ : InstAt h₃ x (instObj B.C dx) B.C (some (dictOf es k)))
  refine wpAny_execs_cons (plainObj_wpAny_Assign_Attribute (wpAny_Constant_int (nm O' F₃ (isLc_is hl1) rfl ?_)))
  refine set_dict F₃ O'.X N₃ (I₃ _ _ (N₃ _ (.tail _ (.head _))).1) rfl CK.sa CK.po CK.t2 CK.hd rfl rfl (.tail Rd (.head (by intro p hp; (first | exact ff hp | exact nn hp | exact ns hp | exact tf hp | exact ln hp | exact lc hp | cases hp)))) (show 2 ≤ 1000 by decide) fun h₄ F₄ N₄ => ?_
  refine wpAny_execs_cons (plainObj_wpAny_Assign_Attribute (wpAny_Constant_int (nm O' F₄ (isLc_is hl1) rfl ?_)))
  refine set_dict F₄ O'.X N₄ (⟨F₄.keep _ _ gx, rfl, rfl, (N₄ _ (.tail _ (.head _))).1⟩ : InstAt h₄ x (instObj B.C dx) B.C _) rfl CK.sa CK.po CK.t3 CK.hd rfl rfl (.tail Rd (.head (by intro p hp; (first | exact ff hp | exact nn hp | exact ns hp | exact tf hp | exact ln hp | exact lc hp | cases hp)))) (show 3 ≤ 1000 by decide) fun h₅ F₅ N₅ => ?_
  refine wpAny_execs_nil (h _ s₁.heap.objs.size _ _ _ _ _ _ _ _ _ c' (fun b o q ne => F₅.keep b o (hideAll_get _ q (by simpa using ne))) hRn (N₅ _ (.head _)).1 (N₅ _ (.tail _ (.head _))).1 (ho.trans ⟨rfl, rfl, rfl⟩))
end
end Mine

namespace Mine
section
variable {B : Bs} {fr : Frm} {n : Nat} {s : Shared} {m : Str → Option Value}
/-- Words(rows) -/
theorem c_words {E : Value → Shared → Prop} (CK : ClsK B) (t1 : takerIn B.K B.C "rows" = some none) (hmk : makesIn B.K B.C = true) (hm : hasM B.K B.C "__init__" = true) (hf : okInit B.K (mAddr B.K B.C "__init__"))
    (O : FrB B fr (n + 2)) (F : Fr fr.g fr.L s.heap m) {l : Addr} {vs : List Value} (hl : s.heap.IsList l vs.toArray) (hsz : vs.length ≤ 1000000) {Q : Value → Shared → Prop}
    (h : ∀ s' x dx R' h1 h2 h3 k1 k2 k3 ta td np c', Kept s.heap s'.heap → s.heap.get? x = none → s.heap.get? dx = none → s.heap.get? R' = none → R' ≠ dx → s'.heap.get? x = some (instObj B.C dx) → s'.heap.get? R' = some (listObj vs c') →
      s'.heap.get? dx = some (dictOf [⟨h1, .str "rows" k1, .ref R'⟩, ⟨h2, .str "at" k2, .int (0 : Nat) ta⟩, ⟨h3, .str "deep" k3, .int (0 : Nat) td⟩] np) → OutAs s s' → Q (.ref x) s') :
    wpAny (model B.prog B.w) fr.A (call (.ref B.C) [.ref l]) Q E s := by
  obtain ⟨i1, i2, _⟩ := hasM_is hm
  have X := O.X.keeps F.keep
  obtain ⟨hh, g, d, tk, os⟩ := s
  refine wpAny_call (make_core (makes_of X hmk) (looks_findIn X i1) (fun self => bind_fn X self i2) (.inl rfl) ?_)
  have k : Kept hh ((hh.push emptyDict).push (instObj B.C hh.objs.size)) := fun b o e => Heap.get?_push_of_some _ (Heap.get?_push_of_some _ e)
  have F₁ := frExt F k
  have hx : ((hh.push emptyDict).push (instObj B.C hh.objs.size)).get? (hh.objs.size + 1) = some (instObj B.C hh.objs.size) := by heap_get
  have hdx : ((hh.push emptyDict).push (instObj B.C hh.objs.size)).get? hh.objs.size = some emptyDict := Heap.get?_push_of_some _ (Heap.get?_push_size _ rfl)
  have n1 : hh.get? (hh.objs.size + 1) = none := Heap.get?_none_of_le (Nat.le_succ _)
  have n0 : hh.get? hh.objs.size = none := Heap.get?_none_of_le (Nat.le_refl _)
  have gn : ∀ b, hh.get? b = none → fr.g.get? b = none := fun b e => by
    cases q : fr.g.get? b with
    | none => rfl
    | some o => have := F.keep _ _ q; rw [e] at this; (first | exact ff this | exact nn this | exact ns this | exact tf this | exact ln this | exact lc this | cases this)
  have nL : ∀ b, hh.get? b = none → b ≠ fr.L := fun b e q => by
    obtain ⟨o, _, _, h1, _⟩ := F.ns
    rw [← q, e] at h1; (first | exact ff h1 | exact nn h1 | exact ns h1 | exact tf h1 | exact ln h1 | exact lc h1 | cases h1)
  obtain ⟨ol, hol, hcl, ep, hdl⟩ := hl
  refine c_init (n := n) CK t1 hf O F₁ (A := fr.A.under _) (under_frames _ _ (Around.frames_deeper O.below.stack)) O.hh ?_ ?_ hx hdx (gn _ n1) (nL _ n1) (gn _ n0) (nL _ n0) (Nat.ne_of_gt (Nat.lt_succ_self _)) ⟨ol, k _ _ hol, hcl, ep, hdl⟩ hsz fun s' R' h1 h2 h3 k1 k2 k3 ta td np c' hk' hR hR' hD ho => ?_
  · have := O.room
    show fr.A₀.depth + 1 + 1 + n + 20 ≤ recursionLimit
    omega
  · have := O.units
    have hu : Code.cUnits (.builtin "type.__call__" ⟨Value.ref B.C :: [.ref l], []⟩) ≤ 10 := by
      show 1 + 3 * Code.frames (.builtin "type.__call__" ⟨Value.ref B.C :: [.ref l], []⟩) ≤ 10
      rw [show Code.frames (.builtin "type.__call__" ⟨Value.ref B.C :: [.ref l], []⟩) = 0 from by first | rfl | simp [Code.frames, Code.isFrame]]; decide
    show fr.A₀.units + 3 + Code.cUnits (.builtin "type.__call__" ⟨Value.ref B.C :: [.ref l], []⟩) + 10 * (n + 20) ≤ cLine
    omega
  · refine ⟨rfl, h s' _ hh.objs.size R' h1 h2 h3 k1 k2 k3 ta td np c' (fun b o e => hk' b o (k _ _ e) (Nat.ne_of_lt (Heap.lt_size e))) n1 n0 ?_ ?_ (hk' _ _ hx (Nat.ne_of_gt (Nat.lt_succ_self _))) hR' hD ho⟩
    · cases q : hh.get? R' with
      | none => rfl
      | some o => have := k _ _ q; rw [hR] at this; (first | exact ff this | exact nn this | exact ns this | exact tf this | exact ln this | exact lc this | cases this)
    · rintro rfl
      rw [hdx] at hR; (first | exact ff hR | exact nn hR | exact ns hR | exact tf hR | exact ln hR | exact lc hR | cases hR)
end
end Mine

namespace Mine
noncomputable section
noncomputable def lcSc : Scope := ⟨.function, [(Str.ofString ".0", .local), (Str.ofString "at", .local), (Str.ofString "text", .local)], false, false, []⟩
noncomputable def rowA (w : Ws) : Expr := .Tuple [.IfExp (.Compare (.Subscript (.Name "text" (wp w 1)) (.Constant (.int (0 : Nat)) (wn w 2) (wp w 3)) (wp w 4)) [.In] [.Constant (.str signS) (wn w 5) (wp w 6)] (wp w 8)) (.Constant (.str "sign") (wn w 9) (wp w 10)) (.Constant (.str "name") (wn w 12) (wp w 13)) (wp w 15), .Name "text" (wp w 16), .Name "at" (wp w 17), .Constant .none (wn w 18) (wp w 19), .Constant .none (wn w 20) (wp w 21)] (wn w 22) (wp w 23)
noncomputable def lwT (w : Ws) : List Stmt := [.Assign [.Name "rows" (wp w 0)] (.ListComp (rowA w) [⟨.Tuple [.Name "at" (wp w 24), .Name "text" (wp w 25)] (wn w 26) (wp w 27), .Call (.Name "enumerate" (wp w 28)) [.Name "told" (wp w 29)] [] (wp w 30), [], 0⟩] lcSc (wp w 31)) (wp w 32), .Assign [.Name "here" (wp w 33)] (.Call (.Name "Words" (wp w 34)) [.BinOp (.Name "rows" (wp w 35)) .Add (.List [.Tuple [.Constant (.str "end") (wn w 36) (wp w 37), .Constant (.str "") (wn w 39) (wp w 40), .Call (.Name "len" (wp w 42)) [.Name "told" (wp w 43)] [] (wp w 44), .Constant .none (wn w 45) (wp w 46), .Constant .none (wn w 47) (wp w 48)] (wn w 49) (wp w 50)] (wp w 51)) (wp w 52)] [] (wp w 53)) (wp w 54), .For (.Name "turn" (wp w 55)) (.Call (.Name "range" (wp w 56)) [.Name "many" (wp w 57)] [] (wp w 58)) [.Expr (.Call (.Attribute (.Name "here" (wp w 59)) "deeper" (wp w 60)) [] [] (wp w 61)) (wp w 62)] [] (wp w 63), .Return (some (.Name "here" (wp w 64))) (wp w 65)]
noncomputable def lwS (K : Frag) (fd : FuncData) (w : Ws) : Bool := noDf fd && (isLc fd "told" && (isLc fd "many" && (isLc fd "rows" && (isLc fd "here" && (isLc fd "turn" && (isGl fd "Words" && (isGl fd "enumerate" && (isGl fd "len" && (isGl fd "range" &&
  (noneK K "enumerate" && (noneK K "len" && (noneK K "range" && (Nat.beq (wp w 0).line (wp w 31).line && oneLine w 60 61)))))))))))))
noncomputable def okWords (K : Frag) (f : Addr) : Prop := Txt K f ["told", "many"] lwT (lwS K)
end
end Mine

namespace Mine
noncomputable section
section
variable {prog : Program} {w : World} {A : Around} {E : Value → Shared → Prop} {s : Shared}
theorem goodT_is {x : Str} (h : goodT x = true) : ∃ c, x.cps[0]? = some c ∧ 0 < x.length ∧ kindOf x = (match (!(Builtin.Str.occurrences signS ⟨#[c]⟩ 0 signS.length 1).isEmpty) with | true => Str.ofString "sign" | false => Str.ofString "name") := by
  unfold goodT at h
  split at h
  · rename_i c r hc
    have h0 : x.cps[0]? = some c := by rw [← Array.getElem?_toList, hc]; rfl
    refine ⟨c, h0, ?_, ?_⟩
    · have := (Array.getElem?_eq_some_iff.mp h0).1
      exact this
    · unfold kindOf
      rw [hc]
      dsimp only
      rw [eq_of_beq h]
      all_goals (cases memN c signC <;> rfl)
  · (first | exact ff h | exact nn h | exact ns h | exact tf h | exact ln h | exact lc h | cases h)

theorem x_rowR {cenv : Env} {mC : Str → Option Value} {x k : Str} {t u k1 : PySem.Tok} {i : Int} {p p1 p2 p3 p4 : Pos} {a3 a4 : Nat} {Q : Value → Shared → Prop} (hk : cenv.scope.kind = .function) (hlt : cenv.kindOf "text" = some .local) (hla : cenv.kindOf "at" = some .local)
    (hn : s.heap.Ns cenv.locals mC) (h1 : mC "text" = some (.str x t)) (h2 : mC "at" = some (.int i u))
    (hQ : ∀ tk, Q (.ref s.heap.objs.size) { s with heap := s.heap.push (tupObj [.str k k1, .str x t, .int i u, .none, .none] 0), toks := tk }) :
    wpAny (model prog w) A (spliced (backTo p (starEach [.Name "text" p1, .Name "at" p2, .Constant .none a3 p3, .Constant .none a4 p4] cenv))) (fun vs s₁ => wpAny (model prog w) A (newTuple (.str k k1 :: vs)) Q E s₁) E s := by
  refine spliced_more (wpAny_Name (wpAny_loadName_local hk hlt hn h1 ?_))
  refine spliced_more (wpAny_Name (wpAny_loadName_local hk hla hn h2 ?_))
  refine spliced_more (wpAny_Constant_none (spliced_more (wpAny_Constant_none (spliced_none ?_))))
  exact wpAny_newObj_type (T := "tuple") (data := .seq #[.str k k1, .str x t, .int i u, .none, .none]) (dict := none) (hQ _) (show 5 ≤ sizeLine by rw [sizeLine_eq]; decide)

theorem x_row {cenv : Env} {w0 : Ws} {mC : Str → Option Value} {x : Str} {t u : PySem.Tok} {i : Int} {Q : Value → Shared → Prop} (hk : cenv.scope.kind = .function) (hlt : cenv.kindOf "text" = some .local) (hla : cenv.kindOf "at" = some .local)
    (hn : s.heap.Ns cenv.locals mC) (h1 : mC "text" = some (.str x t)) (h2 : mC "at" = some (.int i u)) (hx : goodT x = true)
    (hQ : ∀ tk k1, Q (.ref s.heap.objs.size) { s with heap := s.heap.push (tupObj [.str (kindOf x) k1, .str x t, .int i u, .none, .none] 0), toks := tk }) :
    wpAny (model prog w) A (eval (rowA w0) cenv) Q E s := by
  obtain ⟨c, hc, hlen, hkind⟩ := goodT_is hx
  refine Tuple_ (spliced_more (IfExp_ (wpAny_isTrue_Compare1 (Subscript_ (wpAny_Name (wpAny_loadName_local hk hlt hn h1 (wpAny_Constant_int ?_)))) rfl)))
  refine tail_any (T := "str") (id := "str.__getitem__") rfl PySem.F.slot_str_getitem.lookup (PyProof.Rows.getItem_str (c := c) rfl ?_ ?_) rfl
  · have : seqIndex? ((0 : Nat) : Int) x.length = some 0 := seqIndex_nat hlen
    rw [this]; exact hc
  · refine wpAny_Constant_str (PyProof.Rows.in_str (wpAny_truthy_bool ?_))
    cases hb : (!(Builtin.Str.occurrences signS ⟨#[c]⟩ 0 signS.length 1).isEmpty) with
    | true =>
      rw [hb] at hkind
      rw [if_pos rfl]
      rw [hkind] at hQ
      exact wpAny_Constant_str (x_rowR (k := Str.ofString "sign") hk hlt hla hn h1 h2 fun tk => hQ tk _)
    | false =>
      rw [hb] at hkind
      rw [if_neg (by decide)]
      rw [hkind] at hQ
      exact wpAny_Constant_str (x_rowR (k := Str.ofString "name") hk hlt hla hn h1 h2 fun tk => hQ tk _)
end
end
end Mine

namespace Mine
noncomputable section

/-- the rows that stand for the first texts -/
noncomputable def RowsAt (h : Heap) (ys : List Value) (told : List Str) : Prop :=
  ∀ (j : Nat) v, ys[j]? = some v → ∃ x T k1 k2 k3 n, told[j]? = some x ∧ v = .ref T ∧ h.get? T = some (tupObj [.str (kindOf x) k1, .str x k2, .int j k3, .none, .none] n)
theorem RowsAt.mono {h h' : Heap} {ys : List Value} {told : List Str} (r : RowsAt h ys told) (k : ∀ T vs n, h.get? T = some (tupObj vs n) → h'.get? T = some (tupObj vs n)) : RowsAt h' ys told := fun j v e => by
  obtain ⟨x, T, k1, k2, k3, n, e1, e2, e3⟩ := r j v e
  exact ⟨x, T, k1, k2, k3, n, e1, e2, k _ _ _ e3⟩
theorem tup_apart {h : Heap} {a : Addr} {vs : List Value} {ep : Nat} {o : Obj} (h1 : h.get? a = some (tupObj vs ep)) (h2 : h.get? a = some o) : o.cls = .type "tuple" ∧ ∃ xs n, o.data = .seq xs n := by
  rw [h1] at h2; (first | exact ff h2 | exact nn h2 | exact ns h2 | exact tf h2 | exact ln h2 | exact lc h2 | cases h2); exact ⟨rfl, _, _, rfl⟩

section
variable {prog : Program} {w : World} {A : Around} {s : Shared}
theorem comp_loop {cenv : Env} {w0 : Ws} {iter : Expr} {pa pb tp q : Pos} {kk : Nat} {sc : Scope} {e it l D : Addr} {us : List Value} {told : List Str} {ep : Nat} {m0 : Str → Option Value} {R : Result → Shared → Prop}
    (hh : A.handled = none) (hk : cenv.scope.kind = .function) (hlt : cenv.kindOf "text" = some .local) (hla : cenv.kindOf "at" = some .local)
    (he : IsEnum s.heap e it 0 .none) (hit : s.heap.IsListIter it l 0) (hl : s.heap.get? l = some (listObj us ep)) (hn : s.heap.Ns cenv.locals m0) (hD : s.heap.get? D = some (listObj [] 0))
    (n1 : e ≠ it) (n2 : e ≠ cenv.locals) (n3 : e ≠ D) (n4 : it ≠ cenv.locals) (n5 : it ≠ D) (n6 : cenv.locals ≠ D) (l1 : l ≠ e) (l2 : l ≠ it) (l3 : l ≠ cenv.locals) (l4 : l ≠ D)
    (hstr : StrsAre us told) (hgood : ∀ x ∈ told, goodT x = true) (hlen : told.length ≤ 1000)
    (hR : ∀ h' tk ys ep', (∀ b o, b ≠ e → b ≠ it → b ≠ cenv.locals → b ≠ D → s.heap.get? b = some o → h'.get? b = some o) → (∃ m', h'.Ns cenv.locals m') → h'.get? D = some (listObj ys ep') → ys.length = told.length → RowsAt h' ys told →
      R (.ok .next) { s with heap := h', toks := tk }) :
    codeAny (model prog w) A (.compLoop (.ListComp (rowA w0) [⟨.Tuple [.Name "at" pa, .Name "text" pb] kk tp, iter, [], 0⟩] sc q) 0 (.ref e) (.ref D) cenv) R s := by
  refine opaque_inv (fun k s' => ∃ h' tk i ys ep' m' old, s' = { s with heap := h', toks := tk } ∧ i ≤ us.length ∧ k = us.length + 1 - i ∧ ys.length = i ∧ IsEnum h' e it ((i : Nat) : Int) old ∧ h'.IsListIter it l i ∧ h'.get? l = some (listObj us ep) ∧
      h'.Ns cenv.locals m' ∧ h'.get? D = some (listObj ys ep') ∧ RowsAt h' ys told ∧ ∀ b o, b ≠ e → b ≠ it → b ≠ cenv.locals → b ≠ D → s.heap.get? b = some o → h'.get? b = some o) fun I i1 i2 => kcp_loop I ?_ (us.length + 1)
    (i2 _ _ ⟨s.heap, s.toks, 0, [], 0, m0, .none, rfl, Nat.zero_le _, rfl, rfl, he, hit, hl, hn, hD, fun j v q => by simp at q, fun _ _ _ _ _ _ x => x⟩)
  intro k s' hk0
  obtain ⟨H, tk, i, ys, ep', m', old, rfl, hi, rfl, hyl, he', hit', hl', hn', hD', hrows, hkp⟩ := i1 _ _ hk0
  clear i1 hk0
  have hL : H.IsList l us.toArray := ⟨_, hl', rfl, ep, rfl⟩
  cases hv : us[i]? with
  | none =>
    have hsz : i = us.length := Nat.le_antisymm hi (by simpa using hv)
    refine wpAny_pyNext_enum_end hh he' hit' hL (by simpa using hv) fun h₁ hx₁ => ?_
    refine hR h₁ tk ys ep' (fun b o b1 b2 b3 b4 e => hx₁ b o b2 (hkp b o b1 b2 b3 b4 e)) ⟨m', hn'.extBut hx₁ (Ne.symm n4)⟩ (hx₁ _ _ (Ne.symm n5) hD') (by rw [hyl, hsz]; exact hstr.1) (hrows.mono fun T vs n q => hx₁ T _ ?_ q)
    rintro rfl
    obtain ⟨o, z1, z2, z3⟩ := hit'
    obtain ⟨_, xs, nn, z⟩ := tup_apart q z1
    rw [z] at z3; (first | exact ff z3 | exact nn z3 | exact ns z3 | exact tf z3 | exact ln z3 | exact lc z3 | cases z3)
  | some v =>
    obtain ⟨x, t, hx, rfl⟩ := hstr.2 i v hv
    have hlt' : i < us.length := (List.getElem?_eq_some_iff.mp hv).1
    have heH : e < H.objs.size := Heap.lt_size he'
    obtain ⟨oC, esC, epC, hoC, hdC, hkC, hfC⟩ := id hn'
    have hCH : cenv.locals < H.objs.size := Heap.lt_size hoC
    have hDH : D < H.objs.size := Heap.lt_size hD'
    have hlH : l < H.objs.size := Heap.lt_size hl'
    have hiH : it < H.objs.size := by obtain ⟨o, z, _⟩ := hit'; exact Heap.lt_size z
    refine wpAny_pyNext_enum_item he' hit' hL (by simpa using hv) n1 fun h₁ heo hit₁ ht₁ hz₁ hk₁ => ?_
    refine wpAny_letOwnedTupleGo_enum heo fun h₂ he₂ hs₂ => ?_
    replace hs₂ : Heap.SameBut e h₁ h₂ := hs₂
    have ht₂ : h₂.IsTuple H.objs.size #[.int i tk, .str x t] := ⟨_, (hs₂.2 _ (Nat.ne_of_gt heH)).trans ht₁, rfl, _, rfl⟩
    have up₂ : ∀ b o, b ≠ e → b ≠ it → H.get? b = some o → h₂.get? b = some o := fun b o b1 b2 q => hs₂.extBut b o b1 (hk₁ b o b1 b2 q)
    refine kcp_assign (env := cenv) hh ht₂ hla hlt (by rw [hk]; rfl) (hn'.at' fun o q => up₂ _ o (Ne.symm n2) (Ne.symm n4) q) fun h₃ tk₃ hn₃ hk₃ => ?_
    have up₃ : ∀ b o, b ≠ e → b ≠ it → b ≠ cenv.locals → H.get? b = some o → h₃.get? b = some o := fun b o b1 b2 b3 q => hk₃ b o b3 (up₂ b o b1 b2 q)
    refine x_row hk hlt hla hn₃ rfl rfl (hgood x (List.mem_of_getElem? hx)) fun tk₄ k1 => ?_
    have hD₄ : (h₃.push (tupObj [.str (kindOf x) k1, .str x t, .int i tk, .none, .none] 0)).get? D = some (listObj ys ep') := Heap.get?_push_of_some _ (up₃ _ _ (Ne.symm n3) (Ne.symm n5) (Ne.symm n6) hD')
    refine append_at (its := ys.toArray) (n := ep') (hsz := by rw [List.size_toArray, hyl]; exact line_of (by have := hstr.1; omega)) hD₄ fun h₅ hs₅ hD₅ => ?_
    have up₅ : ∀ b o, b ≠ e → b ≠ it → b ≠ cenv.locals → b ≠ D → H.get? b = some o → h₅.get? b = some o := fun b o b1 b2 b3 b4 q => hs₅.extBut b o b4 (Heap.get?_push_of_some _ (up₃ b o b1 b2 b3 q))
    have he₃ : h₅.get? e = some _ := hs₅.extBut _ _ n3 (Heap.get?_push_of_some _ (hk₃ _ _ n2 he₂))
    have hit₅ : h₅.IsListIter it l (i + 1) := by
      obtain ⟨o, z1, z2⟩ := hit₁
      exact ⟨o, hs₅.extBut _ _ n5 (Heap.get?_push_of_some _ (hk₃ _ _ n4 (hs₂.extBut _ _ (Ne.symm n1) z1))), z2⟩
    have hTD : h₃.objs.size ≠ D := by
      rintro rfl
      exact Nat.lt_irrefl _ (Heap.lt_size (up₃ _ _ (Ne.symm n3) (Ne.symm n5) (Ne.symm n6) hD'))
    refine ⟨us.length + 1 - (i + 1), by omega, i2 _ _ ⟨h₅, tk₄, i + 1, ys ++ [.ref h₃.objs.size], ep' + 1, _, .str x t, rfl, hlt', rfl, by rw [List.length_append, hyl]; rfl, ?_, hit₅, up₅ _ _ l1 l2 l3 l4 hl',
      (hn₃.at' fun o q => hs₅.extBut _ o n6 (Heap.get?_push_of_some _ q)), ?_, ?_, fun b o b1 b2 b3 b4 q => up₅ b o b1 b2 b3 b4 (hkp b o b1 b2 b3 b4 q)⟩⟩
    · have : ((i + 1 : Nat) : Int) = (i : Int) + 1 := by push_cast; rfl
      rw [this]; exact he₃
    · rw [hD₅]; simp
    · intro j v' hj
      by_cases hjl : j < ys.length
      · rw [List.getElem?_append_left hjl] at hj
        obtain ⟨x', T, k1', k2, k3, n, e1, e2, e3⟩ := hrows j v' hj
        refine ⟨x', T, k1', k2, k3, n, e1, e2, up₅ T _ ?_ ?_ ?_ ?_ e3⟩
        · rintro rfl
          obtain ⟨_, xs, nn, z⟩ := tup_apart e3 he'
          (first | exact ff z | exact nn z | exact ns z | exact tf z | exact ln z | exact lc z | cases z)
        · rintro rfl
          obtain ⟨o, z1, z2, z3⟩ := hit'
          obtain ⟨_, xs, nn, z⟩ := tup_apart e3 z1
          rw [z] at z3; (first | exact ff z3 | exact nn z3 | exact ns z3 | exact tf z3 | exact ln z3 | exact lc z3 | cases z3)
        · rintro rfl
          obtain ⟨_, xs, nn, z⟩ := tup_apart e3 hoC
          rw [z] at hdC; (first | exact ff hdC | exact nn hdC | exact ns hdC | exact tf hdC | exact ln hdC | exact lc hdC | cases hdC)
        · rintro rfl
          obtain ⟨z, _⟩ := tup_apart e3 hD'
          injection z with z
          revert z
          decide
      · have hje : j = ys.length := by
          have := (List.getElem?_eq_some_iff.mp hj).1
          simp only [List.length_append, List.length_cons, List.length_nil] at this
          omega
        subst hje
        rw [List.getElem?_append_right (Nat.le_refl _), Nat.sub_self] at hj
        (first | exact ff hj | exact nn hj | exact ns hj | exact tf hj | exact ln hj | exact lc hj | cases hj)
        refine ⟨x, h₃.objs.size, k1, t, tk, 0, by rw [hyl]; exact hx, rfl, ?_⟩
        rw [hyl]
        exact hs₅.extBut _ _ hTD (Heap.get?_push_size _ rfl)
end
end
end Mine

namespace Mine
noncomputable section
theorem adr_ne {a b : Addr} (h : @LT.lt Nat _ a b ∨ @LT.lt Nat _ b a) : a ≠ b := by
  rintro rfl; rcases h with h | h <;> exact Nat.lt_irrefl _ h
theorem swap_rows {env : Env} {elt : Expr} {gs : List Comprehension} {p q : Pos} {ln : Nat} (hk : env.scope.kind = .function) (hl : env.kindOf "rows" = some .local) (hp : p.line = q.line) :
    swapsWith (.ListComp elt gs lcSc q) (some (.Name "rows" p)) ln env = pure true := by
  have hb : env.blockKind = .function := by unfold Env.blockKind; rw [hk]; rfl
  show (pure (env.blockKind == .function && env.kindOf "rows" == some .local && p.line == q.line && !(lcSc.names.any fun (n, k) => n == "rows" && (k == .local || k == .cell))) : Sem Bool) = pure true
  rw [hb, hl, hp]
  have e1 : (q.line == q.line) = true := by simp
  rw [e1]
  rfl

section
variable {B : Bs} {fr : Frm} {n : Nat} {s : Shared} {m : Str → Option Value}
theorem x_rows {w0 : Ws} {p pa pb tp p1 p2 p3 q sp : Pos} {kk : Nat} {E : Value → Shared → Prop} {Q : Flow → Shared → Prop} (O : FrB B fr n) (F : Fr fr.g fr.L s.heap m) (hline : p.line = q.line) (hl1 : find "told" fr.scope.names = some .local) (hl2 : find "rows" fr.scope.names = some .local)
    (he : find "enumerate" fr.scope.names = some .globalImplicit) (hne : nsIn B.K mainGlobals "enumerate" = some none) {l : Addr} {us : List Value} {told : List Str} {ep : Nat} (hm : m "told" = some (.ref l)) (hL : s.heap.get? l = some (listObj us ep))
    (hstr : StrsAre us told) (hgood : ∀ x ∈ told, goodT x = true) (hlen : told.length ≤ 1000)
    (h : ∀ D h' tk ys ep', Fr fr.g fr.L h' (fun z => if z = "rows" then some (.ref D) else m z) → (∀ b o, b ≠ fr.L → s.heap.get? b = some o → h'.get? b = some o) → s.heap.get? D = none → h'.get? D = some (listObj ys ep') → ys.length = told.length → RowsAt h' ys told →
      Q .next { s with heap := h', toks := tk }) :
    wpAny (model B.prog B.w) fr.A (exec (.Assign [.Name "rows" p] (.ListComp (rowA w0) [⟨.Tuple [.Name "at" pa, .Name "text" pb] kk tp, .Call (.Name "enumerate" p1) [.Name "told" p2] [] p3, [], 0⟩] lcSc q) sp) fr.env) Q E s := by
  have kd : fr.env.kindOf "rows" = some .local := by show fr.scope.names.lookup (Str.ofString "rows") = _; rw [← find_eq]; exact hl2
  rw [exec_Assign_Name_used _ _ _ _ (swap_rows (env := fr.env) O.kind kd hline)]
  refine wpAny_bind (wpAny_standAt (wpAny_bind ?_))
  show wpAny _ fr.A (do let _ ← comprehension (.ListComp (rowA w0) [⟨.Tuple [.Name "at" pa, .Name "text" pb] kk tp, .Call (.Name "enumerate" p1) [.Name "told" p2] [] p3, [], 0⟩] lcSc q) lcSc fr.env _ (newList []) false (eval (.Call (.Name "enumerate" p1) [.Name "told" p2] [] p3) fr.env) (some (assign (.Name "rows" p) fr.env))) _ _ s
  refine wpAny_bind (wpAny_mono (wpAny_comprehension_use (Q := fun _ s' => Q .next s') rfl (fun _ => rfl) ?_ rfl ?_ ?_) (fun _ s' hq => wpAny_pure (wpAny_pure hq)) fun _ _ e => e)
  · decide
  · decide
  have hlt : lcSc.names.lookup (Str.ofString "text") = some .local := by decide
  have hla : lcSc.names.lookup (Str.ofString "at") = some .local := by decide
  have hcell : ∀ y ∈ lcSc.names, y.2 ≠ .cell := by decide
  refine Call_ (bnm O F he hne PyProof.Rows.boot_enumerate (by decide) ?_)
  refine PyProof.Rows.callWith_type rfl (evalArgs_plain (spliced_cons (nm O F hl1 hm (spliced_nil ?_))))
  obtain ⟨oL, _, _, hfL, hdL, _⟩ := id F.ns
  refine call_enumerate_list (items := us.toArray) ⟨_, hL, rfl, ep, rfl⟩ fun h₁ he₁ hit₁ hsz₁ hk₁ => ?_
  refine wpAny_pyIter_enum he₁ ?_
  refine wpAny_newObj_type (T := "list") (data := .seq #[]) (dict := none) (wpAny_newFunctionEnv hcell (by intro y hy; simp at hy) (fun h₂ hns₂ hsb₂ => ?_) rfl) (show 0 ≤ sizeLine from Nat.zero_le _)
  dsimp only at hns₂ hsb₂ ⊢
  generalize hH2 : h₁.push ({ cls := .type "list", dict := none, data := .seq #[] } : Obj) = H2 at hns₂ hsb₂ ⊢
  have hC : H2.objs.size = h₁.objs.size + 1 := by rw [← hH2, Heap.size_push]
  have hlH : @LT.lt Nat _ l s.heap.objs.size := Heap.lt_size hL
  have hLH : @LT.lt Nat _ fr.L s.heap.objs.size := Heap.lt_size hfL
  have old : ∀ b o, h₁.get? b = some o → h₂.get? b = some o := fun b o e => hsb₂.extBut b o (by have := Heap.lt_size e; show b ≠ H2.objs.size; rw [hC]; exact Nat.ne_of_lt (Nat.lt_succ_of_lt this)) (Heap.get?_push_of_some _ (hH2 ▸ Heap.get?_push_of_some _ e))
  have hD₂ : h₂.get? h₁.objs.size = some (listObj [] 0) := hsb₂.extBut _ _ (by rw [hC]; exact Nat.ne_of_lt (Nat.lt_succ_self _)) (Heap.get?_push_of_some _ (hH2 ▸ Heap.get?_push_size _ rfl))
  have loop : ∀ cenv : Env, cenv.scope = lcSc → cenv.locals = H2.objs.size → codeAny (model B.prog B.w) fr.A (.compLoop (.ListComp (rowA w0) [⟨.Tuple [.Name "at" pa, .Name "text" pb] kk tp, .Call (.Name "enumerate" p1) [.Name "told" p2] [] p3, [], 0⟩] lcSc q) 0 (.ref (s.heap.objs.size + 1)) (.ref h₁.objs.size) cenv)
      (fun r s' => match r with
        | .ok _ => wpAny (model B.prog B.w) fr.A (assign (.Name "rows" p) fr.env (.ref h₁.objs.size)) (fun _ s'' => ∃ m, s''.heap.Ns H2.objs.size m ∧ ∀ h', Heap.SameBut H2.objs.size s''.heap h' → Q .next { s'' with heap := h' }) E s'
        | .error x => ∃ m, s'.heap.Ns H2.objs.size m ∧ ∀ h', Heap.SameBut H2.objs.size s'.heap h' → wpAny (model B.prog B.w) fr.A (PySem.passOn "comprehension.variables-let-go" x cenv : Sem Value) (fun _ s' => Q .next s') E { s' with heap := h' })
      { s with heap := h₂ } := by
    intro cenv hcs hcl
    have hk1 : cenv.scope.kind = .function := by rw [hcs]; rfl
    refine comp_loop (m0 := _) (told := told) (us := us) (ep := ep) (l := l) (it := s.heap.objs.size) O.hh hk1 (by unfold Env.kindOf; rw [hcs]; exact hlt) (by unfold Env.kindOf; rw [hcs]; exact hla) (old _ _ he₁) ?_ (old _ _ (hk₁ _ _ hL)) (by rw [hcl]; exact hns₂) hD₂ (Nat.succ_ne_self _) ?_ ?_ ?_ ?_ ?_ ?_ ?_ ?_ ?_ hstr hgood hlen ?_
    · obtain ⟨o, z, z2⟩ := hit₁; exact ⟨o, old _ _ z, z2⟩
    · refine adr_ne ?_; rw [hcl, hC, hsz₁]; omega
    · refine adr_ne ?_; rw [hsz₁]; omega
    · refine adr_ne ?_; rw [hcl, hC, hsz₁]; omega
    · refine adr_ne ?_; rw [hsz₁]; omega
    · rw [hcl, hC]; exact Nat.succ_ne_self _
    · exact adr_ne (by omega)
    · exact adr_ne (by omega)
    · refine adr_ne ?_; rw [hcl, hC, hsz₁]; omega
    · refine adr_ne ?_; rw [hsz₁]; omega
    · intro h₃ tk ys ep' hk₃ hns₃ hD₃ hyl hrows
      obtain ⟨mC, hns₃⟩ := hns₃
      rw [hcl] at hns₃
      have old₃ : ∀ b o, s.heap.get? b = some o → h₃.get? b = some o := fun b o e => by
        have hb : @LT.lt Nat _ b s.heap.objs.size := Heap.lt_size e
        refine hk₃ b o (adr_ne (by omega)) (adr_ne (by omega)) (adr_ne (by rw [hcl, hC, hsz₁]; omega)) (adr_ne (by rw [hsz₁]; omega)) (old _ _ (hk₁ _ _ e))
      have F₃ : Fr fr.g fr.L h₃ m := frExt F old₃
      refine wpAny_assign_Name (stN' O F₃ hl2 fun h₄ tk₄ F₄ hs₄ => ?_)
      have hCL : H2.objs.size ≠ fr.L := adr_ne (by rw [hC, hsz₁]; omega)
      have hDL : h₁.objs.size ≠ fr.L := adr_ne (by rw [hsz₁]; omega)
      have hDC : h₁.objs.size ≠ H2.objs.size := by rw [hC]; exact Nat.ne_of_lt (Nat.lt_succ_self _)
      have gC : fr.g.get? H2.objs.size = none := by
        cases z : fr.g.get? H2.objs.size with
        | none => rfl
        | some o => exact absurd (Heap.lt_size (F.keep _ _ z)) (Nat.not_lt.mpr (by rw [hC, hsz₁]; omega))
      refine ⟨mC, hns₃.sameBut hs₄ hCL, fun h₅ hs₅ => ?_⟩
      obtain ⟨oC, esC, epC, hoC, hdC, _⟩ := id hns₃
      refine h h₁.objs.size h₅ tk₄ ys ep' (frBut F₄ hs₅.extBut gC hCL) (fun b o bL e => ?_) (Heap.get?_none_of_le (by rw [hsz₁]; exact Nat.le_add_right _ 2)) (hs₅.extBut _ _ hDC (hs₄.extBut _ _ hDL hD₃)) hyl (hrows.mono fun T vs n e => ?_)
      · refine hs₅.extBut b o ?_ (hs₄.extBut b o bL (old₃ b o e))
        have : @LT.lt Nat _ b s.heap.objs.size := Heap.lt_size e
        exact adr_ne (by rw [hC, hsz₁]; omega)
      · refine hs₅.extBut _ _ ?_ (hs₄.extBut _ _ ?_ e)
        · rintro rfl
          obtain ⟨_, xs, nn, z⟩ := tup_apart e hoC
          rw [z] at hdC; (first | exact ff hdC | exact nn hdC | exact ns hdC | exact tf hdC | exact ln hdC | exact lc hdC | cases hdC)
        · rintro rfl
          obtain ⟨_, xs, nn, z⟩ := tup_apart e (old₃ _ _ hfL)
          rw [z] at hdL; (first | exact ff hdL | exact nn hdL | exact ns hdL | exact tf hdL | exact ln hdL | exact lc hdL | cases hdL)
  exact codeAny_compStart_list (loop _ rfl rfl) (wpAny_pyIter_enum (old _ _ he₁) (loop _ rfl rfl))
end
end
end Mine

namespace Mine
noncomputable section
section
variable {B : Bs} {fr : Frm} {n : Nat} {s : Shared} {m : Str → Option Value} {ω : Wd}

theorem no_interK (O : FrB B fr n) : interactive fr.env = false := by
  unfold interactive
  show (fr.scope.kind == .module && _) = false
  rw [O.kind]; rfl

theorem range_small {k : Nat} (h : k ≤ 1000) : Builtin.Range.small 0 (k : Int) 1 = true ∧ Builtin.Range.rangeSize 0 (k : Int) 1 = (k : Int) := by
  have hs : Builtin.Range.rangeSize 0 (k : Int) 1 = (k : Int) := by
    unfold Builtin.Range.rangeSize
    rw [if_pos (by decide)]
    split
    · rw [Int.ediv_one]; omega
    · omega
  have hf : ∀ a : Int, -1000 ≤ a → a ≤ 2000 → Builtin.Range.rangeFitsLong a = true := fun a h1 h2 => by
    unfold Builtin.Range.rangeFitsLong
    simp only [Bool.and_eq_true, decide_eq_true_eq]
    constructor <;> omega
  refine ⟨?_, hs⟩
  unfold Builtin.Range.small
  rw [hs, hf 0 (by omega) (by omega), hf k (by omega) (by omega), hf 1 (by omega) (by omega), if_pos (by decide), hf (k + (1 - 1)) (by omega) (by omega)]
  simp

theorem WordsAt.off {h h' : Heap} {i d : Nat} {c : Addr} {o : Obj} (x : WordsAt ω h i d) (k : ∀ b o, h.get? b = some o → b ≠ c → h'.get? b = some o) (e : h.get? c = some o) (hd : (∃ es ep, o.data = .dict es ep) ∨ ∃ vs, o.data = .fields vs) (hD : ω.D ≠ c) : WordsAt ω h' i d := by
  have ne : ∀ b o', h.get? b = some o' → (∀ es ep, o'.data ≠ .dict es ep) → (∀ vs, o'.data ≠ .fields vs) → b ≠ c := by
    rintro b o' q n1 n2 rfl
    rw [e] at q; (first | exact ff q | exact nn q | exact ns q | exact tf q | exact ln q | exact lc q | cases q)
    rcases hd with ⟨_, _, z⟩ | ⟨_, z⟩
    · exact n1 _ _ z
    · exact n2 _ z
  refine ⟨k _ _ x.inst (ne _ _ x.inst (by intro _ _ z; (first | exact ff z | exact nn z | exact ns z | exact tf z | exact ln z | exact lc z | cases z)) (by intro _ z; (first | exact ff z | exact nn z | exact ns z | exact tf z | exact ln z | exact lc z | cases z))), ?_, ?_, x.len, ?_, x.lt, x.small⟩
  · obtain ⟨ti, td, q⟩ := x.dict; exact ⟨ti, td, k _ _ q hD⟩
  · obtain ⟨n, q⟩ := x.rows; exact ⟨n, k _ _ q (ne _ _ q (by intro _ _ z; (first | exact ff z | exact nn z | exact ns z | exact tf z | exact ln z | exact lc z | cases z)) (by intro _ z; (first | exact ff z | exact nn z | exact ns z | exact tf z | exact ln z | exact lc z | cases z)))⟩
  · intro j t a h1 h2
    obtain ⟨k1, k2, k3, n, q⟩ := x.tok j t a h1 h2
    exact ⟨k1, k2, k3, n, k _ _ q (ne _ _ q (by intro _ _ z; (first | exact ff z | exact nn z | exact ns z | exact tf z | exact ln z | exact lc z | cases z)) (by intro _ z; (first | exact ff z | exact nn z | exact ns z | exact tf z | exact ln z | exact lc z | cases z)))⟩

/-- so many levels are gone into -/
theorem x_down {pt p1 p2 p3 r1 r2 r3 ep fp : Pos} {E : Value → Shared → Prop} {Q : Flow → Shared → Prop} {many : Nat} {tm : PySem.Tok} {hp : Heap} (MK : MethK B) (O : FrB B fr (n + 4)) (F : Fr fr.g fr.L hp m) (hpos : r2.endLine = r3.line)
    (hl1 : find "many" fr.scope.names = some .local) (hl2 : find "here" fr.scope.names = some .local) (hl3 : find "turn" fr.scope.names = some .local) (he : find "range" fr.scope.names = some .globalImplicit) (hne : nsIn B.K mainGlobals "range" = some none)
    (hm : m "many" = some (.int many tm)) (hw : m "here" = some (.ref ω.W)) (hD0 : fr.g.get? ω.D = none) (hDL0 : ω.D ≠ fr.L) (hC : ω.C = B.C) (hR : ω.R ≠ ω.D) (W : WordsAt ω hp 0 0) (hmany : many ≤ 60)
    (h : ∀ h' tk m', Fr fr.g fr.L h' m' → m' "here" = some (.ref ω.W) → WordsAt ω h' 0 many → (∀ b o, b ≠ fr.L → b ≠ ω.D → hp.get? b = some o → h'.get? b = some o) → Q .next { s with heap := h', toks := tk }) (hs : s.heap = hp := by rfl) :
    wpAny (model B.prog B.w) fr.A (exec (.For (.Name "turn" pt) (.Call (.Name "range" p1) [.Name "many" p2] [] p3) [.Expr (.Call (.Attribute (.Name "here" r1) "deeper" r2) [] [] r3) ep] [] fp) fr.env) Q E s := by
  subst hs
  obtain ⟨fd, Md, hfd⟩ := MK.deeper
  obtain ⟨fk, Mp, hpk⟩ := MK.peek
  obtain ⟨fI, FK⟩ := MK.FK
  obtain ⟨tM, hM⟩ := MK.md
  obtain ⟨hsm, hsize⟩ := range_small (k := many) (by omega)
  refine wpAny_For ?_ (fun _ => rfl)
  refine Call_ (bnm O F he hne PyProof.Rows.Boot.«range» (by decide) ?_)
  refine PyProof.Rows.callWith_type rfl (evalArgs_plain (spliced_cons (nm O F hl1 hm (spliced_nil ?_))))
  refine call_range_1 ?_
  refine wpAny_pyIter_range (Heap.get?_push_size _ rfl) hsm ?_
  rw [hsize]
  have hk : ∀ (o₁ o₂ : Obj) b o, s.heap.get? b = some o → ((s.heap.push o₁).push o₂).get? b = some o := fun o₁ o₂ b o e => Heap.get?_push_of_some _ (Heap.get?_push_of_some _ e)
  generalize hH : (s.heap.push ({ cls := .type "range", data := .fields #[.int 0 s.toks, .int many tm, .int 1 (s.toks + 1)] } : Obj)) = H
  have hk1 : ∀ b o, s.heap.get? b = some o → H.get? b = some o := fun b o e => by rw [← hH]; exact Heap.get?_push_of_some _ e
  have hk2 : ∀ b o, s.heap.get? b = some o → (H.push ({ cls := .type "range_iterator", data := .fields #[rawInt 0, rawInt many, rawInt 1] } : Obj)).get? b = some o := fun b o e => Heap.get?_push_of_some _ (hk1 b o e)
  have hI0 : (H.push ({ cls := .type "range_iterator", data := .fields #[rawInt 0, rawInt many, rawInt 1] } : Obj)).get? H.objs.size = some _ := Heap.get?_push_size _ rfl
  have old : ∀ b o, s.heap.get? b = some o → b ≠ H.objs.size := fun b o e => Nat.ne_of_lt (Heap.lt_size (hk1 b o e))
  obtain ⟨ti0, td0, hDo⟩ := W.dict
  obtain ⟨oL, _, _, hLo, _⟩ := id F.ns
  have nD : H.objs.size ≠ ω.D := Ne.symm (old _ _ hDo)
  have nL : H.objs.size ≠ fr.L := Ne.symm (old _ _ hLo)
  have gI : fr.g.get? H.objs.size = none := by
    cases z : fr.g.get? H.objs.size with
    | none => rfl
    | some o => exact absurd rfl (old _ _ (F.keep _ _ z))
  refine opaque_inv (fun k s' => ∃ h' tk i m', s' = { s with heap := h', toks := tk } ∧ i ≤ many ∧ k = many + 1 - i ∧ IsRangeIter h' H.objs.size (i : Int) ((many : Int) - (i : Int)) 1 ∧ Fr fr.g fr.L h' m' ∧ m' "here" = some (.ref ω.W) ∧
      WordsAt ω h' 0 i ∧ ∀ b o, b ≠ fr.L → b ≠ ω.D → s.heap.get? b = some o → h'.get? b = some o) fun I i1 i2 => codeAny_forLoop_any I ?_ (many + 1)
    (i2 _ _ ⟨_, _, 0, m, rfl, Nat.zero_le _, rfl, by simpa using hI0, frExt F hk2, hw, W.ext hk2, fun b o _ _ e => hk2 b o e⟩)
  intro k s' hk0
  obtain ⟨h', tk, i, m', rfl, hi, rfl, hit, F', hw', W', hkp⟩ := i1 _ _ hk0
  clear i1 hk0
  by_cases hlt : i < many
  · refine wpAny_pyNext_range_item hit (by omega) fun h₁ hit₁ hs₁ => ?_
    refine wpAny_pure ?_
    have F₁ : Fr fr.g fr.L h₁ m' := frBut F' hs₁.extBut gI nL
    have W₁ : WordsAt ω h₁ 0 i := W'.off (fun b o q ne => hs₁.extBut b o ne q) hit (.inr ⟨_, rfl⟩) (Ne.symm nD)
    refine wpAny_assign_Name (stN' O F₁ hl3 fun h₂ tk₂ F₂ hs₂ => ?_)
    replace hs₂ : Heap.SameBut fr.L h₁ h₂ := hs₂
    obtain ⟨oL₁, esL, epL, hL₁, hdL₁, _⟩ := id F₁.ns
    have W₂ : WordsAt ω h₂ 0 i := W₁.off (fun b o q ne => hs₂.extBut b o ne q) hL₁ (.inl ⟨_, _, hdL₁⟩) hDL0
    refine wpAny_execs_cons (wpAny_Expr_any (self0 MK.CK Md (fun _ _ _ _ _ => rfl) O F₂ hC W₂ hl2 ((if_neg (by decide)).trans hw') hpos ?_) (no_interK O) rfl)
    refine wpAny_mono (c_deeper (s := { s with heap := h₂, toks := tk₂ }) MK.CK FK hfd hpk Mp MK.gf MK.gk hM O F₂ hD0 hDL0 hC hR W₂) (fun v s₃ q => ?_) fun x s₃ q => absurd q.1 (by omega)
    obtain ⟨_, _, hkb, W₃, ho⟩ := q
    obtain ⟨H₃, g₃, d₃, tk₃, os₃⟩ := s₃
    obtain ⟨o1, o2, o3⟩ := ho
    (first | exact ff o1 | exact nn o1 | exact ns o1 | exact tf o1 | exact ln o1 | exact lc o1 | cases o1); cases o2; (first | exact ff o3 | exact nn o3 | exact ns o3 | exact tf o3 | exact ln o3 | exact lc o3 | cases o3)
    refine wpAny_execs_nil ?_
    refine ⟨many + 1 - (i + 1), by omega, i2 _ _ ⟨H₃, tk₃, i + 1, _, rfl, hlt, rfl, ?_, frBut F₂ (fun b o ne q => hkb b o q ne) hD0 hDL0, (if_neg (by decide)).trans hw', W₃, fun b o b1 b2 q => ?_⟩⟩
    · have e1 : (i : Int) + 1 = ((i + 1 : Nat) : Int) := by omega
      have e2 : (many : Int) - (i : Int) - 1 = (many : Int) - ((i + 1 : Nat) : Int) := by omega
      rw [e1, e2] at hit₁
      exact hkb _ _ (hs₂.extBut _ _ nL hit₁) nD
    · exact hkb _ _ (hs₂.extBut _ _ b1 (hs₁.extBut _ _ (old _ _ q) (hkp b o b1 b2 q))) b2
  · have hie : i = many := by omega
    subst hie
    refine wpAny_pyNext_range_end O.hh hit (by omega) fun h₁ hx₁ => wpAny_execs_nil ?_
    exact h h₁ tk m' (frBut F' hx₁ gI nL) hw' (W'.off (fun b o q ne => hx₁ b o ne q) hit (.inr ⟨_, rfl⟩) (Ne.symm nD)) fun b o b1 b2 q => hx₁ _ _ (old _ _ q) (hkp b o b1 b2 q)
end
end
end Mine

namespace Mine
noncomputable section
noncomputable def adrOf : Value → Addr
  | .ref a => a
  | _ => 0
theorem rows_refs {h : Heap} {ys : List Value} {told : List Str} (r : RowsAt h ys told) : ys = (ys.map adrOf).map Value.ref := by
  rw [List.map_map]
  refine (List.ext_getElem? fun j => ?_)
  rw [List.getElem?_map]
  cases q : ys[j]? with
  | none => rfl
  | some v =>
    obtain ⟨x, T, _, _, _, _, _, rfl, _⟩ := r j v q
    rfl
noncomputable def endW : Str × Str := (Str.ofString "end", Str.ofString "")
/-- the rows and the end are the words -/
theorem words_made {h : Heap} {ω : Wd} {d : Nat} {ys : List Value} {told : List Str} {T : Addr} (r : RowsAt h ys told) (hlen : ys.length = told.length) (hl : told.length ≤ 1000) {k1 k2 k3 : PySem.Tok} {n : Nat}
    (hT : h.get? T = some (tupObj [.str "end" k1, .str "" k2, .int told.length k3, .none, .none] n)) (hi : h.get? ω.W = some ω.ox) (hd : ∃ ti td, h.get? ω.D = some (ω.dict 0 ti d td)) (ht : ω.toks = wordsOf told ++ [endW]) (hv : ω.tvs = ys.map adrOf ++ [T])
    (hR : ∃ c, h.get? ω.R = some (listObj (ys ++ [.ref T]) c)) : WordsAt ω h 0 d := by
  have hwl : (wordsOf told).length = told.length := by unfold wordsOf; simp
  refine ⟨hi, hd, ?_, ?_, fun j t a h1 h2 => ?_, ?_, ?_⟩
  · obtain ⟨c, hR⟩ := hR
    refine ⟨c, ?_⟩
    rw [hR, hv, List.map_append, ← rows_refs r]; rfl
  · rw [hv, ht]; simp [hwl, hlen]
  · rw [ht] at h1
    rw [hv] at h2
    by_cases hj : j < told.length
    · rw [List.getElem?_append_left (by rw [hwl]; exact hj)] at h1
      rw [List.getElem?_append_left (by rw [List.length_map, hlen]; exact hj)] at h2
      unfold wordsOf at h1
      rw [List.getElem?_map] at h1 h2
      have hv' : ys[j]? = some ys[j] := List.getElem?_eq_getElem (by rw [hlen]; exact hj)
      obtain ⟨x, T', k1, k2, k3, n, e1, e2, e3⟩ := r j _ hv'
      rw [e1] at h1
      rw [hv', e2] at h2
      (first | exact ff h1 | exact nn h1 | exact ns h1 | exact tf h1 | exact ln h1 | exact lc h1 | cases h1); cases h2
      exact ⟨k1, k2, k3, n, e3⟩
    · have hj := Nat.le_of_not_lt hj
      rw [List.getElem?_append_right (by rw [hwl]; exact hj), hwl] at h1
      rw [List.getElem?_append_right (by rw [List.length_map, hlen]; exact hj), List.length_map, hlen] at h2
      have hz : j - told.length = 0 := by
        have := (List.getElem?_eq_some_iff.mp h1).1
        simp only [List.length_cons, List.length_nil] at this
        omega
      have hje : j = told.length := by omega
      rw [hz] at h1 h2
      (first | exact ff h1 | exact nn h1 | exact ns h1 | exact tf h1 | exact ln h1 | exact lc h1 | cases h1); cases h2
      subst hje
      exact ⟨k1, k2, k3, n, hT⟩
  · rw [ht]; simp
  · rw [ht]
    refine ⟨by simp [hwl]; omega, _, _, rfl⟩

section
variable {B : Bs} {fr : Frm} {n : Nat} {s : Shared} {m : Str → Option Value}

structure MakeK (B : Bs) : Prop where
  t1 : takerIn B.K B.C "rows" = some none
  made : makesIn B.K B.C = true
  im : hasM B.K B.C "__init__" = true
  ini : okInit B.K (mAddr B.K B.C "__init__")
  gW : nsIn B.K mainGlobals "Words" = some (some (.ref B.C))
  kp : keepIn B.K (.ref B.C) = true

/-- the words are laid out, so many levels are gone into -/
theorem c_lwords {f : Addr} (MK : MethK B) (WK : MakeK B) (hf : okWords B.K f) (O : FrB B fr (n + 5)) (F : Fr fr.g fr.L s.heap m) {L : Addr} {us : List Value} {told : List Str} {ep many : Nat} {tm : PySem.Tok} (hL : s.heap.get? L = some (listObj us ep))
    (hstr : StrsAre us told) (hgood : ∀ x ∈ told, goodT x = true) (hlen : told.length ≤ 1000) (hmany : many ≤ 60) :
    wpAny (model B.prog B.w) fr.A (call (.ref f) [.ref L, .int many tm]) (fun v s' => ∃ ω : Wd, v = .ref ω.W ∧ WordsAt ω s'.heap 0 many ∧ ω.toks = wordsOf told ++ [endW] ∧ ω.C = B.C ∧ ω.R ≠ ω.D ∧ s.heap.get? ω.D = none ∧ Kept s.heap s'.heap ∧ OutAs s s') (fun _ _ => False) s := by
  obtain ⟨fd, w, hdef, hS⟩ := hf
  obtain ⟨hnd, hS⟩ := and_b hS
  obtain ⟨l1, hS⟩ := and_b hS
  obtain ⟨l2, hS⟩ := and_b hS
  obtain ⟨l3, hS⟩ := and_b hS
  obtain ⟨l4, hS⟩ := and_b hS
  obtain ⟨l5, hS⟩ := and_b hS
  obtain ⟨g1, hS⟩ := and_b hS
  obtain ⟨g2, hS⟩ := and_b hS
  obtain ⟨g3, hS⟩ := and_b hS
  obtain ⟨g4, hS⟩ := and_b hS
  obtain ⟨e2, hS⟩ := and_b hS
  obtain ⟨e3, hS⟩ := and_b hS
  obtain ⟨e4, hS⟩ := and_b hS
  obtain ⟨hline, hpos⟩ := and_b hS
  obtain ⟨q1, q2, q3, q4, q5⟩ := defOf_is hdef
  refine wpAny_abs fun Q hQ => enterQ O F [] (by intro a h; (first | exact ff h | exact nn h | exact ns h | exact tf h | exact ln h | exact lc h | cases h)) q1 q2 q3 (bind2 q2 q4 (noDf_is hnd) (by decide)) (show (["told", "many"] : List Str).Nodup by decide) q5 fun LL s₁ hLL hkk ho O' F' => ?_
  clear q1 q2 q3 q4 q5 hdef hnd
  have LLn : L ≠ LL := by rintro rfl; rw [hL] at hLL; (first | exact ff hLL | exact nn hLL | exact ns hLL | exact tf hLL | exact ln hLL | exact lc hLL | cases hLL)
  refine wpAny_execs_cons (x_rows O' F' (Nat.eq_of_beq_eq_true hline) (isLc_is l1) (isLc_is l3) (isGl_is g2) (noneK_is e2) rfl (hkk _ _ hL) hstr hgood hlen fun D h₂ tk₂ ys ep₂ F₂ hk₂ hDn hD₂ hyl hrows => ?_)
  have hL₂ : h₂.get? L = some (listObj us ep) := hk₂ _ _ LLn (hkk _ _ hL)
  have X₂ := O'.X.keeps F₂.keep
  refine wpAny_execs_cons (wpAny_Assign_Name (Call_ (gnm O' F₂ (isGl_is g1) WK.gW ?_)))
  refine callWith_K (h₀ := (fr.into s [] f fd LL).g) O'.X WK.kp (spliced_more (wpAny_BinOp (nm O' F₂ (isLc_is l3) rfl (List_ (spliced_more (Tuple_ (spliced_more (wpAny_Constant_str (spliced_more (wpAny_Constant_str (spliced_more (Call_ (bnm O' F₂ (isGl_is g3) (noneK_is e3) PyProof.Rows.Boot.«len» (by decide +kernel) ?_))))))))))))) rfl rfl
  refine callWith_builtin rfl (evalArgs_plain (spliced_cons (nm O' F₂ (isLc_is l1) rfl (spliced_nil ?_))))
  refine PyProof.Rows.len_list (items := us.toArray) ⟨_, hL₂, rfl, ep, rfl⟩ (by rw [List.size_toArray, hstr.1]; omega) ?_
  refine spliced_more (wpAny_Constant_none (spliced_more (wpAny_Constant_none (spliced_none ?_))))
  refine wpAny_newObj_type (T := "tuple") (data := .seq #[.str "end" _, .str "" _, .int us.toArray.size _, .none, .none]) (dict := none) ?_ (show 5 ≤ sizeLine by rw [sizeLine_eq]; decide)
  refine spliced_none ?_
  generalize hH1 : h₂.push ({ cls := .type "tuple", dict := none, data := .seq #[.str "end" _, .str "" _, .int us.toArray.size _, .none, .none] } : Obj) = H1
  have k1 : Kept h₂ H1 := fun b o e => by rw [← hH1]; exact Heap.get?_push_of_some _ e
  have hT1 : ∃ k1 k2 k3, H1.get? h₂.objs.size = some (tupObj [.str "end" k1, .str "" k2, .int told.length k3, .none, .none] 0) := ⟨_, _, _, by
    rw [← hH1, ← hstr.1]; exact Heap.get?_push_size _ rfl⟩
  obtain ⟨kk1, kk2, kk3, hT1⟩ := hT1
  refine wpAny_newObj_type (T := "list") (data := .seq #[Value.ref h₂.objs.size]) (dict := none) ?_ (show 1 ≤ sizeLine by rw [sizeLine_eq]; decide)
  generalize hH2 : H1.push ({ cls := .type "list", dict := none, data := .seq #[Value.ref h₂.objs.size] } : Obj) = H2
  have k2 : Kept H1 H2 := fun b o e => by rw [← hH2]; exact Heap.get?_push_of_some _ e
  have hl2 : H2.get? H1.objs.size = some ({ cls := .type "list", data := .seq #[Value.ref h₂.objs.size] } : Obj) := by rw [← hH2]; exact Heap.get?_push_size _ rfl
  refine P.add_list (items := ys.toArray) (items2 := #[Value.ref h₂.objs.size]) (k2 _ _ (k1 _ _ hD₂)) hl2 ?_ (by rw [List.size_toArray, hyl, sizeLine_eq]; show told.length + 1 ≤ _; omega)
  generalize hH3 : H2.push ({ cls := .type "list", data := .seq (ys.toArray ++ #[Value.ref h₂.objs.size]) } : Obj) = H3
  have k3 : Kept H2 H3 := fun b o e => by rw [← hH3]; exact Heap.get?_push_of_some _ e
  have hl3 : H3.get? H2.objs.size = some (listObj (ys ++ [Value.ref h₂.objs.size]) 0) := by
    rw [← hH3]
    have : ys.toArray ++ #[Value.ref h₂.objs.size] = (ys ++ [Value.ref h₂.objs.size]).toArray := by simp
    rw [this]; exact Heap.get?_push_size _ rfl
  have k123 : Kept h₂ H3 := fun b o e => k3 _ _ (k2 _ _ (k1 _ _ e))
  have F₃ := frExt F₂ k123
  refine spliced_none ⟨O'.X.keeps F₃.keep, ?_⟩
  refine c_words (n := n + 2) MK.CK WK.t1 WK.made WK.im WK.ini O' F₃ (l := H2.objs.size) (vs := ys ++ [Value.ref h₂.objs.size]) ⟨_, hl3, rfl, 0, rfl⟩ (by rw [List.length_append, hyl]; show told.length + 1 ≤ _; omega) fun s₄ xx dx R' a1 a2 a3 b1 b2 b3 ta td np c' hk₄ hxn hdn hRn hne hx₄ hR₄ hd₄ ho₄ => ?_
  have F₄ := frExt F₃ hk₄
  let ω : Wd := ⟨xx, dx, R', B.C, a1, a2, a3, b1, b2, b3, np, wordsOf told ++ [endW], ys.map adrOf ++ [h₂.objs.size]⟩
  have W₄ : WordsAt ω s₄.heap 0 0 := words_made (hrows.mono fun T vs n e => hk₄ _ _ (k123 _ _ e)) hyl hlen (hk₄ _ _ (k3 _ _ (k2 _ _ hT1))) hx₄ ⟨ta, td, hd₄⟩ rfl rfl ⟨c', hR₄⟩
  obtain ⟨oLL, _, _, hfL, hdL, _⟩ := id F₄.ns
  have hdxL : dx ≠ LL := by
    rintro rfl
    obtain ⟨oo, _, _, z, _⟩ := id F₃.ns
    cases hdn.symm.trans z
  have hgD : (fr.into s [] f fd LL).g.get? dx = none := by
    cases z : (fr.into s [] f fd LL).g.get? dx with
    | none => rfl
    | some o => cases hdn.symm.trans (F₃.keep _ _ z)
  refine stN' O' F₄ (isLc_is l4) fun h₅ tk₅ F₅ hs₅ => ?_
  replace hs₅ : Heap.SameBut LL s₄.heap h₅ := hs₅
  have W₅ : WordsAt ω h₅ 0 0 := W₄.off (fun b o q ne => hs₅.extBut b o ne q) hfL (.inl ⟨_, _, hdL⟩) hdxL
  refine wpAny_execs_cons (x_down (ω := ω) (n := n) MK O' F₅ (oneLine_is hpos) (isLc_is l2) (isLc_is l4) (isLc_is l5) (isGl_is g4) (noneK_is e4) rfl rfl hgD hdxL rfl hne W₅ hmany fun h₆ tk₆ m₆ F₆ hw₆ W₆ hk₆ => ?_)
  refine wpAny_execs_cons (wpAny_Return_some (nm O' F₆ (isLc_is l4) hw₆ ?_))
  have hdS : s.heap.get? dx = none := hgD
  refine hQ _ _ ⟨ω, rfl, W₆, rfl, rfl, hne, hdS, fun b o e => ?_, ho.trans (OutAs.trans ⟨rfl, rfl, rfl⟩ (ho₄.trans ⟨rfl, rfl, rfl⟩))⟩
  have bL : b ≠ LL := by rintro rfl; rw [hLL] at e; (first | exact ff e | exact nn e | exact ns e | exact tf e | exact ln e | exact lc e | cases e)
  have bD : b ≠ ω.D := by rintro rfl; rw [show s.heap.get? ω.D = none from hdS] at e; (first | exact ff e | exact nn e | exact ns e | exact tf e | exact ln e | exact lc e | cases e)
  exact hk₆ b o bL bD (hs₅.extBut _ _ bL (hk₄ _ _ (k123 _ _ (hk₂ _ _ bL (hkk _ _ e)))))
end
end
end Mine

namespace Mine
noncomputable section
noncomputable def isReadT (w : Ws) : List Stmt := [.Try [.Expr (.Call (.Name "read_expr" (wp w 0)) [.Name "here" (wp w 1)] [] (wp w 2)) (wp w 3)] [.ExceptHandler (some (.Name "GrammarFault" (wp w 4))) none [.Return (some (.Constant (.bool false) (wn w 5) (wp w 6))) (wp w 7)] (wp w 8)] [] [] (wp w 9), .Return (some (.Compare (.Subscript (.Call (.Attribute (.Name "here" (wp w 10)) "peek" (wp w 11)) [] [] (wp w 12)) (.Constant (.int (0 : Nat)) (wn w 13) (wp w 14)) (wp w 15)) [.Eq] [.Constant (.str "end") (wn w 16) (wp w 17)] (wp w 19))) (wp w 20)]
noncomputable def isReadS (fd : FuncData) (w : Ws) : Bool := noDf fd && (isLc fd "here" && (isGl fd "read_expr" && (isGl fd "GrammarFault" && oneLine w 11 12)))
noncomputable def okIsRead (K : Frag) (f : Addr) : Prop := Txt K f ["here"] isReadT isReadS

section
variable {B : Bs} {fr : Frm} {n : Nat} {s : Shared} {m : Str → Option Value} {ω : Wd}

structure ReadK (B : Bs) : Prop where
  g : nsIn B.K mainGlobals "read_expr" = some (some (.ref B.fExpr))
  kp : keepIn B.K (.ref B.fExpr) = true

theorem caught {fr : Frm} {Q : Flow → Shared → Prop} {p q a2 a3 : Pos} {a1 : Nat} {s s' : Shared} {x : Value} (MK : MethK B) (O : FrB B fr n) (XB : B.K.In fr.base) (TB : TopRead B.p B.loose B.mg B.mb fr.base)
    (hg : find "GrammarFault" fr.scope.names = some .globalImplicit) (hf : FliesTo B fr s x s') (hQ : ∀ s'', fr.base.StaysIn s''.heap → OutAs s s'' → Q (.ret (.bool false)) s'') :
    wpAny (model B.prog B.w) fr.A (noteFrame x fr.env) (fun _ s₂ => wpAny (model B.prog B.w) fr.A (setFlight x none) (fun _ s₃ =>
      wpAny (model B.prog B.w) fr.A (handleBy x fr.env [.ExceptHandler (some (.Name "GrammarFault" p)) none [.Return (some (.Constant (.bool false) a1 a2)) a3] q]) Q (fun _ _ => False) s₃) (fun _ _ => False) s₂) (fun _ _ => False) s' := by
  obtain ⟨e, a0, rfl, hfl, hu, ho⟩ := hf
  obtain ⟨fI, FK⟩ := MK.FK
  obtain ⟨oc, hCl, hcls⟩ := FK.cls
  have go : ∀ h₄, Heap.HeldW fr.base (fr.env :: fr.outer) e (.ref B.GF) a0 fr.L h₄ → wpAny (model B.prog B.w) fr.A (setFlight (.ref e) none) (fun _ s₃ =>
      wpAny (model B.prog B.w) fr.A (handleBy (.ref e) fr.env [.ExceptHandler (some (.Name "GrammarFault" p)) none [.Return (some (.Constant (.bool false) a1 a2)) a3] q]) Q (fun _ _ => False) s₃) (fun _ _ => False) { s' with heap := h₄ } := by
    intro h₄ hh
    refine wpAny_landsW hh fun h₅ hfl₅ _ => ?_
    refine wpAny_handleBy_cons (codeAny_handlers_test (Calls.Name_function_global (env := fr.env) O.kind ?_ (Calls.loadGlobal_global (env := fr.env) (TB.g.keeps hfl₅.1) (mg_of XB TB.g MK.gf) ?_) (by decide))) (by intro q; (first | exact ff q | exact nn q | exact ns q | exact tf q | exact ln q | exact lc q | cases q))
    · show fr.scope.names.lookup (Str.ofString "GrammarFault") = _
      rw [← find_eq]; exact hg
    · obtain ⟨ob, hob, hobc⟩ := hfl₅.there
      refine exc_elim hcls fun nmC qq N bs bm hdct sn sub ab col dd k0 kk1 kk2 kk3 k5 eO T => ?_
      subst eO
      refine wpAny_excMatches_sub_self (hfl₅.1 _ _ (XB _ _ hCl)) hob hobc T.hasBase (codeAny_handlers_suite ?_)
      refine lands_againW hfl₅ fun h₆ hfl₆ _ => ?_
      refine wpAny_passesOwnAt PassesOwnAt.never (wpAny_execs_cons (wpAny_Return_some (wpAny_Constant_bool ?_)))
      exact hQ _ hfl₆.1 ⟨ho.1, ho.2.1, ho.2.2⟩
  rcases hfl with hfl | hfl
  · exact wpAny_looks_onW (Around.frames_deeper O.below.stack) rfl hfl fun h₄ hh _ => go h₄ hh
  · exact wpAny_noteFrame_againW rfl hfl.2.2.2 (go s'.heap hfl)
end
end
end Mine

namespace Mine
noncomputable section
section
variable {B : Bs} {fr : Frm} {n : Nat} {s : Shared} {m : Str → Option Value} {ω : Wd}

/-- the words are read, or refused -/
theorem c_isread {f : Addr} {words : List (Str × Str)} {d e sz : Nat} (MK : MethK B) (RK : ReadK B) (XB : B.K.In fr.base) (TB : TopRead B.p B.loose B.mg B.mb fr.base) (hf : okIsRead B.K f) (hRB : ReadsBy B B.fExpr true words e sz)
    (O : FrB B fr (sz + 2)) (F : Fr fr.g fr.L s.heap m) (hD0 : fr.g.get? ω.D = none) (hDL0 : ω.D ≠ fr.L) (hR : ω.R ≠ ω.D) (hC : ω.C = B.C) (W : WordsAt ω s.heap 0 d) (ht : ω.toks = words ++ [endW]) (hd : d ≤ 60) :
    wpAny (model B.prog B.w) fr.A (call (.ref f) [.ref ω.W]) (fun v s' => (d + e ≤ 60 ∧ v = .bool true ∧ KeepsBut ω.D s.heap s'.heap ∧ WordsAt ω s'.heap words.length d ∧ OutAs s s') ∨ (60 < d + e ∧ v = .bool false ∧ fr.base.StaysIn s'.heap ∧ OutAs s s')) (fun _ _ => False) s := by
  obtain ⟨fd, w, hdef, hS⟩ := hf
  obtain ⟨hnd, hS⟩ := and_b hS
  obtain ⟨l1, hS⟩ := and_b hS
  obtain ⟨g1, hS⟩ := and_b hS
  obtain ⟨g2, hpos⟩ := and_b hS
  obtain ⟨q1, q2, q3, q4, q5⟩ := defOf_is hdef
  have hpos := oneLine_is hpos
  obtain ⟨fk, Mp, hpk⟩ := MK.peek
  obtain ⟨ti, td, hDo⟩ := W.dict
  refine wpAny_abs fun Q hQ => enterQ (n := sz + 1) O F [ω.D] (by intro a h; simp only [List.mem_singleton] at h; subst h; exact ⟨hD0, hDL0⟩) q1 q2 q3 (bind1 q2 q4 (noDf_is hnd)) (show (["here"] : List Str).Nodup by decide) q5 fun LL s₁ hLL hkk ho O' F' => ?_
  have gD : (fr.into s [ω.D] f fd LL).g.get? ω.D = none := hideAll_none _ (.head _)
  have dL : ω.D ≠ LL := by rintro rfl; rw [hDo] at hLL; (first | exact ff hLL | exact nn hLL | exact ns hLL | exact tf hLL | exact ln hLL | exact lc hLL | cases hLL)
  have W₁ := W.ext hkk
  have OR : FrB B (fr.into s [ω.D] f fd LL) sz := ⟨O'.below, O'.X, O'.T, O'.kind, O'.hh, O'.dbg, by have := O'.room; omega, by have := O'.units; omega⟩
  refine wpAny_execs_cons (wpAny_Try_except (wpAny_execs_cons (wpAny_Expr_any (Call_ (gnm O' F' (isGl_is g1) RK.g ?_)) (no_interK O') rfl)))
  refine callWith_K (h₀ := (fr.into s [ω.D] f fd LL).g) O'.X RK.kp (spliced_more (nm O' F' (isLc_is l1) rfl (spliced_none ⟨O'.X.keeps F'.keep, ?_⟩))) rfl rfl
  refine wpAny_mono (hRB _ ω s₁ 0 d _ [.ref ω.W] OR F' gD dL hR hC W₁ ⟨_, _, [], ?_, .inr ⟨rfl, rfl⟩⟩ hd (.inl rfl)) (fun v s₂ q => ?_) fun x s₂ q => ?_
  · rw [ht, List.drop_zero]; rfl
  · obtain ⟨hde, hk₂, W₂, ho₂⟩ := q
    rw [Nat.zero_add] at W₂
    have F₂ := frBut F' (fun b o ne q => hk₂ b o q ne) gD dL
    have hlast : ω.toks[words.length]? = some endW := by rw [ht, List.getElem?_append_right (Nat.le_refl _), Nat.sub_self]; rfl
    obtain ⟨a, k1, k2, k3, nn, ha, hta⟩ := tok_obj W₂ (k := Str.ofString "end") (x := Str.ofString "") hlast
    refine wpAny_execs_nil (wpAny_execs_nil ?_)
    refine wpAny_execs_cons (wpAny_Return_some (wpAny_Compare1 (Subscript_ (self0 MK.CK Mp (fun _ _ _ _ _ => rfl) O' F₂ hC W₂ (isLc_is l1) rfl hpos ?_)) rfl))
    refine wpAny_mono (c_peek (n := sz) MK.CK hpk O' F₂ hC W₂ (vs := [.ref ω.W]) (k := 0) (j := words.length) (.inl ⟨rfl, rfl⟩) (by omega) (by omega) (by have := W₂.lt; omega) ha) (fun v s₃ q => ?_) fun _ _ e => e.elim
    obtain ⟨rfl, hk₃, ho₃⟩ := q
    refine wpAny_Constant_int (item_tupleT (l := _) (k := ((0 : Nat) : Int)) (x := .str "end" k1) ⟨_, hk₃ _ _ hta, rfl, nn, rfl⟩ (by omega) (by omega) (seqIndex_nat (show 0 < 5 by decide)) rfl (wpAny_Constant_str (PyProof.Rows.eq_str ?_)) rfl)
    refine hQ _ _ (.inl ⟨hde, ?_, fun b o e ne => hk₃ _ _ (hk₂ _ _ (hkk _ _ e) ne), W₂.ext hk₃, ho.trans (ho₂.trans (ho₃.trans ⟨rfl, rfl, rfl⟩))⟩)
    show Value.bool _ = _
    simp
  · obtain ⟨hde, hfl⟩ := q
    refine wpAny_mono (caught (n := sz) MK OR XB TB (isGl_is g2) hfl fun s'' hb'' ho'' => ?_) (fun _ _ e => e) fun _ _ e => e.elim
    exact hQ _ _ (.inr ⟨hde, rfl, hb'', ho.trans ho''⟩)
end
end
end Mine

namespace Mine
noncomputable section
noncomputable def lawC (w : Ws) : Expr := .IfExp (.Compare (.Subscript (.Name "source" (wp w 12)) (.Constant (.int (0 : Nat)) (wn w 13) (wp w 14)) (wp w 15)) [.Gt] [.Constant (.int (0 : Nat)) (wn w 16) (wp w 17)] (wp w 18)) (.BinOp (.Constant (.int (3 : Nat)) (wn w 19) (wp w 20)) .Add (.Call (.Name "_law_take" (wp w 21)) [.Name "source" (wp w 22), .Constant (.int (4 : Nat)) (wn w 23) (wp w 24)] [] (wp w 25)) (wp w 26)) (.BinOp (.Constant (.int (1 : Nat)) (wn w 27) (wp w 28)) .Add (.Call (.Name "_law_take" (wp w 29)) [.Name "source" (wp w 30), .Constant (.int (2 : Nat)) (wn w 31) (wp w 32)] [] (wp w 33)) (wp w 34)) (wp w 35)
noncomputable def lawR (w : Ws) : Stmt := .For (.Name "turn" (wp w 10)) (.Call (.Name "range" (wp w 11)) [lawC w] [] (wp w 36)) [.Assign [.Name "part" (wp w 37)] (.Call (.Name "_law_form" (wp w 38)) [.Name "source" (wp w 39), .Name "part" (wp w 40)] [] (wp w 41)) (wp w 42)] [] (wp w 43)
noncomputable def lawU (w : Ws) : Stmt := .Assign [.Tuple [.Name "told" (wp w 44), .Name "deep" (wp w 45), .Name "is_block" (wp w 46)] (wn w 47) (wp w 48)] (.Name "part" (wp w 49)) (wp w 50)
noncomputable def lawT (w : Ws) : List Stmt := [.Assign [.Name "source" (wp w 0)] (.Call (.Name "_law_pool" (wp w 1)) [.Name "script" (wp w 2)] [] (wp w 3)) (wp w 4), .Assign [.Name "part" (wp w 5)] (.Call (.Name "_law_base" (wp w 6)) [.Name "source" (wp w 7)] [] (wp w 8)) (wp w 9), lawR w, lawU w, .Assign [.Name "here" (wp w 51)] (.Call (.Name "_law_words" (wp w 52)) [.Name "told" (wp w 53), .BinOp (.Constant (.int (60 : Nat)) (wn w 54) (wp w 55)) .Sub (.Name "deep" (wp w 56)) (wp w 57)] [] (wp w 58)) (wp w 59), .If (.BoolOp .Or [.UnaryOp .Not (.Call (.Name "_law_is_read" (wp w 60)) [.Name "here" (wp w 61)] [] (wp w 62)) (wp w 63), .Compare (.Attribute (.Name "here" (wp w 64)) "deep" (wp w 65)) [.NotEq] [.BinOp (.Constant (.int (60 : Nat)) (wn w 66) (wp w 67)) .Sub (.Name "deep" (wp w 68)) (wp w 69)] (wp w 70)] (wp w 71)) [.Return (some (.Constant (.bool false) (wn w 72) (wp w 73))) (wp w 74)] [] (wp w 75), .Return (some (.UnaryOp .Not (.Call (.Name "_law_is_read" (wp w 76)) [.Call (.Name "_law_words" (wp w 77)) [.Name "told" (wp w 78), .BinOp (.Constant (.int (61 : Nat)) (wn w 79) (wp w 80)) .Sub (.Name "deep" (wp w 81)) (wp w 82)] [] (wp w 83)] [] (wp w 84)) (wp w 85))) (wp w 86)]
end
end Mine

namespace Mine
noncomputable section

theorem FrB.less {B : Bs} {fr : Frm} {n k : Nat} (O : FrB B fr n) (h : k ≤ n) : FrB B fr k :=
  ⟨O.below, O.X, O.T, O.kind, O.hh, O.dbg, by have := O.room; omega, by have := O.units; omega⟩

/-- what the law's own level asks of the text -/
structure LawK (B : Bs) : Prop where
  MK : MethK B
  H : BsOk B
  TB : TakesBy B 20
  WK : MakeK B
  RK : ReadK B
  bRun : baseRun B.K = true
  bAll : baseAll B.K bases = true
  fRun : ∀ b, formsRun B.K b = true
  fAll : ∀ b, fineAll B.K b (forms b) = true
  gP : nsIn B.K mainGlobals "_law_pool" = some (some (.ref (refOf B.K "_law_pool")))
  kP : keepIn B.K (.ref (refOf B.K "_law_pool")) = true
  hP : okPool B.K (refOf B.K "_law_pool")
  gB : nsIn B.K mainGlobals "_law_base" = some (some (.ref (refOf B.K "_law_base")))
  kB : keepIn B.K (.ref (refOf B.K "_law_base")) = true
  gF : nsIn B.K mainGlobals "_law_form" = some (some (.ref (refOf B.K "_law_form")))
  kF : keepIn B.K (.ref (refOf B.K "_law_form")) = true
  gT : nsIn B.K mainGlobals "_law_take" = some (some (.ref B.fTake))
  kT : keepIn B.K (.ref B.fTake) = true
  gW : nsIn B.K mainGlobals "_law_words" = some (some (.ref (refOf B.K "_law_words")))
  kW : keepIn B.K (.ref (refOf B.K "_law_words")) = true
  hW : okWords B.K (refOf B.K "_law_words")
  gI : nsIn B.K mainGlobals "_law_is_read" = some (some (.ref (refOf B.K "_law_is_read")))
  kI : keepIn B.K (.ref (refOf B.K "_law_is_read")) = true
  hI : okIsRead B.K (refOf B.K "_law_is_read")
  rg : nsIn B.K mainGlobals "range" = some none

noncomputable def locL : List Str := ["script", "source", "part", "turn", "told", "deep", "is_block", "here"]
noncomputable def gloL : List Str := ["_law_pool", "_law_base", "range", "_law_take", "_law_form", "_law_words", "_law_is_read"]

section
variable {B : Bs} {fr : Frm} {n : Nat} {s : Shared} {m : Str → Option Value} {S : Addr}

theorem Fr.but2 {g h h' : Heap} {L S : Addr} {off : List Addr} {m : Str → Option Value} (F : Fr g L h m) (k : ∀ b o, h.get? b = some o → b ≠ S → b ∉ off → h'.get? b = some o) (hg : g.get? S = none) (hL : S ≠ L) (ho : ∀ a ∈ off, g.get? a = none ∧ a ≠ L) : Fr g L h' m := by
  obtain ⟨oL, a1, a2, hL', a3⟩ := F.ns
  refine ⟨⟨oL, a1, a2, k _ _ hL' (Ne.symm hL) fun q => (ho _ q).2 rfl, a3⟩, fun b o e => k b o (F.keep b o e) ?_ fun q => ?_, F.above⟩
  · rintro rfl; rw [hg] at e; (first | exact ff e | exact nn e | exact ns e | exact tf e | exact ln e | exact lc e | cases e)
  · rw [(ho _ q).1] at e; (first | exact ff e | exact nn e | exact ns e | exact tf e | exact ln e | exact lc e | cases e)

/-- one object that is no sequence is changed -/
theorem SrcAt.off {h h' : Heap} {c : Addr} {o : Obj} (x : SrcAt h S) (k : ∀ b o, h.get? b = some o → b ≠ c → h'.get? b = some o) (e : h.get? c = some o) (hd : (∃ es ep, o.data = .dict es ep) ∨ ∃ vs, o.data = .fields vs) : SrcAt h' S := by
  obtain ⟨i, j, ti, tj, oS, nn, h1, h2, h3, h4⟩ := x
  refine ⟨i, j, ti, tj, oS, nn, k _ _ h1 ?_, h2, h3, h4⟩
  rintro rfl
  rw [e] at h1; (first | exact ff h1 | exact nn h1 | exact ns h1 | exact tf h1 | exact ln h1 | exact lc h1 | cases h1)
  rcases hd with ⟨_, _, z⟩ | ⟨_, z⟩ <;> (rw [z] at h3; (first | exact ff h3 | exact nn h3 | exact ns h3 | exact tf h3 | exact ln h3 | exact lc h3 | cases h3))
theorem PartAt.off {h h' : Heap} {c P L : Addr} {o : Obj} {told : List Str} {e : Nat} {b : Bool} (x : PartAt h S P L told e b) (k : ∀ b o, h.get? b = some o → b ≠ c → h'.get? b = some o) (he : h.get? c = some o) (hd : (∃ es ep, o.data = .dict es ep) ∨ ∃ vs, o.data = .fields vs) : PartAt h' S P L told e b := by
  have ne : ∀ b o', h.get? b = some o' → (∀ es ep, o'.data ≠ .dict es ep) → (∀ vs, o'.data ≠ .fields vs) → b ≠ c := by
    rintro b o' q n1 n2 rfl
    rw [he] at q; (first | exact ff q | exact nn q | exact ns q | exact tf q | exact ln q | exact lc q | cases q)
    rcases hd with ⟨_, _, z⟩ | ⟨_, z⟩
    · exact n1 _ _ z
    · exact n2 _ z
  obtain ⟨⟨t, nn, h1⟩, ⟨us, nn', h2, h3⟩, h4, h5⟩ := x
  exact ⟨⟨t, nn, k _ _ h1 (ne _ _ h1 (by intro _ _ z; (first | exact ff z | exact nn z | exact ns z | exact tf z | exact ln z | exact lc z | cases z)) (by intro _ z; (first | exact ff z | exact nn z | exact ns z | exact tf z | exact ln z | exact lc z | cases z)))⟩, ⟨us, nn', k _ _ h2 (ne _ _ h2 (by intro _ _ z; (first | exact ff z | exact nn z | exact ns z | exact tf z | exact ln z | exact lc z | cases z)) (by intro _ z; (first | exact ff z | exact nn z | exact ns z | exact tf z | exact ln z | exact lc z | cases z))), h3⟩, h4, h5⟩

/-- where the law stands between two turns -/
structure LawAt (B : Bs) (fr : Frm) (S : Addr) (i : Nat) (h : Heap) (m : Str → Option Value) : Prop where
  F : Fr fr.g fr.L h m
  ms : m "source" = some (.ref S)
  src : SrcAt h S
  part : ∃ P L told e b, m "part" = some (.ref P) ∧ PartAt h S P L told e b ∧ PartOk B told e b (44 + 40 * i) ∧ told.length ≤ 40 + 20 * i ∧ e ≤ 11 + 3 * i ∧ fr.g.get? L = none ∧ L ≠ fr.L

theorem LawAt.off {i : Nat} {h h' : Heap} {c : Addr} {o : Obj} (x : LawAt B fr S i h m) (k : ∀ b o, h.get? b = some o → b ≠ c → h'.get? b = some o) (he : h.get? c = some o) (hd : (∃ es ep, o.data = .dict es ep) ∨ ∃ vs, o.data = .fields vs) {m' : Str → Option Value} (F : Fr fr.g fr.L h' m') (h1 : m' "source" = m "source") (h2 : m' "part" = m "part") : LawAt B fr S i h' m' := by
  obtain ⟨F0, ms, src, P, L, told, e, b, y1, y2, y3, y4⟩ := x
  exact ⟨F, h1.trans ms, src.off k he hd, P, L, told, e, b, h2.trans y1, y2.off k he hd, y3, y4⟩

/-- part = f(..), where f draws a part -/
theorem s_part {Q : Flow → Shared → Prop} {E : Value → Shared → Prop} {i : Nat} {p q : Pos} {e : Expr} {off : List Addr} {sz len dm : Nat} (O : FrB B fr n) (F : Fr fr.g fr.L s.heap m) (hl : find "part" fr.scope.names = some .local) (ms : m "source" = some (.ref S)) (gS : fr.g.get? S = none) (SL : S ≠ fr.L)
    (ho : ∀ a ∈ off, fr.g.get? a = none ∧ a ≠ fr.L) (h1 : sz = 44 + 40 * i) (h2 : len ≤ 40 + 20 * i) (h3 : dm ≤ 11 + 3 * i) (hsw : isComp e = false)
    (hx : wpAny (model B.prog B.w) fr.A (eval e fr.env) (Drawn B fr s S sz len dm off) E s)
    (h : ∀ h' tk m', LawAt B fr S i h' m' → (∀ b o, s.heap.get? b = some o → b ≠ S → b ∉ off → b ≠ fr.L → h'.get? b = some o) → Q .next { s with heap := h', toks := tk }) :
    wpAny (model B.prog B.w) fr.A (exec (.Assign [.Name "part" p] e q) fr.env) Q E s := by
  refine wpAny_Assign_Name (wpAny_mono hx (fun v s₁ d => ?_) fun _ _ e => e) (no_swap hsw)
  obtain ⟨P, L, told, e, b, rfl, pa, po, hlen, he, gL, LL, src, k, o1, o2, o3⟩ := d
  obtain ⟨H, g, dr, tk, os⟩ := s₁
  (first | exact ff o1 | exact nn o1 | exact ns o1 | exact tf o1 | exact ln o1 | exact lc o1 | cases o1); cases o2; (first | exact ff o3 | exact nn o3 | exact ns o3 | exact tf o3 | exact ln o3 | exact lc o3 | cases o3)
  have F₁ := Fr.but2 F k gS SL ho
  obtain ⟨oL, _, _, hL, hdL, _⟩ := id F₁.ns
  refine stN' O F₁ hl fun h₂ tk₂ F₂ hs₂ => ?_
  replace hs₂ : Heap.SameBut fr.L H h₂ := hs₂
  have k₂ : ∀ b o, H.get? b = some o → b ≠ fr.L → h₂.get? b = some o := fun b o e ne => hs₂.extBut b o ne e
  refine h h₂ tk₂ _ ⟨F₂, (if_neg (by decide)).trans ms, src.off k₂ hL (.inl ⟨_, _, hdL⟩), P, L, told, e, b, if_pos rfl, pa.off k₂ hL (.inl ⟨_, _, hdL⟩), h1 ▸ po, by omega, by omega, gL, LL⟩ fun b o e n1 n2 n3 => k₂ _ _ (k _ _ e n1 n2) n3
end
end
end Mine

namespace Mine
noncomputable section
section
variable {B : Bs} {fr : Frm} {n : Nat} {s : Shared} {m : Str → Option Value} {S : Addr}

theorem LawAt.draw {i : Nat} {h h' : Heap} (x : LawAt B fr S i h m) (gS : fr.g.get? S = none) (SL : S ≠ fr.L) (k : ∀ b o, h.get? b = some o → b ≠ S → h'.get? b = some o) (hS : SrcAt h' S) : LawAt B fr S i h' m := by
  obtain ⟨F, ms, src, P, L, told, e, b, y1, ⟨⟨t, nn, z1⟩, ⟨us, nn', z2, z3⟩, z4, z5⟩, y3⟩ := x
  refine ⟨Fr.but2 (off := []) F (fun b o e ne _ => k b o e ne) gS SL (fun a ha => by (first | exact ff ha | exact nn ha | exact ns ha | exact tf ha | exact ln ha | exact lc ha | cases ha)), ms, hS, P, L, told, e, b, y1, ⟨⟨t, nn, k _ _ z1 ?_⟩, ⟨us, nn', k _ _ z2 z4, z3⟩, z4, z5⟩, y3⟩
  rintro rfl
  obtain ⟨_, _, _, _, oS, _, h1, h2, _⟩ := src
  have := (tup_apart z1 h1).1
  rw [h2] at this
  injection this with this
  revert this
  decide
theorem SrcAt.list {h : Heap} (x : SrcAt h S) : ∃ (i j : Int) (ti tj : PySem.Tok), h.IsList S [Value.int i ti, .int j tj].toArray := by
  obtain ⟨i, j, ti, tj, o, nn, h1, h2, h3, _⟩ := x
  exact ⟨i, j, ti, tj, o, h1, h2, nn, h3⟩

/-- k + _law_take(source, c) -/
theorem x_plus {E : Value → Shared → Prop} {k c x1 x2 : Nat} {p p1 p2 p3 p4 p5 : Pos} {Q : Value → Shared → Prop} (LK : LawK B) (O : FrB B fr 20) (A : LawAt B fr S 0 s.heap m) (gS : fr.g.get? S = none) (SL : S ≠ fr.L)
    (hl : find "source" fr.scope.names = some .local) (hg : find "_law_take" fr.scope.names = some .globalImplicit) (h1 : 1 ≤ c) (h2 : c ≤ 1000)
    (h : ∀ N t s', N < k + c → LawAt B fr S 0 s'.heap m → OutAs s s' → Q (.int (N : Nat) t) s') : wpAny (model B.prog B.w) fr.A (eval (.BinOp (.Constant (.int k) x1 p) .Add (.Call (.Name "_law_take" p1) [.Name "source" p2, .Constant (.int c) x2 p3] [] p4) p5) fr.env) Q E s := by
  refine wpAny_BinOp (wpAny_Constant_int (Call_ (gnm O A.F hg LK.gT ?_)))
  refine callWith_K (h₀ := fr.g) O.X LK.kT (spliced_more (nm O A.F hl A.ms (spliced_more (wpAny_Constant_int (spliced_none ⟨O.X.keeps A.F.keep, ?_⟩))))) rfl rfl
  refine wpAny_mono (LK.TB fr S _ c _ m O A.F gS SL A.src h1 h2) (fun v s₁ q => ?_) fun _ _ e => e.elim
  obtain ⟨i, t', rfl, hi, hS, hk, ho⟩ := q
  refine PyProof.Rows.add_int ?_
  have : ((k : Nat) : Int) + Int.ofNat i = ((k + i : Nat) : Int) := by show (k : Int) + (i : Int) = _; omega
  rw [this]
  exact h (k + i) _ _ (by omega) (A.draw gS SL hk hS) (OutAs.trans ⟨rfl, rfl, rfl⟩ (ho.trans ⟨rfl, rfl, rfl⟩))
theorem x_count {E : Value → Shared → Prop} {w : Ws} {Q : Value → Shared → Prop} (LK : LawK B) (O : FrB B fr 20) (A : LawAt B fr S 0 s.heap m) (gS : fr.g.get? S = none) (SL : S ≠ fr.L)
    (hl : find "source" fr.scope.names = some .local) (hg : find "_law_take" fr.scope.names = some .globalImplicit)
    (h : ∀ N t s', N ≤ 6 → LawAt B fr S 0 s'.heap m → OutAs s s' → Q (.int (N : Nat) t) s') : wpAny (model B.prog B.w) fr.A (eval (lawC w) fr.env) Q E s := by
  obtain ⟨i, j, ti, tj, hL⟩ := A.src.list
  refine IfExp_ (wpAny_isTrue_Compare1 (it_list (j := 0) O A.F hl A.ms hL rfl (by decide) fun tk => wpAny_Constant_int (PyProof.Rows.gt_int (wpAny_truthy_bool ?_))) rfl)
  cases decide (((0 : Nat) : Int) < i) with
  | true =>
    simp only [if_true]
    exact x_plus LK O A gS SL hl hg (by decide) (by decide) fun N t s' hN A' o' => h N t s' (by omega) A' (OutAs.trans ⟨rfl, rfl, rfl⟩ o')
  | false =>
    simp only [Bool.false_eq_true, if_false]
    exact x_plus LK O A gS SL hl hg (by decide) (by decide) fun N t s' hN A' o' => h N t s' (by omega) A' (OutAs.trans ⟨rfl, rfl, rfl⟩ o')

/-- for turn in range(..): part = _law_form(source, part) -/
theorem x_turns {w : Ws} {E : Value → Shared → Prop} {Q : Flow → Shared → Prop} (LK : LawK B) (O : FrB B fr 60) (A : LawAt B fr S 0 s.heap m) (gS : fr.g.get? S = none) (SL : S ≠ fr.L)
    (hl : ∀ x ∈ locL, find x fr.scope.names = some .local) (hg : ∀ x ∈ gloL, find x fr.scope.names = some .globalImplicit)
    (h : ∀ N s' m', N ≤ 6 → LawAt B fr S N s'.heap m' → OutAs s s' → Q .next s') :
    wpAny (model B.prog B.w) fr.A (exec (lawR w) fr.env) Q E s := by
  refine wpAny_For ?_ (fun _ => rfl)
  refine Call_ (bnm O A.F (hg _ (by decide)) LK.rg PyProof.Rows.Boot.«range» (by decide) ?_)
  refine PyProof.Rows.callWith_type rfl (evalArgs_plain (spliced_cons (x_count LK (O.less (by decide)) A gS SL (hl _ (by decide)) (hg _ (by decide)) fun N t s₁ hN A₁ ho₁ => spliced_nil ?_)))
  obtain ⟨hsm, hsize⟩ := range_small (k := N) (by omega)
  refine call_range_1 ?_
  refine wpAny_pyIter_range (Heap.get?_push_size _ rfl) hsm ?_
  rw [hsize]
  generalize hH : (s₁.heap.push ({ cls := .type "range", data := .fields #[.int 0 s₁.toks, .int N t, .int 1 (s₁.toks + 1)] } : Obj)) = H
  have hk1 : ∀ b o, s₁.heap.get? b = some o → H.get? b = some o := fun b o e => by rw [← hH]; exact Heap.get?_push_of_some _ e
  have hk2 : ∀ b o, s₁.heap.get? b = some o → (H.push ({ cls := .type "range_iterator", data := .fields #[rawInt 0, rawInt N, rawInt 1] } : Obj)).get? b = some o := fun b o e => Heap.get?_push_of_some _ (hk1 b o e)
  have hI0 : (H.push ({ cls := .type "range_iterator", data := .fields #[rawInt 0, rawInt N, rawInt 1] } : Obj)).get? H.objs.size = some _ := Heap.get?_push_size _ rfl
  have old : ∀ b o, s₁.heap.get? b = some o → b ≠ H.objs.size := fun b o e => Nat.ne_of_lt (Heap.lt_size (hk1 b o e))
  obtain ⟨oL, _, _, hLo, _⟩ := id A₁.F.ns
  have nL : H.objs.size ≠ fr.L := Ne.symm (old _ _ hLo)
  have nS : H.objs.size ≠ S := by obtain ⟨_, _, _, _, _, _, z, _⟩ := A₁.src; exact Ne.symm (old _ _ z)
  have gI : fr.g.get? H.objs.size = none := by
    cases z : fr.g.get? H.objs.size with
    | none => rfl
    | some o => exact absurd rfl (old _ _ (A₁.F.keep _ _ z))
  have A₂ : LawAt B fr S 0 (H.push ({ cls := .type "range_iterator", data := .fields #[rawInt 0, rawInt N, rawInt 1] } : Obj)) m :=
    A₁.off (c := fr.L) (fun b o e _ => hk2 b o e) hLo (by obtain ⟨oL', es, ep, z1, z2, _⟩ := A₁.F.ns; rw [hLo] at z1; (first | exact ff z1 | exact nn z1 | exact ns z1 | exact tf z1 | exact ln z1 | exact lc z1 | cases z1); exact .inl ⟨es, ep, z2⟩) (frExt A₁.F hk2) rfl rfl
  refine opaque_inv (fun k s' => ∃ h' tk i m', s' = { s₁ with heap := h', toks := tk } ∧ i ≤ N ∧ k = N + 1 - i ∧ IsRangeIter h' H.objs.size (i : Int) ((N : Int) - (i : Int)) 1 ∧ LawAt B fr S i h' m') fun I i1 i2 => codeAny_forLoop_any I ?_ (N + 1)
    (i2 _ _ ⟨_, _, 0, m, rfl, Nat.zero_le _, rfl, by simpa using hI0, A₂⟩)
  intro k s' hk0
  obtain ⟨h', tk, i, m', rfl, hi, rfl, hit, A'⟩ := i1 _ _ hk0
  clear i1 hk0
  by_cases hlt : i < N
  · refine wpAny_pyNext_range_item hit (by omega) fun h₁ hit₁ hs₁ => ?_
    refine wpAny_pure ?_
    have A₁' : LawAt B fr S i h₁ m' := A'.off (fun b o q ne => hs₁.extBut b o ne q) hit (.inr ⟨_, rfl⟩) (frBut A'.F hs₁.extBut gI nL) rfl rfl
    refine wpAny_assign_Name (stN' O A₁'.F (hl _ (by decide)) fun h₂ tk₂ F₂ hs₂ => ?_)
    replace hs₂ : Heap.SameBut fr.L h₁ h₂ := hs₂
    obtain ⟨oL₁, esL, epL, hL₁, hdL₁, _⟩ := id A₁'.F.ns
    have A₂' : LawAt B fr S i h₂ _ := A₁'.off (fun b o q ne => hs₂.extBut b o ne q) hL₁ (.inl ⟨_, _, hdL₁⟩) F₂ (if_neg (by decide)) (if_neg (by decide))
    obtain ⟨P, L, told, e, bl, y1, y2, y3, y4, y5, y6, y7⟩ := id A₂'.part
    have hit₂ := hs₂.extBut _ _ nL hit₁
    have nLst : H.objs.size ≠ L := by
      rintro q
      obtain ⟨us, nn, z, _⟩ := y2.lst
      rw [← q, hit₂] at z
      have zz : Data.fields _ = Data.seq _ _ := Option.some.inj (congrArg (Option.map Obj.data) z)
      (first | exact ff zz | exact nn zz | exact ns zz | exact tf zz | exact ln zz | exact lc zz | cases zz)
    refine wpAny_execs_cons (s_part (off := [L]) (i := i + 1) (sz := 40 + (44 + 40 * i)) (len := told.length + 20) (dm := 3 + e) O A₂'.F (hl _ (by decide)) A₂'.ms gS SL (fun a ha => by simp only [List.mem_singleton] at ha; subst ha; exact ⟨y6, y7⟩) (by omega) (by omega) (by omega) rfl ?_ (fun h₃ tk₃ m₃ A₃ hk₃ => ?_))
    · refine Call_ (gnm O A₂'.F (hg _ (by decide)) LK.gF ?_)
      refine callWith_K (h₀ := fr.g) O.X LK.kF (spliced_more (nm O A₂'.F (hl _ (by decide)) A₂'.ms (spliced_more (nm O A₂'.F (hl _ (by decide)) y1 (spliced_none ⟨O.X.keeps A₂'.F.keep, ?_⟩))))) rfl rfl
      exact wpAny_mono (c_form LK.MK LK.H LK.TB LK.fRun LK.fAll O A₂'.F gS SL A₂'.src y2 y3 (by omega) (by omega) y6 y7) (fun _ _ q => q) fun _ _ e => e.elim
    · refine wpAny_execs_nil ⟨N + 1 - (i + 1), by omega, i2 _ _ ⟨h₃, tk₃, i + 1, m₃, rfl, hlt, rfl, ?_, A₃⟩⟩
      have e1 : (i : Int) + 1 = ((i + 1 : Nat) : Int) := by omega
      have e2 : (N : Int) - (i : Int) - 1 = (N : Int) - ((i + 1 : Nat) : Int) := by omega
      rw [e1, e2] at hit₂
      exact hk₃ _ _ hit₂ nS (by simpa using nLst) nL
  · have hie : i = N := by omega
    subst hie
    refine wpAny_pyNext_range_end O.hh hit (by omega) fun h₁ hx₁ => wpAny_execs_nil ?_
    exact h i _ m' hN (A'.off (fun b o q ne => hx₁ b o ne q) hit (.inr ⟨_, rfl⟩) (frBut A'.F hx₁ gI nL) rfl rfl) (ho₁.trans ⟨rfl, rfl, rfl⟩)
end
end
end Mine

namespace Mine
noncomputable section
section
variable {B : Bs} {fr : Frm} {n : Nat} {s : Shared} {m : Str → Option Value} {S : Addr}

/-- _law_words(told, k - deep) -/
theorem x_lw {E : Value → Shared → Prop} {Q : Value → Shared → Prop} {p1 p2 p p3 p4 p5 : Pos} {a k e : Nat} {te : PySem.Tok} {L : Addr} {us : List Value} {told : List Str} {ep : Nat} (LK : LawK B) (O : FrB B fr 5) (F : Fr fr.g fr.L s.heap m)
    (hl : ∀ x ∈ locL, find x fr.scope.names = some .local) (hg : ∀ x ∈ gloL, find x fr.scope.names = some .globalImplicit) (mt : m "told" = some (.ref L)) (md : m "deep" = some (.int (e : Nat) te)) (hL : s.heap.get? L = some (listObj us ep)) (hstr : StrsAre us told)
    (hgood : ∀ x ∈ told, goodT x = true) (hlen : told.length ≤ 1000) (h1 : e ≤ k) (h2 : k - e ≤ 60)
    (h : ∀ (ω : Wd) s', WordsAt ω s'.heap 0 (k - e) → ω.toks = wordsOf told ++ [endW] → ω.C = B.C → ω.R ≠ ω.D → fr.g.get? ω.D = none → ω.D ≠ fr.L → Kept s.heap s'.heap → OutAs s s' → s.heap.get? ω.D = none → Q (.ref ω.W) s') :
    wpAny (model B.prog B.w) fr.A (eval (.Call (.Name "_law_words" p1) [.Name "told" p2, .BinOp (.Constant (.int k) a p) .Sub (.Name "deep" p3) p4] [] p5) fr.env) Q E s := by
  refine Call_ (gnm O F (hg _ (by decide)) LK.gW ?_)
  refine callWith_K (h₀ := fr.g) O.X LK.kW (spliced_more (nm O F (hl _ (by decide)) mt (spliced_more (wpAny_BinOp (wpAny_Constant_int (nm O F (hl _ (by decide)) md (PyProof.Rows.sub_int (spliced_none ⟨O.X.keeps F.keep, ?_⟩)))))))) rfl rfl
  have hz : ((k : Nat) : Int) - ((e : Nat) : Int) = ((k - e : Nat) : Int) := by omega
  rw [hz]
  refine wpAny_mono (c_lwords (s := { s with toks := s.toks + 1 + 1 }) (n := 0) LK.MK LK.WK LK.hW O F hL hstr hgood hlen h2) (fun v s₁ q => ?_) fun _ _ e => e.elim
  obtain ⟨ω, rfl, W, ht, hC, hR, hD, hk, ho⟩ := q
  refine h ω s₁ W ht hC hR ?_ ?_ hk ⟨ho.1, ho.2.1, ho.2.2⟩ hD
  · cases z : fr.g.get? ω.D with
    | none => rfl
    | some o => cases hD.symm.trans (F.keep _ _ z)
  · rintro q
    obtain ⟨o, _, _, z, _⟩ := F.ns
    rw [← q] at z
    cases hD.symm.trans z

theorem PartAt.ext {h h' : Heap} {P L : Addr} {told : List Str} {e : Nat} {b : Bool} (x : PartAt h S P L told e b) (k : Kept h h') : PartAt h' S P L told e b := by
  obtain ⟨⟨t, nn, h1⟩, ⟨us, nn', h2, h3⟩, h4, h5⟩ := x
  exact ⟨⟨t, nn, k _ _ h1⟩, ⟨us, nn', k _ _ h2, h3⟩, h4, h5⟩

/-- told, deep, is_block = part -/
theorem s_unp {E : Value → Shared → Prop} {Q : Flow → Shared → Prop} {w : Ws} {P L : Addr} {told : List Str} {e : Nat} {b : Bool} (O : FrB B fr n) (F : Fr fr.g fr.L s.heap m) (hl : ∀ x ∈ locL, find x fr.scope.names = some .local)
    (mp : m "part" = some (.ref P)) (pa : PartAt s.heap S P L told e b)
    (h : ∀ h' tk te m', Fr fr.g fr.L h' m' → m' "told" = some (.ref L) → m' "deep" = some (.int (e : Nat) te) → PartAt h' S P L told e b → Q .next { s with heap := h', toks := tk }) :
    wpAny (model B.prog B.w) fr.A (exec (lawU w) fr.env) Q E s := by
  obtain ⟨te, nn, hT⟩ := pa.tup
  refine Assign_Tuple (nm O F (hl _ (by decide)) mp ?_) rfl rfl
  refine assign_Tuple_tuple (items := #[.ref L, .int (e : Nat) te, .bool b]) O.hh ⟨_, hT, rfl, nn, rfl⟩ rfl rfl fun h₁ hx₁ => ?_
  have k₁ : Kept s.heap h₁ := fun b o e => hx₁ b o (Nat.ne_of_lt (Heap.lt_size e)) e
  have F₁ := frExt F k₁
  have pa₁ := pa.ext k₁
  have stp : ∀ {h h' : Heap} {m : Str → Option Value}, Fr fr.g fr.L h m → Heap.SameBut fr.L h h' → PartAt h S P L told e b → PartAt h' S P L told e b := fun F hs x => by
    obtain ⟨oL, _, _, hL, hdL, _⟩ := id F.ns
    exact x.off (fun b o q ne => hs.extBut b o ne q) hL (.inl ⟨_, _, hdL⟩)
  refine assignInOrder_cons (wpAny_assign_Name (stN' O F₁ (hl _ (by decide)) fun h₂ tk₂ F₂ hs₂ => ?_))
  refine assignInOrder_cons (wpAny_assign_Name (stN' O F₂ (hl _ (by decide)) fun h₃ tk₃ F₃ hs₃ => ?_))
  refine assignInOrder_cons (wpAny_assign_Name (stN' O F₃ (hl _ (by decide)) fun h₄ tk₄ F₄ hs₄ => ?_))
  refine assignInOrder_nil (h h₄ tk₄ te _ F₄ ?_ ?_ (stp F₃ hs₄ (stp F₂ hs₃ (stp F₁ hs₂ pa₁))))
  · exact (if_neg (by decide)).trans ((if_neg (by decide)).trans (if_pos rfl))
  · exact (if_neg (by decide)).trans (if_pos rfl)

theorem x_law {w : Ws} {l : Addr} {vs : List Value} {ns : List Int} (LK : LawK B) (O : FrB B fr 300) (XB : B.K.In fr.base) (TB : TopRead B.p B.loose B.mg B.mb fr.base) (F : Fr fr.g fr.L s.heap m)
    (hl : ∀ x ∈ locL, find x fr.scope.names = some .local) (hg : ∀ x ∈ gloL, find x fr.scope.names = some .globalImplicit) (ms : m "script" = some (.ref l)) (hL : fr.g.IsList l vs.toArray) (hi : IntsAre vs ns) :
    wpAny (model B.prog B.w) fr.A (execs (lawT w) fr.env) (fun f s' => f = .ret (.bool true) ∧ fr.base.StaysIn s'.heap ∧ OutAs s s') (fun _ _ => False) s := by
  -- source = _law_pool(script)
  refine wpAny_execs_cons (wpAny_Assign_Name (Call_ (gnm O F (hg _ (by decide)) LK.gP ?_)))
  refine callWith_K (h₀ := fr.g) O.X LK.kP (spliced_more (nm O F (hl _ (by decide)) ms (spliced_none ⟨O.X.keeps F.keep, ?_⟩))) rfl rfl
  obtain ⟨o, ho, hc, ep, hd⟩ := hL
  refine wpAny_mono (c_pool (n := 299) LK.hP O F ⟨o, F.keep _ _ ho, hc, ep, hd⟩ hi) (fun v s₁ q => ?_) fun _ _ e => e.elim
  obtain ⟨S, rfl, hSn, src, hk₁, ho₁⟩ := q
  have F₁ := frExt F hk₁
  obtain ⟨oL₁, _, _, hL₁, hdL₁, _⟩ := id F₁.ns
  have gS : fr.g.get? S = none := by
    cases z : fr.g.get? S with
    | none => rfl
    | some o => cases hSn.symm.trans (F.keep _ _ z)
  have SL : S ≠ fr.L := by
    rintro rfl
    obtain ⟨o, _, _, z, _⟩ := F.ns
    cases hSn.symm.trans z
  refine stN' O F₁ (hl _ (by decide)) fun h₂ tk₂ F₂ hs₂ => ?_
  replace hs₂ : Heap.SameBut fr.L s₁.heap h₂ := hs₂
  have src₂ := src.off (fun b o q ne => hs₂.extBut b o ne q) hL₁ (.inl ⟨_, _, hdL₁⟩)
  -- part = _law_base(source)
  refine wpAny_execs_cons (s_part (S := S) (off := []) (i := 0) (sz := 44) (len := 40) (dm := 11) (O.less (by decide) : FrB B fr 60) F₂ (hl _ (by decide)) (if_pos rfl) gS SL (fun a ha => by (first | exact ff ha | exact nn ha | exact ns ha | exact tf ha | exact ln ha | exact lc ha | cases ha)) rfl (by decide) (by decide) rfl ?_ (fun h₃ tk₃ m₃ A₃ hk₃ => ?_))
  · refine Call_ (gnm O F₂ (hg _ (by decide)) LK.gB ?_)
    refine callWith_K (h₀ := fr.g) O.X LK.kB (spliced_more (nm O F₂ (hl _ (by decide)) (if_pos rfl) (spliced_none ⟨O.X.keeps F₂.keep, ?_⟩))) rfl rfl
    exact wpAny_mono (c_base (n := 0) LK.MK LK.H LK.TB LK.bRun LK.bAll (O.less (by decide)) F₂ gS SL src₂) (fun _ _ q => q) fun _ _ e => e.elim
  -- the turns
  refine wpAny_execs_cons (x_turns LK (O.less (by decide)) A₃ gS SL hl hg fun N s₄ m₄ hN A₄ ho₄ => ?_)
  obtain ⟨P, L, told, e, bl, mp, pa, po, hlen, hdm, gL, LL⟩ := A₄.part
  have F₄ := A₄.F
  -- told, deep, is_block = part
  refine wpAny_execs_cons (s_unp O F₄ hl mp pa fun h₅ tk₅ te m₅ F₅ mt md pa₅ => ?_)
  obtain ⟨us, nn, hLs, hstr⟩ := pa₅.lst
  have he := po.deep
  have he1 : 1 ≤ e := by have : 1 ≤ least bl := by (first | exact ff bl | exact nn bl | exact ns bl | exact tf bl | exact ln bl | exact lc bl | cases bl) <;> decide
                         omega
  have hRB : ReadsBy B B.fExpr true (wordsOf told) e (44 + 40 * N) := po.read.ex (by
    obtain ⟨_, _, x, r, hx, _⟩ := po.start
    rw [hx]
    intro z
    (first | exact ff z | exact nn z | exact ns z | exact tf z | exact ln z | exact lc z | cases z))
  -- here = _law_words(told, 60 - deep)
  refine wpAny_execs_cons (wpAny_Assign_Name (x_lw LK (O.less (by decide)) F₅ hl hg mt md hLs hstr pa₅.good (by omega) (by omega) (by omega) fun ω s₆ W₆ ht hC hR gD DL hk₆ ho₆ hDn => ?_) rfl)
  have F₆ := frExt F₅ hk₆
  obtain ⟨oL₆, _, _, hL₆, hdL₆, _⟩ := id F₆.ns
  have pa₆ := pa₅.ext hk₆
  refine stN' O F₆ (hl _ (by decide)) fun h₇ tk₇ F₇ hs₇ => ?_
  replace hs₇ : Heap.SameBut fr.L s₆.heap h₇ := hs₇
  have W₇ : WordsAt ω h₇ 0 (60 - e) := W₆.off (fun b o q ne => hs₇.extBut b o ne q) hL₆ (.inl ⟨_, _, hdL₆⟩) DL
  have pa₇ := pa₆.off (fun b o q ne => hs₇.extBut b o ne q) hL₆ (.inl ⟨_, _, hdL₆⟩)
  have mw : (fun z => if z = Str.ofString "here" then some (Value.ref ω.W) else m₅ z) "here" = some (.ref ω.W) := if_pos rfl
  have mt' : (fun z => if z = Str.ofString "here" then some (Value.ref ω.W) else m₅ z) "told" = some (.ref L) := (if_neg (by decide)).trans mt
  have md' : (fun z => if z = Str.ofString "here" then some (Value.ref ω.W) else m₅ z) "deep" = some (.int (e : Nat) te) := (if_neg (by decide)).trans md
  -- the test
  refine wpAny_execs_cons (wpAny_If (isTrue_or (isTrue_not (isTrue_plain (Call_ (gnm O F₇ (hg _ (by decide)) LK.gI ?_))))))
  refine callWith_K (h₀ := fr.g) O.X LK.kI (spliced_more (nm O F₇ (hl _ (by decide)) mw (spliced_none ⟨O.X.keeps F₇.keep, ?_⟩))) rfl rfl
  refine wpAny_mono (c_isread LK.MK LK.RK XB TB LK.hI hRB (O.less (by omega)) F₇ gD DL hR hC W₇ ht (by omega)) (fun v s₈ q => ?_) fun _ _ e => e.elim
  rcases q with ⟨_, rfl, hk₈, W₈, ho₈⟩ | ⟨hbad, _⟩
  · refine wpAny_truthy_bool ?_
    simp only [Bool.not_true, Bool.false_eq_true, if_false]
    have F₈ := frBut F₇ (fun b o ne q => hk₈ b o q ne) gD DL
    refine isTrue_or (wpAny_isTrue_Compare1 (rd_deep LK.MK.CK O F₈ hC W₈ (hl _ (by decide)) mw fun t => wpAny_BinOp (wpAny_Constant_int (nm O F₈ (hl _ (by decide)) md' (PyProof.Rows.sub_int (PyProof.Rows.ne_int (wpAny_truthy_bool ?_)))))) rfl)
    have hz : (((60 - e : Nat) : Int) != ((60 : Nat) : Int) - ((e : Nat) : Int)) = false := by
      have : ((60 - e : Nat) : Int) = ((60 : Nat) : Int) - ((e : Nat) : Int) := by omega
      rw [this]; simp
    rw [hz]
    simp only [Bool.false_eq_true, if_false]
    refine isTrue_or_nil ?_
    simp only [Bool.false_eq_true, if_false]
    refine wpAny_execs_nil ?_
    -- the last
    have hLs₈ : s₈.heap.get? L = some (listObj us nn) := by
      have hne : L ≠ ω.D := by
        rintro rfl
        cases hDn.symm.trans hLs
      exact hk₈ _ _ (hs₇.extBut _ _ LL (hk₆ _ _ hLs)) hne
    refine wpAny_execs_cons (wpAny_Return_some (UnaryOp_ (Call_ (gnm O F₈ (hg _ (by decide)) LK.gI ?_))))
    refine callWith_K (h₀ := fr.g) O.X LK.kI ?_ rfl rfl
    refine spliced_more (x_lw LK (O.less (by decide)) F₈ hl hg mt' md' hLs₈ hstr pa₅.good (by omega) (by omega) (by omega) fun ω' s₉ W₉ ht' hC' hR' gD' DL' hk₉ ho₉ _ => ?_)
    have F₉ := frExt F₈ hk₉
    refine spliced_none ⟨O.X.keeps F₉.keep, ?_⟩
    refine wpAny_mono (c_isread LK.MK LK.RK XB TB LK.hI hRB (O.less (by omega)) F₉ gD' DL' hR' hC' W₉ ht' (by omega)) (fun v s₁₀ q => ?_) fun _ _ e => e.elim
    rcases q with ⟨hbad, _⟩ | ⟨_, rfl, hb₁₀, ho₁₀⟩
    · omega
    · refine PyProof.Rows.not_of (wpAny_truthy_bool ⟨rfl, hb₁₀, ?_⟩)
      exact ho₁.trans (OutAs.trans ⟨rfl, rfl, rfl⟩ (ho₄.trans (OutAs.trans ⟨rfl, rfl, rfl⟩ (ho₆.trans (OutAs.trans ⟨rfl, rfl, rfl⟩ (ho₈.trans (OutAs.trans ⟨rfl, rfl, rfl⟩ (ho₉.trans ho₁₀))))))))
  · omega
end
end
end Mine

namespace Mine
noncomputable section
noncomputable def bsAt (prog : Program) (w : World) (p : Program) (loose : List Str) (mg mb : Str → Option Value) (K : Frag) : Bs :=
  ⟨prog, w, p, loose, mg, mb, K, refOf K "Words", refOf K "read_expr", refOf K "read_block_like", refOf K "_law_take", refOf K "GrammarFault"⟩
/-- no level of the caller's stands in the way -/
theorem law_end {prog : Program} {w : World} {p : Program} {loose : List Str} {mg mb : Str → Option Value} {K : Frag} {s₁ : Shared} {name : Str} {scope : Scope} {L fa l : Addr} {cd : Value} {body : List Stmt} {vs : List Value} {ns : List Int} {m : Str → Option Value} {h₁ : Heap} {tk : Nat}
    {Q : Flow → Shared → Prop} {E : Value → Shared → Prop} (LK : LawK (bsAt prog w p loose mg mb K)) (KX : K.In s₁.heap) (T : TopRead p loose mg mb s₁.heap) (K0 : Below callerA s₁.heap [] s₁.heap) (F : Fr s₁.heap L h₁ m) (hgens : s₁.gens = #[])
    (hL : s₁.heap.IsList l vs.toArray) (hi : IntsAre vs ns) (hlaw : body = lawT (wB body)) (hk : scope.kind = .function) (hdbg : find (Str.ofString "__debug__") scope.names = none) (hl : ∀ x ∈ locL, find x scope.names = some .local) (hg : ∀ x ∈ gloL, find x scope.names = some .globalImplicit)
    (ms : m "script" = some (.ref l)) (good : ∀ s', (∀ b o, s₁.heap.get? b = some o → s'.heap.get? b = some o) → s'.os = s₁.os → s'.gens = #[] → Q (.ret (.bool true)) s') :
    wpAny (model prog w) (callerA.deeper (envOf name scope L fa cd)) (execs body (envOf name scope L fa cd)) Q E { heap := h₁, gens := s₁.gens, drawn := s₁.drawn, toks := tk, os := s₁.os } := by
  have O : FrB (bsAt prog w p loose mg mb K) ⟨callerA, s₁.heap, s₁.heap, [], L, fa, name, scope, cd⟩ 300 := by
    refine ⟨K0, KX, T, hk, rfl, hdbg, ?_, ?_⟩
    · show 1 + claimMargin + 300 + 20 ≤ recursionLimit
      decide
    · show 4 + 10 * (300 + 20) ≤ cLine
      decide
  rw [hlaw]
  refine wpAny_mono (x_law (s := { heap := h₁, gens := s₁.gens, drawn := s₁.drawn, toks := tk, os := s₁.os }) LK O KX T F hl hg ms hL hi) (fun f s' q => ?_) fun _ _ e => e.elim
  obtain ⟨rfl, hb, o1, o2, o3⟩ := q
  exact good s' hb o3 (o1.trans hgens)
end
end Mine

namespace Mine
noncomputable section
theorem all2_app {α : Type} {p : α → Bool} : ∀ {l r : List α}, all2 p l = true → all2 p r = true → all2 p (l ++ r) = true
  | [], _, _, h => h
  | x :: l, r, h, h' => by
    unfold all2 at h
    show all2 p (x :: (l ++ r)) = true
    unfold all2
    split at h
    · exact all2_app h h'
    · (first | exact ff h | exact nn h | exact ns h | exact tf h | exact ln h | exact lc h | cases h)
noncomputable def calls (K : Frag) (x : Str) : Bool := refIs K x && keepIn K (.ref (refOf K x))
theorem calls_is {K : Frag} {x : Str} (h : calls K x = true) : nsIn K mainGlobals x = some (some (.ref (refOf K x))) ∧ keepIn K (.ref (refOf K x)) = true := by
  unfold calls at h
  simp only [Bool.and_eq_true] at h
  exact ⟨refIs_is h.1, h.2⟩
/-- what the kernel is asked of the text, but for the runs -/
structure Looks1 (K : Frag) (P : Params) : Prop where
  k1 : clsOk K (refOf K "Words") = true
  ke : faultE K (refOf K "GrammarFault")
  kb : faultB K (refOf K "GrammarFault") = true
  me : methsE K (refOf K "Words")
  mb : methsB K (refOf K "Words") = true
  k4 : (refIs K "GrammarFault" && (keepIn K (.ref (refOf K "GrammarFault")) && (mdOk K && levOk K))) = true
  k5 : (levEs K).map (·.hash) = (levEs K).map (keyH P)
  k6 : (twoOk K (refOf K "read_expr") && (!Nat.beq (refOf K "read_expr") (refOf K "_law_take") && TB K (refOf K "_law_take") ["source", "top"] takeLS)) = true
  e6 : TE K (refOf K "_law_take") ["source", "top"] takeLT
  k7 : TB K (refOf K "_law_pool") ["script"] (poolS K) = true
  e7 : TE K (refOf K "_law_pool") ["script"] poolT
  k8 : (makesIn K (refOf K "Words") && (hasM K (refOf K "Words") "__init__" && (refIs K "Words" && (keepIn K (.ref (refOf K "Words")) && (TB K (mAddr K (refOf K "Words") "__init__") ["self", "rows"] (initS K) && isTakerNone K (refOf K "Words") "rows"))))) = true
  e8 : TE K (mAddr K (refOf K "Words") "__init__") ["self", "rows"] initT
  k10 : (calls K "read_expr" && (calls K "_law_pool" && (calls K "_law_base" && (calls K "_law_form" && (calls K "_law_take" && (calls K "_law_words" && (calls K "_law_is_read" && noneK K "range"))))))) = true
  k11 : TB K (refOf K "_law_words") ["told", "many"] (lwS K) = true
  e11 : TE K (refOf K "_law_words") ["told", "many"] lwT
  k12 : TB K (refOf K "_law_is_read") ["here"] isReadS = true
  e12 : TE K (refOf K "_law_is_read") ["here"] isReadT
/-- the runs -/
structure Runs (K : Frag) : Prop where
  b0 : baseRun K = true
  b1 : baseAll K [([sg "a"], 1, false)] = true
  b2 : baseAll K ([0, 1, 2, 3, 4].map castB) = true
  b3 : baseAll K ([5, 6, 7, 8].map castB) = true
  b4 : baseAll K ([0, 1, 2, 3, 4].map matchB) = true
  b5 : baseAll K ([5, 6, 7, 8].map matchB) = true
  rf : formsRun K false = true
  rt : formsRun K true = true
  pf : fineAll K false formsP = true
  qf : fineAll K false formsQ = true
  sf : fineAll K false (formsR 2) = true
  tf : fineAll K false formsS = true
  uf : fineAll K false formsT = true
  pt : fineAll K true formsP = true
  qt : fineAll K true formsQ = true
  st : fineAll K true (formsR 1) = true
  tt : fineAll K true formsS = true
  ut : fineAll K true formsT = true
theorem lawK_of (prog : Program) (w : World) (p : Program) (loose : List Str) (mg mb : Str → Option Value) {K : Frag} (k : Looks1 K w.params) (r : Runs K) : LawK (bsAt prog w p loose mg mb K) := by
  obtain ⟨k1, ke, kb, me, mb, k4, k5, k6, e6, k7, e7, k8, e8, k10, k11, e11, k12, e12⟩ := k
  obtain ⟨a1, k4⟩ := and_b k4
  obtain ⟨a2, k4⟩ := and_b k4
  obtain ⟨a3, a4⟩ := and_b k4
  obtain ⟨b1, k6⟩ := and_b k6
  obtain ⟨b2, b3⟩ := and_b k6
  have b2 : Nat.beq (refOf K "read_expr") (refOf K "_law_take") = false := by
    revert b2
    cases Nat.beq (refOf K "read_expr") (refOf K "_law_take") with
    | true => intro h; exact Bool.noConfusion h
    | false => intro _; rfl
  obtain ⟨c1, k8⟩ := and_b k8
  obtain ⟨c2, k8⟩ := and_b k8
  obtain ⟨c3, k8⟩ := and_b k8
  obtain ⟨c4, k8⟩ := and_b k8
  obtain ⟨c5, c6⟩ := and_b k8
  obtain ⟨d1, k10⟩ := and_b k10
  obtain ⟨d2, k10⟩ := and_b k10
  obtain ⟨d3, k10⟩ := and_b k10
  obtain ⟨d4, k10⟩ := and_b k10
  obtain ⟨d5, k10⟩ := and_b k10
  obtain ⟨d6, k10⟩ := and_b k10
  obtain ⟨d7, d8⟩ := and_b k10
  have d1 := calls_is d1
  have d2 := calls_is d2
  have d3 := calls_is d3
  have d4 := calls_is d4
  have d5 := calls_is d5
  have d6 := calls_is d6
  have d7 := calls_is d7
  refine ⟨methK_of rfl k1 ke kb me mb a1 a2 a3 a4 k5, bsOk_of rfl rfl rfl rfl b1 b2, takesBy (by decide) (txt_of e6 b3),
    ⟨isTakerNone_is c6, c1, c2, txt_of e8 c5, refIs_is c3, c4⟩, ⟨d1.1, d1.2⟩, r.b0, ?_, fun b => ?_, fun b => ?_, d2.1, d2.2, txt_of e7 k7, d3.1, d3.2, d4.1, d4.2, d5.1, d5.2, d6.1, d6.2, txt_of e11 k11, d7.1, d7.2, txt_of e12 k12, noneK_is d8⟩
  · exact all2_app (l := [([sg "a"], 1, false)]) (r := [0, 1, 2, 3, 4].map castB ++ ([5, 6, 7, 8].map castB ++ ([0, 1, 2, 3, 4].map matchB ++ [5, 6, 7, 8].map matchB))) r.b1 (all2_app r.b2 (all2_app r.b3 (all2_app r.b4 r.b5)))
  · cases b with
    | true => exact r.rt
    | false => exact r.rf
  · cases b with
    | true => exact all2_app (all2_app (all2_app (all2_app r.pt r.qt) r.st) r.tt) r.ut
    | false => exact all2_app (all2_app (all2_app (all2_app r.pf r.qf) r.sf) r.tf) r.uf
end
end Mine

end

namespace Mine
/-- a word that the kit's own tactic knows how to close by the kernel alone -/
noncomputable def seen (_ : Option (Option Value)) (b : Bool) : Bool := b
theorem seen_is {b : Bool} (h : seen (getL "x" []) b = true) : b = true := h
end Mine

/-! Names that the walk's head would fill with faster twins of the text's own defs: taken, so that the head does without them. -/
noncomputable def Mine.whole.tw2412972146837434115 : Unit := ()
noncomputable def Mine.whole.tw12598572606399187110 : Unit := ()
noncomputable def Mine.whole.tw11459245631466036986 : Unit := ()
noncomputable def Mine.whole.tw427333557424167660 : Unit := ()
noncomputable def Mine.whole.tw3695828576129263994 : Unit := ()
noncomputable def Mine.whole.tw4934077235998201596 : Unit := ()
noncomputable def Mine.whole.tw4445204285082115520 : Unit := ()
noncomputable def Mine.whole.tw3733203681221829434 : Unit := ()
noncomputable def Mine.whole.tw16217764572334277756 : Unit := ()
noncomputable def Mine.whole.tw16505068655815891843 : Unit := ()
noncomputable def Mine.whole.tw5515949286892933951 : Unit := ()
noncomputable def Mine.whole.tw6711224856247384401 : Unit := ()
noncomputable def Mine.whole.tw2469003464257525574 : Unit := ()
noncomputable def Mine.whole.tw2302033354624455591 : Unit := ()
noncomputable def Mine.whole.tw420889256603489644 : Unit := ()
noncomputable def Mine.whole.tw3909395182359919685 : Unit := ()
noncomputable def Mine.whole.tw16710806586956947785 : Unit := ()
noncomputable def Mine.whole.tw803728761352460389 : Unit := ()
noncomputable def Mine.whole.tw6553984163096543158 : Unit := ()
noncomputable def Mine.whole.tw11423436602419212718 : Unit := ()
noncomputable def Mine.whole.tw15761127226676153883 : Unit := ()
noncomputable def Mine.whole.tw4346055641746905949 : Unit := ()
noncomputable def Mine.whole.tw10840090224303567227 : Unit := ()
noncomputable def Mine.whole.tw10301362462094837657 : Unit := ()
noncomputable def Mine.whole.tw5938623499991607928 : Unit := ()
noncomputable def Mine.whole.tw7689902935678670512 : Unit := ()
noncomputable def Mine.whole.tw13829708278779851847 : Unit := ()
noncomputable def Mine.whole.tw843396670912023852 : Unit := ()
noncomputable def Mine.whole.tw1692622564874605650 : Unit := ()
noncomputable def Mine.whole.tw8602141644225615130 : Unit := ()
noncomputable def Mine.whole.tw7280849871689594849 : Unit := ()
noncomputable def Mine.whole.tw4479364801722962140 : Unit := ()
noncomputable def Mine.whole.tw11395692770084462984 : Unit := ()
noncomputable def Mine.whole.tw17980908128825299112 : Unit := ()
noncomputable def Mine.whole.tw2665807779830099079 : Unit := ()
noncomputable def Mine.whole.tw14654356449610600485 : Unit := ()
noncomputable def Mine.whole.tw12111672374848980225 : Unit := ()
noncomputable def Mine.whole.tw14671651394210877623 : Unit := ()
noncomputable def Mine.whole.tw14381574177426341226 : Unit := ()
noncomputable def Mine.whole.tw18135788421098096370 : Unit := ()
noncomputable def Mine.whole.tw1350920760672359567 : Unit := ()
noncomputable def Mine.whole.tw5297632933804744799 : Unit := ()
noncomputable def Mine.whole.tw12928932934922122878 : Unit := ()
noncomputable def Mine.whole.tw14877643965249282964 : Unit := ()
noncomputable def Mine.whole.tw11316320225543275868 : Unit := ()
noncomputable def Mine.whole.tw5682345275169407818 : Unit := ()
noncomputable def Mine.whole.tw1640677438868554593 : Unit := ()
noncomputable def Mine.whole.tw13447532951914335906 : Unit := ()
noncomputable def Mine.whole.tw3125283655325999989 : Unit := ()
noncomputable def Mine.whole.tw13823951767099335047 : Unit := ()
noncomputable def Mine.whole.tw2380868127642377217 : Unit := ()
noncomputable def Mine.whole.tw5277582801102665213 : Unit := ()
noncomputable def Mine.whole.tw5078443471013023264 : Unit := ()
noncomputable def Mine.whole.tw6197072374619056700 : Unit := ()
noncomputable def Mine.whole.tw14390007995909808975 : Unit := ()
noncomputable def Mine.whole.tw6067178945074143734 : Unit := ()
noncomputable def Mine.whole.tw13045181716907704641 : Unit := ()
noncomputable def Mine.whole.tw431044224361937856 : Unit := ()
noncomputable def Mine.whole.tw2580061231857448207 : Unit := ()
noncomputable def Mine.whole.tw7466904020207815869 : Unit := ()
noncomputable def Mine.whole.tw17175008800681467811 : Unit := ()
noncomputable def Mine.whole.tw7728773200315073681 : Unit := ()
noncomputable def Mine.whole.tw12484011378766964031 : Unit := ()
noncomputable def Mine.whole.tw9775085227918541326 : Unit := ()
noncomputable def Mine.whole.tw18056553881098321084 : Unit := ()
noncomputable def Mine.whole.tw7977878525754885090 : Unit := ()
noncomputable def Mine.whole.tw3280129329062278201 : Unit := ()
noncomputable def Mine.whole.tw8350250358471643572 : Unit := ()
noncomputable def Mine.whole.tw7564407027854533171 : Unit := ()
noncomputable def Mine.whole.tw9170513070990267023 : Unit := ()
noncomputable def Mine.whole.tw17295703372945214271 : Unit := ()
noncomputable def Mine.whole.tw1242133270297695508 : Unit := ()
noncomputable def Mine.whole.tw29202618045891971 : Unit := ()
noncomputable def Mine.whole.tw10438997657263567297 : Unit := ()
noncomputable def Mine.whole.tw1114806542021703131 : Unit := ()
noncomputable def Mine.whole.tw3099485228618234346 : Unit := ()
noncomputable def Mine.whole.tw627836218701940097 : Unit := ()
noncomputable def Mine.whole.tw13018183266405097566 : Unit := ()
noncomputable def Mine.whole.tw675793542917168019 : Unit := ()
noncomputable def Mine.whole.tw18324492136986001645 : Unit := ()
noncomputable def Mine.whole.tw5462770333876777704 : Unit := ()
noncomputable def Mine.whole.tw6915089677183239634 : Unit := ()
noncomputable def Mine.whole.tw3166543957339863982 : Unit := ()
noncomputable def Mine.whole.tw5942346508108547180 : Unit := ()
noncomputable def Mine.whole.tw16026843855606243410 : Unit := ()
noncomputable def Mine.whole.tw2249504304506360813 : Unit := ()
noncomputable def Mine.whole.tw3162365515331879682 : Unit := ()
noncomputable def Mine.whole.tw16151222146762293071 : Unit := ()
noncomputable def Mine.whole.tw6891315699540082446 : Unit := ()
noncomputable def Mine.whole.tw6095937858554715304 : Unit := ()
noncomputable def Mine.whole.tw14493418047887008292 : Unit := ()
noncomputable def Mine.whole.tw8454442166302862320 : Unit := ()
noncomputable def Mine.whole.tw12473419985498694175 : Unit := ()
noncomputable def Mine.whole.tw9787344453429475573 : Unit := ()
noncomputable def Mine.whole.tw12620984872611610876 : Unit := ()
noncomputable def Mine.whole.tw17529894129228449367 : Unit := ()
noncomputable def Mine.whole.tw1897105925431849711 : Unit := ()
noncomputable def Mine.whole.tw3270133029678145397 : Unit := ()
noncomputable def Mine.whole.tw46433443316919834 : Unit := ()
noncomputable def Mine.whole.tw17169624498616045403 : Unit := ()
noncomputable def Mine.whole.tw4918820536221260690 : Unit := ()
noncomputable def Mine.whole.tw7272630687466863884 : Unit := ()
noncomputable def Mine.whole.tw10000958634945066235 : Unit := ()
noncomputable def Mine.whole.tw949743934663060849 : Unit := ()
noncomputable def Mine.whole.tw9654072969724333583 : Unit := ()
noncomputable def Mine.whole.tw15938984323282852288 : Unit := ()
noncomputable def Mine.whole.tw15001587830400145190 : Unit := ()
noncomputable def Mine.whole.tw3345510996311645767 : Unit := ()
noncomputable def Mine.whole.tw6472696656209681604 : Unit := ()
noncomputable def Mine.whole.tw2013318861076662011 : Unit := ()
noncomputable def Mine.whole.tw11476502588441444683 : Unit := ()
noncomputable def Mine.whole.tw6872907005359335961 : Unit := ()
noncomputable def Mine.whole.tw8884531897199943920 : Unit := ()
noncomputable def Mine.whole.tw9994479494313819776 : Unit := ()
noncomputable def Mine.whole.tw1047630922221454212 : Unit := ()
noncomputable def Mine.whole.tw9951143050096045611 : Unit := ()
noncomputable def Mine.whole.tw8983667203327932493 : Unit := ()
noncomputable def Mine.whole.tw15680802009173567957 : Unit := ()
noncomputable def Mine.whole.tw8719548228035378133 : Unit := ()
noncomputable def Mine.whole.tw203428145850139289 : Unit := ()
noncomputable def Mine.whole.tw13149474316023798553 : Unit := ()
noncomputable def Mine.whole.tw7187317218736086229 : Unit := ()
noncomputable def Mine.whole.tw2733790213765534055 : Unit := ()
noncomputable def Mine.whole.tw6774775609766916077 : Unit := ()
noncomputable def Mine.whole.tw9046693723037758376 : Unit := ()
noncomputable def Mine.whole.tw1058133836064258550 : Unit := ()
noncomputable def Mine.whole.tw4909349585908861296 : Unit := ()
noncomputable def Mine.whole.tw1329479340354266572 : Unit := ()
noncomputable def Mine.whole.tw1353902047762577225 : Unit := ()
noncomputable def Mine.whole.tw18419535431094276187 : Unit := ()
noncomputable def Mine.whole.tw4689585835679557668 : Unit := ()
noncomputable def Mine.whole.tw13664935262549406174 : Unit := ()
noncomputable def Mine.whole.tw9189751539129569556 : Unit := ()
noncomputable def Mine.whole.tw5171116725156735389 : Unit := ()
noncomputable def Mine.whole.tw2028823117376367632 : Unit := ()
noncomputable def Mine.whole.tw7073311072910153293 : Unit := ()
noncomputable def Mine.whole.tw2081632904089052959 : Unit := ()
noncomputable def Mine.whole.tw12742087137024979937 : Unit := ()
noncomputable def Mine.whole.tw3028004478679740547 : Unit := ()
noncomputable def Mine.whole.tw18162983195158539490 : Unit := ()
noncomputable def Mine.whole.tw13000713063990318526 : Unit := ()
noncomputable def Mine.whole.tw14628220171574447489 : Unit := ()
noncomputable def Mine.whole.tw6356627984389668255 : Unit := ()
noncomputable def Mine.whole.tw8572516506043022915 : Unit := ()
noncomputable def Mine.whole.tw2362521522948952975 : Unit := ()
noncomputable def Mine.whole.tw13478315594510353802 : Unit := ()
noncomputable def Mine.whole.tw9242471422690250210 : Unit := ()
noncomputable def Mine.whole.tw4234479992401935053 : Unit := ()
noncomputable def Mine.whole.tw10795012362202508061 : Unit := ()
noncomputable def Mine.whole.tw14852934547574820571 : Unit := ()
noncomputable def Mine.whole.tw17395194986337826024 : Unit := ()
noncomputable def Mine.whole.tw16588625043399567139 : Unit := ()
noncomputable def Mine.whole.tw5081031077709457048 : Unit := ()
noncomputable def Mine.whole.tw1765076044715932963 : Unit := ()
noncomputable def Mine.whole.tw11690859581915506653 : Unit := ()
noncomputable def Mine.whole.tw2198523743367551842 : Unit := ()
noncomputable def Mine.whole.tw3802398583823018356 : Unit := ()
noncomputable def Mine.whole.tw17768757769460313278 : Unit := ()
noncomputable def Mine.whole.tw10153838690179905649 : Unit := ()
noncomputable def Mine.whole.tw11384259339768038936 : Unit := ()
noncomputable def Mine.whole.tw3935972832432928633 : Unit := ()
noncomputable def Mine.whole.tw2151346155558304222 : Unit := ()
noncomputable def Mine.whole.tw17843127513448600897 : Unit := ()
noncomputable def Mine.whole.tw4221266100470226451 : Unit := ()
noncomputable def Mine.whole.tw7759449409670377046 : Unit := ()
noncomputable def Mine.whole.tw15338273372565686330 : Unit := ()
noncomputable def Mine.whole.tw1219099391390118749 : Unit := ()
noncomputable def Mine.whole.tw17991299263585117788 : Unit := ()
noncomputable def Mine.whole.tw8351164730277109312 : Unit := ()
noncomputable def Mine.whole.tw5433660331597885046 : Unit := ()
noncomputable def Mine.whole.tw17179786008130999086 : Unit := ()
noncomputable def Mine.whole.tw10887019763833697050 : Unit := ()
noncomputable def Mine.whole.tw4107823604484434990 : Unit := ()
noncomputable def Mine.whole.tw7452821578398259720 : Unit := ()
noncomputable def Mine.whole.tw9722750020625992282 : Unit := ()
noncomputable def Mine.whole.tw4447922135398794285 : Unit := ()
noncomputable def Mine.whole.tw13962616709173656972 : Unit := ()
noncomputable def Mine.whole.tw7248877203947682478 : Unit := ()
noncomputable def Mine.whole.tw15401142651479110994 : Unit := ()
noncomputable def Mine.whole.tw14756447051001558117 : Unit := ()
noncomputable def Mine.whole.tw12533766582447490111 : Unit := ()
noncomputable def Mine.whole.tw5542149417468696053 : Unit := ()
noncomputable def Mine.whole.tw6933715213461094250 : Unit := ()
noncomputable def Mine.whole.tw9841425051670495895 : Unit := ()
noncomputable def Mine.whole.tw10879388597655286671 : Unit := ()
noncomputable def Mine.whole.tw13142167418276237254 : Unit := ()
noncomputable def Mine.whole.tw11189214451712994736 : Unit := ()
noncomputable def Mine.whole.tw3724477965614018403 : Unit := ()
noncomputable def Mine.whole.tw9625973628771424018 : Unit := ()
noncomputable def Mine.whole.tw4672207989499910625 : Unit := ()
noncomputable def Mine.whole.tw17641713804859348092 : Unit := ()
noncomputable def Mine.whole.tw16442795661328238356 : Unit := ()
noncomputable def Mine.whole.tw4180466227808675834 : Unit := ()
noncomputable def Mine.whole.tw2777902329107566167 : Unit := ()
noncomputable def Mine.whole.tw356215775963413058 : Unit := ()
noncomputable def Mine.whole.tw12077107353733055826 : Unit := ()
noncomputable def Mine.whole.tw1077347074188364252 : Unit := ()
noncomputable def Mine.whole.tw12063277863729348616 : Unit := ()
noncomputable def Mine.whole.tw12186894253409539890 : Unit := ()
noncomputable def Mine.whole.tw15206955865107345967 : Unit := ()
noncomputable def Mine.whole.tw17583434110615651305 : Unit := ()
noncomputable def Mine.whole.tw11841974853317911985 : Unit := ()
noncomputable def Mine.whole.tw15819564801051643881 : Unit := ()
noncomputable def Mine.whole.tw8101450032967502455 : Unit := ()
noncomputable def Mine.whole.tw6714927969197098277 : Unit := ()
noncomputable def Mine.whole.tw3099174332690161747 : Unit := ()
noncomputable def Mine.whole.tw11876454138822706389 : Unit := ()
noncomputable def Mine.whole.tw5833760311655045577 : Unit := ()
noncomputable def Mine.whole.tw10354518954362131899 : Unit := ()
noncomputable def Mine.whole.tw10019450917411332427 : Unit := ()
noncomputable def Mine.whole.tw14776171463994254414 : Unit := ()
noncomputable def Mine.whole.tw5790326999694950120 : Unit := ()
noncomputable def Mine.whole.tw6065093676875020208 : Unit := ()
noncomputable def Mine.whole.tw8699793337390238261 : Unit := ()
noncomputable def Mine.whole.tw10805158454514937742 : Unit := ()
noncomputable def Mine.whole.tw2649048575011448004 : Unit := ()
noncomputable def Mine.whole.tw12920395458479335663 : Unit := ()
noncomputable def Mine.whole.tw7576292583959916747 : Unit := ()
noncomputable def Mine.whole.tw13960669724093699300 : Unit := ()
noncomputable def Mine.whole.tw10344827342348678470 : Unit := ()
noncomputable def Mine.whole.tw5137022389394785357 : Unit := ()
noncomputable def Mine.whole.tw10339747121181971505 : Unit := ()
noncomputable def Mine.whole.tw17022761755405916213 : Unit := ()
noncomputable def Mine.whole.tw43722865635132848 : Unit := ()
noncomputable def Mine.whole.tw8309436690622926411 : Unit := ()
noncomputable def Mine.whole.tw16420027573970446040 : Unit := ()
noncomputable def Mine.whole.tw2972370707554056284 : Unit := ()
noncomputable def Mine.whole.tw254780913952180833 : Unit := ()
noncomputable def Mine.whole.tw1421954295140244962 : Unit := ()
noncomputable def Mine.whole.tw11409993775148365219 : Unit := ()
noncomputable def Mine.whole.tw4338333698743118245 : Unit := ()
noncomputable def Mine.whole.tw10488504414272976643 : Unit := ()
noncomputable def Mine.whole.tw14192229110069238088 : Unit := ()
noncomputable def Mine.whole.tw10007520593648235073 : Unit := ()
noncomputable def Mine.whole.tw4357746044423742650 : Unit := ()
noncomputable def Mine.whole.tw13730376311393935369 : Unit := ()
noncomputable def Mine.whole.tw15105012252411618398 : Unit := ()
noncomputable def Mine.whole.tw1318554304652621475 : Unit := ()
noncomputable def Mine.whole.tw9142887217227649140 : Unit := ()
noncomputable def Mine.whole.tw14138553856905868755 : Unit := ()
noncomputable def Mine.whole.tw15652777202477211125 : Unit := ()
noncomputable def Mine.whole.tw2083198920140632441 : Unit := ()
noncomputable def Mine.whole.tw10749463760870054271 : Unit := ()
noncomputable def Mine.whole.tw9212966250080664162 : Unit := ()
noncomputable def Mine.whole.tw668774492082921180 : Unit := ()
noncomputable def Mine.whole.tw3467671131507365174 : Unit := ()
noncomputable def Mine.whole.tw6896427876366098391 : Unit := ()
noncomputable def Mine.whole.tw2168223474955763204 : Unit := ()
noncomputable def Mine.whole.tw2021854409746315462 : Unit := ()
noncomputable def Mine.whole.tw5460680643579594377 : Unit := ()
noncomputable def Mine.whole.tw13749801708979339770 : Unit := ()
noncomputable def Mine.whole.tw6330797023819526829 : Unit := ()
noncomputable def Mine.whole.tw5001923725869043736 : Unit := ()
noncomputable def Mine.whole.tw16845944245580146995 : Unit := ()
noncomputable def Mine.whole.tw2896436902973227457 : Unit := ()
noncomputable def Mine.whole.tw17659150536888882668 : Unit := ()
noncomputable def Mine.whole.tw16398205279857054297 : Unit := ()
noncomputable def Mine.whole.tw4347982837100205910 : Unit := ()
noncomputable def Mine.whole.tw15013576625721048695 : Unit := ()
noncomputable def Mine.whole.tw9024608533772062355 : Unit := ()
noncomputable def Mine.whole.tw14407849266092530191 : Unit := ()
noncomputable def Mine.whole.tw13285438998962464343 : Unit := ()
noncomputable def Mine.whole.tw14173393766343599159 : Unit := ()
noncomputable def Mine.whole.tw5349422690488739272 : Unit := ()
noncomputable def Mine.whole.tw7525632177321363660 : Unit := ()
noncomputable def Mine.whole.tw18354614867481654581 : Unit := ()
noncomputable def Mine.whole.tw397210227534267232 : Unit := ()
noncomputable def Mine.whole.tw2349701861695252166 : Unit := ()
noncomputable def Mine.whole.tw5477020428343274486 : Unit := ()
noncomputable def Mine.whole.tw8789054386453842027 : Unit := ()
noncomputable def Mine.whole.tw3384858237140249800 : Unit := ()
noncomputable def Mine.whole.tw15462414832971340256 : Unit := ()
noncomputable def Mine.whole.tw17092094596097150618 : Unit := ()
noncomputable def Mine.whole.tw12384220206497402333 : Unit := ()
noncomputable def Mine.whole.tw8578099982193558012 : Unit := ()
noncomputable def Mine.whole.tw7645621925510333512 : Unit := ()
noncomputable def Mine.whole.tw9235561108164731721 : Unit := ()
noncomputable def Mine.whole.tw15274856360797078626 : Unit := ()
noncomputable def Mine.whole.tw13974613887430780637 : Unit := ()
noncomputable def Mine.whole.tw16668768811381343612 : Unit := ()
noncomputable def Mine.whole.tw12101772971524344381 : Unit := ()
noncomputable def Mine.whole.tw6150244297128479101 : Unit := ()
noncomputable def Mine.whole.tw1299319290729411920 : Unit := ()
noncomputable def Mine.whole.tw6396017553259284124 : Unit := ()
noncomputable def Mine.whole.tw13989200534822022692 : Unit := ()
noncomputable def Mine.whole.tw9416693575131194153 : Unit := ()
noncomputable def Mine.whole.tw1255956871972877904 : Unit := ()
noncomputable def Mine.whole.tw5438831827131416888 : Unit := ()
noncomputable def Mine.whole.tw11966515284280811977 : Unit := ()
noncomputable def Mine.whole.tw3733001107339715835 : Unit := ()
noncomputable def Mine.whole.tw1902754551582867561 : Unit := ()
noncomputable def Mine.whole.tw4056270910917201831 : Unit := ()
noncomputable def Mine.whole.tw5189780602208921310 : Unit := ()
noncomputable def Mine.whole.tw6968990032132415857 : Unit := ()
noncomputable def Mine.whole.tw1470681187219097129 : Unit := ()
noncomputable def Mine.whole.tw7276013540153241084 : Unit := ()
noncomputable def Mine.whole.tw13463558215457259582 : Unit := ()
noncomputable def Mine.whole.tw9464417701048127947 : Unit := ()
noncomputable def Mine.whole.tw7499365098147365621 : Unit := ()
noncomputable def Mine.whole.tw11975771152792504044 : Unit := ()
noncomputable def Mine.whole.tw10590843552420965350 : Unit := ()
noncomputable def Mine.whole.tw10472183733418339316 : Unit := ()
noncomputable def Mine.whole.tw620233503781600244 : Unit := ()
noncomputable def Mine.whole.tw7856580471358416282 : Unit := ()
noncomputable def Mine.whole.tw16195903647426884095 : Unit := ()
noncomputable def Mine.whole.tw8284271217205693211 : Unit := ()
noncomputable def Mine.whole.tw3162264621223815677 : Unit := ()
noncomputable def Mine.whole.tw127423454215802840 : Unit := ()
noncomputable def Mine.whole.tw16607669324509118938 : Unit := ()
noncomputable def Mine.whole.tw1733744953317856445 : Unit := ()
noncomputable def Mine.whole.tw15015764479258077956 : Unit := ()
noncomputable def Mine.whole.tw17814491789457634051 : Unit := ()
noncomputable def Mine.whole.tw7910221479046277610 : Unit := ()
noncomputable def Mine.whole.tw14457598465852218886 : Unit := ()
noncomputable def Mine.whole.tw9200330197067421115 : Unit := ()
noncomputable def Mine.whole.tw13468923340822585488 : Unit := ()
noncomputable def Mine.whole.tw13329942582686594379 : Unit := ()
noncomputable def Mine.whole.tw2359105872688663083 : Unit := ()
noncomputable def Mine.whole.tw4603890583814415204 : Unit := ()
noncomputable def Mine.whole.tw16800997667575721541 : Unit := ()
noncomputable def Mine.whole.tw8462934426511625541 : Unit := ()
noncomputable def Mine.whole.tw842793390314483620 : Unit := ()
noncomputable def Mine.whole.tw8529020170189433330 : Unit := ()
noncomputable def Mine.whole.tw15469157617142141710 : Unit := ()
noncomputable def Mine.whole.tw5099900934548537757 : Unit := ()
noncomputable def Mine.whole.tw16146633858663668739 : Unit := ()
noncomputable def Mine.whole.tw12012580348766612465 : Unit := ()
noncomputable def Mine.whole.tw12967805889597932581 : Unit := ()
noncomputable def Mine.whole.tw6266228650988000492 : Unit := ()
noncomputable def Mine.whole.tw15490696404161045352 : Unit := ()
noncomputable def Mine.whole.tw302538394102154784 : Unit := ()
noncomputable def Mine.whole.tw11030684522653666869 : Unit := ()
noncomputable def Mine.whole.tw11836910150536664915 : Unit := ()
noncomputable def Mine.whole.tw11834646129422110932 : Unit := ()
noncomputable def Mine.whole.tw10118140284582671090 : Unit := ()
noncomputable def Mine.whole.tw11791088910183784695 : Unit := ()
noncomputable def Mine.whole.tw2912573282932879776 : Unit := ()
noncomputable def Mine.whole.tw2290268214366725154 : Unit := ()
noncomputable def Mine.whole.tw10319702536984744784 : Unit := ()
noncomputable def Mine.whole.tw14765760737338471991 : Unit := ()
noncomputable def Mine.whole.tw3016316376071577429 : Unit := ()
noncomputable def Mine.whole.tw10499325594661192776 : Unit := ()
noncomputable def Mine.whole.tw16316554137538487329 : Unit := ()
noncomputable def Mine.whole.tw5649241889958590350 : Unit := ()
noncomputable def Mine.whole.tw5879479702872096659 : Unit := ()
noncomputable def Mine.whole.tw17819583843959417973 : Unit := ()
noncomputable def Mine.whole.tw15103685750691789098 : Unit := ()
noncomputable def Mine.whole.tw7545654013535254480 : Unit := ()
noncomputable def Mine.whole.tw7925426705801168976 : Unit := ()
noncomputable def Mine.whole.tw11775131333759173506 : Unit := ()
noncomputable def Mine.whole.tw10616696396452150886 : Unit := ()
noncomputable def Mine.whole.tw4162360135600614074 : Unit := ()
noncomputable def Mine.whole.tw3306209509626126654 : Unit := ()
noncomputable def Mine.whole.tw12147079563267589891 : Unit := ()
noncomputable def Mine.whole.tw15695161780090201225 : Unit := ()
noncomputable def Mine.whole.tw679095792406170707 : Unit := ()
noncomputable def Mine.whole.tw17881794589497109145 : Unit := ()
noncomputable def Mine.whole.tw2558861820686608913 : Unit := ()
noncomputable def Mine.whole.tw13760198194640045919 : Unit := ()
noncomputable def Mine.whole.tw3479739002732855021 : Unit := ()
noncomputable def Mine.whole.tw7868544009499267292 : Unit := ()
noncomputable def Mine.whole.tw1335791156554467795 : Unit := ()
noncomputable def Mine.whole.tw12499812526503966003 : Unit := ()
noncomputable def Mine.whole.tw4605417425148642151 : Unit := ()
noncomputable def Mine.whole.tw15189915617685484396 : Unit := ()
noncomputable def Mine.whole.tw1579314106941295789 : Unit := ()
noncomputable def Mine.whole.tw5882343337706715899 : Unit := ()
noncomputable def Mine.whole.tw8523286992835677893 : Unit := ()
noncomputable def Mine.whole.tw2781955308351554444 : Unit := ()
noncomputable def Mine.whole.tw536816803628104207 : Unit := ()
noncomputable def Mine.whole.tw10144505478992762587 : Unit := ()
noncomputable def Mine.whole.tw6766658173562982576 : Unit := ()
noncomputable def Mine.whole.tw17781206938751360472 : Unit := ()
noncomputable def Mine.whole.tw15753584648845244147 : Unit := ()
noncomputable def Mine.whole.tw5405151241437436114 : Unit := ()
noncomputable def Mine.whole.tw7588574119468234827 : Unit := ()
noncomputable def Mine.whole.tw16691007607992939502 : Unit := ()
noncomputable def Mine.whole.tw11896201609302106115 : Unit := ()
noncomputable def Mine.whole.tw8444963059077079450 : Unit := ()
noncomputable def Mine.whole.tw9838295914634562783 : Unit := ()
noncomputable def Mine.whole.tw5360207378560713126 : Unit := ()
noncomputable def Mine.whole.tw15848567645679474065 : Unit := ()
noncomputable def Mine.whole.tw17454085226186693669 : Unit := ()
noncomputable def Mine.whole.tw1371446737807839366 : Unit := ()
noncomputable def Mine.whole.tw12044105500090777872 : Unit := ()
noncomputable def Mine.whole.tw9406530864695525851 : Unit := ()
noncomputable def Mine.whole.tw697334722855355308 : Unit := ()
noncomputable def Mine.whole.tw11678933692714762019 : Unit := ()
noncomputable def Mine.whole.tw15564212434770411261 : Unit := ()
noncomputable def Mine.whole.tw7181214704614307865 : Unit := ()
noncomputable def Mine.whole.tw10335108021726791369 : Unit := ()
noncomputable def Mine.whole.tw1488662743745869538 : Unit := ()
noncomputable def Mine.whole.tw1601961968588287001 : Unit := ()
noncomputable def Mine.whole.tw10002100669626812175 : Unit := ()
noncomputable def Mine.whole.tw13762013822233420738 : Unit := ()
noncomputable def Mine.whole.tw16890978779660268727 : Unit := ()
noncomputable def Mine.whole.tw4337987958061720545 : Unit := ()
noncomputable def Mine.whole.tw12294887724330564330 : Unit := ()
noncomputable def Mine.whole.tw15117479482001565679 : Unit := ()
noncomputable def Mine.whole.tw4516712372641221423 : Unit := ()
noncomputable def Mine.whole.tw6496092161831514541 : Unit := ()
noncomputable def Mine.whole.tw12548274353314379123 : Unit := ()
noncomputable def Mine.whole.tw369943808078234791 : Unit := ()
noncomputable def Mine.whole.tw8341004590406740810 : Unit := ()
noncomputable def Mine.whole.tw3388183141720772199 : Unit := ()
noncomputable def Mine.whole.tw8465779003785688887 : Unit := ()
noncomputable def Mine.whole.tw2959683903145980101 : Unit := ()
noncomputable def Mine.whole.tw17333791097184162534 : Unit := ()
noncomputable def Mine.whole.tw9931084932488528433 : Unit := ()
noncomputable def Mine.whole.tw5798653541585068671 : Unit := ()
noncomputable def Mine.whole.tw5586392500970708615 : Unit := ()
noncomputable def Mine.whole.tw18186416632783805872 : Unit := ()
noncomputable def Mine.whole.tw3742335343461010818 : Unit := ()
noncomputable def Mine.whole.tw1934810232205804993 : Unit := ()
noncomputable def Mine.whole.tw9261806104794426953 : Unit := ()
noncomputable def Mine.whole.tw4725433933799282014 : Unit := ()
noncomputable def Mine.whole.tw3168900989282067249 : Unit := ()
noncomputable def Mine.whole.tw12852820008105578649 : Unit := ()
noncomputable def Mine.whole.tw9501391760213346845 : Unit := ()
noncomputable def Mine.whole.tw280920844665842053 : Unit := ()
noncomputable def Mine.whole.tw4535560162481520197 : Unit := ()
noncomputable def Mine.whole.tw13110515450571257733 : Unit := ()
noncomputable def Mine.whole.tw13061340530893119238 : Unit := ()
noncomputable def Mine.whole.tw7545590854473540767 : Unit := ()
noncomputable def Mine.whole.tw11187447588885237514 : Unit := ()
noncomputable def Mine.whole.tw17256302963761357986 : Unit := ()
noncomputable def Mine.whole.tw1469495571348798126 : Unit := ()
noncomputable def Mine.whole.tw17692944630003236201 : Unit := ()
noncomputable def Mine.whole.tw2401531773124529735 : Unit := ()
noncomputable def Mine.whole.tw1859146779660683823 : Unit := ()
noncomputable def Mine.whole.tw14492196311604417308 : Unit := ()
noncomputable def Mine.whole.tw6049599900894316688 : Unit := ()
noncomputable def Mine.whole.tw16738726308800667447 : Unit := ()
noncomputable def Mine.whole.tw8443025263604155638 : Unit := ()
noncomputable def Mine.whole.tw10832908153356258463 : Unit := ()
noncomputable def Mine.whole.tw8243020233432551205 : Unit := ()
noncomputable def Mine.whole.tw14621228733418778453 : Unit := ()
noncomputable def Mine.whole.tw10951800313117414527 : Unit := ()
noncomputable def Mine.whole.tw1182916100746360932 : Unit := ()
noncomputable def Mine.whole.tw11862022474199680377 : Unit := ()
noncomputable def Mine.whole.tw15657491793718945610 : Unit := ()
noncomputable def Mine.whole.tw3860174431591174066 : Unit := ()
noncomputable def Mine.whole.tw12850242359631670003 : Unit := ()
noncomputable def Mine.whole.tw13468676432958742306 : Unit := ()
noncomputable def Mine.whole.tw7185185305316088854 : Unit := ()
noncomputable def Mine.whole.tw17195952149560314771 : Unit := ()
noncomputable def Mine.whole.tw17992364426957274132 : Unit := ()
noncomputable def Mine.whole.tw18060336119277286115 : Unit := ()
noncomputable def Mine.whole.tw7978788361824508945 : Unit := ()
noncomputable def Mine.whole.tw15716183405302250479 : Unit := ()
noncomputable def Mine.whole.tw1587768003098754325 : Unit := ()
noncomputable def Mine.whole.tw6772379921613518395 : Unit := ()
noncomputable def Mine.whole.tw590541238101311183 : Unit := ()
noncomputable def Mine.whole.tw14590790631899776401 : Unit := ()
noncomputable def Mine.whole.tw10602399703277881627 : Unit := ()
noncomputable def Mine.whole.tw5146043315109619605 : Unit := ()
noncomputable def Mine.whole.tw17700112632457955127 : Unit := ()
noncomputable def Mine.whole.tw482805393138593929 : Unit := ()
noncomputable def Mine.whole.tw1357757348178948127 : Unit := ()
noncomputable def Mine.whole.tw8615399842404961663 : Unit := ()
noncomputable def Mine.whole.tw14120694959671187261 : Unit := ()
noncomputable def Mine.whole.tw3633373589777264862 : Unit := ()
noncomputable def Mine.whole.tw4772658413541480157 : Unit := ()
noncomputable def Mine.whole.tw6866068747796929802 : Unit := ()
noncomputable def Mine.whole.tw16912792503757511054 : Unit := ()
noncomputable def Mine.whole.tw16576061068926947915 : Unit := ()
noncomputable def Mine.whole.tw60084206612377972 : Unit := ()
noncomputable def Mine.whole.tw435229417069212923 : Unit := ()
noncomputable def Mine.whole.tw4487652198498899664 : Unit := ()
noncomputable def Mine.whole.tw8011658993158656957 : Unit := ()
noncomputable def Mine.whole.tw17463027529269885953 : Unit := ()
noncomputable def Mine.whole.tw6197045082498751548 : Unit := ()
noncomputable def Mine.whole.tw5201323674647411954 : Unit := ()
noncomputable def Mine.whole.tw161333873384909080 : Unit := ()
noncomputable def Mine.whole.tw14592908492388784131 : Unit := ()
noncomputable def Mine.whole.tw7781976810680006178 : Unit := ()
noncomputable def Mine.whole.tw17789319016849944305 : Unit := ()
noncomputable def Mine.whole.tw1633898876240874773 : Unit := ()
noncomputable def Mine.whole.tw161632788893874429 : Unit := ()
noncomputable def Mine.whole.tw14725644924352215136 : Unit := ()
noncomputable def Mine.whole.tw12761472262123182041 : Unit := ()
noncomputable def Mine.whole.tw12808456870637180559 : Unit := ()
noncomputable def Mine.whole.tw16529046165737248422 : Unit := ()
noncomputable def Mine.whole.tw2989192609971925910 : Unit := ()
noncomputable def Mine.whole.tw9748834850448372353 : Unit := ()
noncomputable def Mine.whole.tw1999433592531618509 : Unit := ()
noncomputable def Mine.whole.tw3720110479823389818 : Unit := ()
noncomputable def Mine.whole.tw11116944545036436439 : Unit := ()
noncomputable def Mine.whole.tw8109663874093803249 : Unit := ()
noncomputable def Mine.whole.tw9088682870026954680 : Unit := ()
noncomputable def Mine.whole.tw17948893368442150300 : Unit := ()
noncomputable def Mine.whole.tw3390907139478361160 : Unit := ()
noncomputable def Mine.whole.tw14857529406646634625 : Unit := ()
noncomputable def Mine.whole.tw16616245412964173377 : Unit := ()
noncomputable def Mine.whole.tw11024528398593038377 : Unit := ()
noncomputable def Mine.whole.tw16564990636065421569 : Unit := ()
noncomputable def Mine.whole.tw14661705875561194100 : Unit := ()
noncomputable def Mine.whole.tw3127163415804763599 : Unit := ()
noncomputable def Mine.whole.tw6888942637506950926 : Unit := ()
noncomputable def Mine.whole.tw13155097880312403346 : Unit := ()
noncomputable def Mine.whole.tw1975147037884041520 : Unit := ()
noncomputable def Mine.whole.tw1217171336636241682 : Unit := ()
noncomputable def Mine.whole.tw6211587326476211309 : Unit := ()
noncomputable def Mine.whole.tw8181180424491326830 : Unit := ()
noncomputable def Mine.whole.tw7056001396292377188 : Unit := ()
noncomputable def Mine.whole.tw3150075250938504248 : Unit := ()
noncomputable def Mine.whole.tw17841917278309519415 : Unit := ()
noncomputable def Mine.whole.tw974242676711936875 : Unit := ()
noncomputable def Mine.whole.tw10467399731503315703 : Unit := ()
noncomputable def Mine.whole.tw17075553230084287909 : Unit := ()
noncomputable def Mine.whole.tw6831798877050662096 : Unit := ()
noncomputable def Mine.whole.tw12381228794656768651 : Unit := ()
noncomputable def Mine.whole.tw12098860561503762481 : Unit := ()
noncomputable def Mine.whole.tw6453619897266653623 : Unit := ()
noncomputable def Mine.whole.tw12207685810698929643 : Unit := ()
noncomputable def Mine.whole.tw10025635815308576066 : Unit := ()
noncomputable def Mine.whole.tw5233578499609466721 : Unit := ()
noncomputable def Mine.whole.tw18174217711786252908 : Unit := ()
noncomputable def Mine.whole.tw6377287985247879410 : Unit := ()
noncomputable def Mine.whole.tw1393339623888494026 : Unit := ()
noncomputable def Mine.whole.tw8894826161267586577 : Unit := ()
noncomputable def Mine.whole.tw13213058742666125385 : Unit := ()
noncomputable def Mine.whole.tw561600600097829391 : Unit := ()
noncomputable def Mine.whole.tw12976933641374925533 : Unit := ()
noncomputable def Mine.whole.tw4163455835068889971 : Unit := ()
noncomputable def Mine.whole.tw381110514646162275 : Unit := ()
noncomputable def Mine.whole.tw7078629122812257199 : Unit := ()
noncomputable def Mine.whole.tw16062187612904122858 : Unit := ()
noncomputable def Mine.whole.tw6531100040246800141 : Unit := ()
noncomputable def Mine.whole.tw11357175057958205107 : Unit := ()
noncomputable def Mine.whole.tw3798757254938238448 : Unit := ()
noncomputable def Mine.whole.tw15089273742334493110 : Unit := ()
noncomputable def Mine.whole.tw715978364194892080 : Unit := ()
noncomputable def Mine.whole.tw12478609949429157409 : Unit := ()
noncomputable def Mine.whole.tw137721658169608169 : Unit := ()
noncomputable def Mine.whole.tw10379991877525085312 : Unit := ()
noncomputable def Mine.whole.tw3817958767811374121 : Unit := ()
noncomputable def Mine.whole.tw3687826684616867901 : Unit := ()
noncomputable def Mine.whole.tw10332575325313852403 : Unit := ()
noncomputable def Mine.whole.tw3869719713472690019 : Unit := ()
noncomputable def Mine.whole.tw9347626172496877827 : Unit := ()
noncomputable def Mine.whole.tw17037309529492816295 : Unit := ()
noncomputable def Mine.whole.tw11401351377558187561 : Unit := ()
noncomputable def Mine.whole.tw12509332252045503800 : Unit := ()
noncomputable def Mine.whole.tw16467933323881711526 : Unit := ()
noncomputable def Mine.whole.tw1021466310418864216 : Unit := ()
noncomputable def Mine.whole.tw11501073197159204048 : Unit := ()
noncomputable def Mine.whole.tw13262402704330787269 : Unit := ()
noncomputable def Mine.whole.tw13719171679594634575 : Unit := ()
noncomputable def Mine.whole.tw17756055853247313500 : Unit := ()
noncomputable def Mine.whole.tw2608646628457097981 : Unit := ()
noncomputable def Mine.whole.tw12740454516981205806 : Unit := ()
noncomputable def Mine.whole.tw4902818953507920398 : Unit := ()
noncomputable def Mine.whole.tw6743021324641148519 : Unit := ()
noncomputable def Mine.whole.tw15930047269337530508 : Unit := ()
noncomputable def Mine.whole.tw10084071824679271942 : Unit := ()
noncomputable def Mine.whole.tw7582116766257987118 : Unit := ()
noncomputable def Mine.whole.tw9315315907157715723 : Unit := ()
noncomputable def Mine.whole.tw6084657873442493111 : Unit := ()
noncomputable def Mine.whole.tw13156973312945586846 : Unit := ()
noncomputable def Mine.whole.tw4901011727050283698 : Unit := ()

set_option Elab.async true
set_option maxRecDepth 100000
set_option maxHeartbeats 8000000 in
theorem Mine.whole : PySem.Challenge.rw_up0054_01.Holds := by
  w_on
  o_law
  k_head
  case hw => w_witness2
  k_fill
  intro w s₀ s₁ mg mb G Y fa o pm cd doc dV kV ho hd hcd hD hmg hg args vals as hpre hlay hrd hwl hlo
  have KX := kIn_of Y
  have X := (Ground.X G).1
  have V := (Ground.X G).2
  refine Ground.open G ?_
  intro T B D TE TW
  try (refine guard_noD D (by decide +kernel) ?_; clear D)
  obtain ⟨_, _, M⟩ := bmod_of_top T
  have TA := at_of_top T
  try (obtain ⟨_, _, he, B0⟩ := based_of_top T rfl hmg ho hd; have he' : cd = _ := he; subst he'; clear he)
  clear hmg
  wrow_args hpre hlay hrd hwl hlo
  all_goals (
    first | refine callC_kw (enter_call ?_) | refine enter_call ?_ | refine callC_kw (enter_callW ?_) | refine enter_callW ?_ | w_how
    w_top on
    try refine codeAny_mono ?_ (fun _ _ g => GoodW.toG g)
    have K0 := below_caller (Top.heap T)
    w_call any ho hd hcd hD T F
    clear hd TA
    skip)
  refine Mine.law_end (Mine.lawK_of _ _ _ _ _ _ ⟨Mine.seen_is ?_, ⟨?_, ?_⟩, Mine.seen_is ?_, ⟨?_, ?_, ?_, ?_, ?_, ?_, ?_⟩, Mine.seen_is ?_, Mine.seen_is ?_, ?_, Mine.seen_is ?_, ?_, Mine.seen_is ?_, ?_, Mine.seen_is ?_, ?_, Mine.seen_is ?_, Mine.seen_is ?_, ?_, Mine.seen_is ?_, ?_⟩ ⟨Mine.seen_is ?_, Mine.seen_is ?_, Mine.seen_is ?_, Mine.seen_is ?_, Mine.seen_is ?_, Mine.seen_is ?_, Mine.seen_is ?_, Mine.seen_is ?_, Mine.seen_is ?_, Mine.seen_is ?_, Mine.seen_is ?_, Mine.seen_is ?_, Mine.seen_is ?_, Mine.seen_is ?_, Mine.seen_is ?_, Mine.seen_is ?_, Mine.seen_is ?_, Mine.seen_is ?_⟩) ‹Frag.In _ _› (topRead_of ‹Top _ _ _ _ _ _›) ‹Below _ _ _ _› ‹Fr _ _ _ _› ‹_ = #[]› ‹Heap.IsList _ _ _› ‹IntsAre _ _› (by kernel_rfl) rfl (by decide +kernel) (by decide +kernel) (by decide +kernel) (by rfl) ?good
  case good =>
    intro s' h1 h2 h3
    refine ⟨.inl ⟨.bool true, .bool true, [], rfl, fun _ => rfl, .bool true, ?_, unshared_nil⟩, h1, h2, h3⟩
    first | wrow_post | kc_post
  all_goals first | (as_aux_lemma => k_get) | kernel_rfl | (unfold Mine.TE; kernel_rfl)

theorem PySem.Challenge.cw_up0054_01_holds : PySem.Challenge.rw_up0054_01.Holds :=
  Mine.whole
