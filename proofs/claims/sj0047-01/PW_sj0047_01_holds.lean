import PyProof.Rows.All
import PyProof.ForAny
import PyProof.CompFree
import PyProof.Rows.TupAssign
import PyProof.WalksPairs
import PyProof.SliceMore
import Wide.FinOn
import OpenK.AllK
import Wide.All
import Lean
import PySem.Challenge.RW_sj0047_01
set_option autoImplicit false
set_option linter.unusedVariables false
set_option genSizeOf false
set_option genInjectivity false
set_option genCtorIdx false
set_option bootstrap.genMatcherCode false
namespace Mine
open PySem
set_option genCtorIdx true
inductive Tg where
  | kVar | kConst | kBelow | kSet | kCase | kCasez | kCasex | kIf | kFor | kWhile | kRepeat | kBlock | kForever
  | kJump | kUnless | kMatch | kTimes | kAgain | kEnter | kSave | kLocal | kEnd | kKept | kHost | kTop
  | kNba | kFork | kDelay | kAwait | kWait | kLeave
  deriving DecidableEq
noncomputable def Tg.str : Tg → Str
  | .kVar => Str.ofString "var" | .kConst => Str.ofString "const" | .kBelow => Str.ofString "below" | .kSet => Str.ofString "set"
  | .kCase => Str.ofString "case" | .kCasez => Str.ofString "casez" | .kCasex => Str.ofString "casex" | .kIf => Str.ofString "if"
  | .kFor => Str.ofString "for" | .kWhile => Str.ofString "while" | .kRepeat => Str.ofString "repeat" | .kBlock => Str.ofString "block"
  | .kForever => Str.ofString "forever" | .kJump => Str.ofString "jump" | .kUnless => Str.ofString "unless" | .kMatch => Str.ofString "match"
  | .kTimes => Str.ofString "times" | .kAgain => Str.ofString "again" | .kEnter => Str.ofString "enter" | .kSave => Str.ofString "save"
  | .kLocal => Str.ofString "local" | .kEnd => Str.ofString "end" | .kKept => Str.ofString "kept" | .kHost => Str.ofString "host"
  | .kTop => Str.ofString "top" | .kNba => Str.ofString "nba" | .kFork => Str.ofString "fork" | .kDelay => Str.ofString "delay"
  | .kAwait => Str.ofString "await" | .kWait => Str.ofString "wait" | .kLeave => Str.ofString "leave"
inductive At where
  | slots | code | number | pc | frame | path | calls | scopes | parent | children | done | wait | stamp | looking | again | evaluateIn
  deriving DecidableEq
noncomputable def At.str : At → Str
  | .slots => Str.ofString "slots" | .code => Str.ofString "code" | .number => Str.ofString "number" | .pc => Str.ofString "pc"
  | .frame => Str.ofString "frame" | .path => Str.ofString "path" | .calls => Str.ofString "calls" | .scopes => Str.ofString "scopes"
  | .parent => Str.ofString "parent" | .children => Str.ofString "children" | .done => Str.ofString "done" | .wait => Str.ofString "wait"
  | .stamp => Str.ofString "stamp" | .looking => Str.ofString "looking" | .again => Str.ofString "again" | .evaluateIn => Str.ofString "evaluate_in"
inductive Cls where
  | maker | thread
  deriving DecidableEq
noncomputable def Cls.str : Cls → Str
  | .maker => Str.ofString "CodeMaker" | .thread => Str.ofString "Thread"
inductive Fn where
  | mask | toInt | truth | matches | performFlow
  | bag | pull | word | test | store | case | tree | fixed | codes | seen | alike | count | chosen | round | reading | slots | follow | same | law
  deriving DecidableEq
noncomputable def Fn.str : Fn → Str
  | .mask => Str.ofString "mask" | .toInt => Str.ofString "to_int" | .truth => Str.ofString "truth" | .matches => Str.ofString "matches"
  | .performFlow => Str.ofString "perform_flow" | .bag => Str.ofString "_law_bag" | .pull => Str.ofString "_law_pull" | .word => Str.ofString "_law_word"
  | .test => Str.ofString "_law_test" | .store => Str.ofString "_law_store" | .case => Str.ofString "_law_case" | .tree => Str.ofString "_law_tree"
  | .fixed => Str.ofString "_law_fixed" | .codes => Str.ofString "_law_codes" | .seen => Str.ofString "_law_seen" | .alike => Str.ofString "_law_alike"
  | .count => Str.ofString "_law_count" | .chosen => Str.ofString "_law_chosen" | .round => Str.ofString "_law_round" | .reading => Str.ofString "_law_reading"
  | .slots => Str.ofString "_law_slots" | .follow => Str.ofString "_law_follow" | .same => Str.ofString "_law_same" | .law => Str.ofString "law"
inductive Mt where
  | makerInit | emit | here | newSlot | aim | assignment | branch | selection | loop | repetition | scoped | close | block | looping | make
  | threadInit
  deriving DecidableEq
noncomputable def Mt.str : Mt → Str
  | .makerInit => Str.ofString "__init__" | .emit => Str.ofString "emit" | .here => Str.ofString "here" | .newSlot => Str.ofString "new_slot"
  | .aim => Str.ofString "aim" | .assignment => Str.ofString "assignment" | .branch => Str.ofString "branch" | .selection => Str.ofString "selection"
  | .loop => Str.ofString "loop" | .repetition => Str.ofString "repetition" | .scoped => Str.ofString "scoped" | .close => Str.ofString "close"
  | .block => Str.ofString "block" | .looping => Str.ofString "looping" | .make => Str.ofString "make" | .threadInit => Str.ofString "__init__"
noncomputable def Mt.cls : Mt → Cls
  | .threadInit => .thread
  | _ => .maker
inductive V where
  | und | none | bool (b : Bool) | int (i : Int) | str (t : Tg) | tup (vs : List V) | obj (i : Nat) | scr
inductive CO where
  | list (vs : List V)
  | inst (c : Cls) (fs : List (At × V))
  | clo (held log : V)
  | dict0
abbrev Hp := List CO
set_option genCtorIdx false
inductive Callee where
  | fn (f : Fn)
  | mt (m : Mt)
  | clo (i : Nat)
abbrev CallP := Callee → List V → Hp → (V → Hp → Prop) → Prop
set_option genCtorIdx true
inductive BOp where
  | add | sub | mul | fdiv | fmod | shl | shr | band | bor | bxor
  deriving DecidableEq
noncomputable def BOp.op : BOp → Operator
  | .add => .Add | .sub => .Sub | .mul => .Mult | .fdiv => .FloorDiv | .fmod => .Mod | .shl => .LShift | .shr => .RShift | .band => .BitAnd | .bor => .BitOr | .bxor => .BitXor
inductive COp where
  | eq | ne | lt | le | gt | ge | is | isNot | in_
  deriving DecidableEq
noncomputable def COp.op : COp → CmpOp
  | .eq => .Eq | .ne => .NotEq | .lt => .Lt | .le => .LtE | .gt => .Gt | .ge => .GtE | .is => .Is | .isNot => .IsNot | .in_ => .In
set_option genCtorIdx false
mutual
inductive E where
  | cN | cB (b : Bool) | cI (i : Int) | cS (t : Tg)
  | loc (i : Nat)
  | bin (op : BOp) (a b : E)
  | neg (a : E)
  | and2 (a b : E) | and3 (a b c : E) | or2 (a b : E)
  | not_ (a : E)
  | cmp (op : COp) (a b : E)
  | cmp2 (op1 : COp) (op2 : COp) (a b c : E)
  | ite (c t e : E)
  | tup (es : Es) | lst (es : Es)
  | att (o : E) (a : At)
  | idx (o i : E)
  | slc (o hi : E)
  | call (f : Fn) (es : Es)
  | mk (c : Cls) (es : Es)
  | meth (o : E) (m : Mt) (es : Es)
  | clo (o : E) (es : Es)
  | append (o e : E)
  | pop (o i : E)
  | len (e : E) | int_ (e : E) | list_ (e : E) | tuple_ (e : E) | max1 (e : E) | max2 (a b : E) | sum_ (e : E) | isBool (e : E)
  | comp (src : E) (tb : List Nat) (x : Nat) (elt : E)
  | compR (src : E) (tb : List Nat) (x : Nat) (elt : E)
  | dict0
  | callL (i : Nat) (es : Es)
  | any
inductive Es where
  | nil
  | cons (e : E) (es : Es)
end
mutual
inductive St where
  | asg (i : Nat) (e : E)
  | asgC (i : Nat) (src : E) (tb : List Nat) (x : Nat) (elt : E)
  | asg3 (i j k : Nat) (e : E)
  | asgA (o : E) (a : At) (e : E)
  | asgI (o i e : E)
  | augN (i : Nat) (op : BOp) (e : E)
  | augA (o : E) (a : At) (op : BOp) (e : E)
  | augI (o i : E) (op : BOp) (e : E)
  | ex (e : E)
  | ret (e : E)
  | ret0
  | if_ (c : E) (t e : Ss)
  | while_ (c : E) (b : Ss)
  | for_ (i : Nat) (it : E) (b : Ss)
  | forR (i : Nat) (n : E) (b : Ss)
  | for2 (i j : Nat) (it : E) (b : Ss)
  | cont
  | def_ (i : Nat)
inductive Ss where
  | nil
  | cons (s : St) (ss : Ss)
  | any
end
inductive Fl where
  | next | cont | ret (v : V)
noncomputable def pyGet (vs : List V) (k : Int) : Option V := if 0 ≤ k then vs[k.toNat]? else if 0 ≤ k + vs.length then vs[(k + vs.length).toNat]? else none
noncomputable def small (a : Int) : Bool := decide (a.natAbs < 1099511627776)
noncomputable def binI (op : BOp) (a b : Int) : Option Int := match op with
  | .add => some (a + b)
  | .sub => some (a - b)
  | .mul => if small a || small b then some (a * b) else none
  | .fdiv => if b ≠ 0 ∧ b.natAbs < 1000000000 then some (a.fdiv b) else none
  | .fmod => if b ≠ 0 ∧ b.natAbs < 1000000000000 then some (a.fmod b) else none
  | .shl => if 0 ≤ b ∧ b ≤ 1000 ∧ small a = true then some (a * 2 ^ b.toNat) else none
  | .shr => if 0 ≤ b then some (a.fdiv (2 ^ b.toNat)) else none
  | .band => some (Builtin.bitAnd a b)
  | .bor => some (Builtin.bitOr a b)
  | .bxor => some (Builtin.bitXor a b)
abbrev optK {α : Type} (o : Option α) (P : α → Prop) : Prop := match o with | some r => P r | none => False
abbrev lisK (o : Option CO) (P : List V → Prop) : Prop := match o with | some (.list l) => P l | _ => False
abbrev insK (o : Option CO) (P : Cls → List (At × V) → Prop) : Prop := match o with | some (.inst k l) => P k l | _ => False
abbrev intK (x : V) (P : Int → Prop) : Prop := match x with | .int k => P k | _ => False
abbrev boolK (x : V) (P : Bool → Prop) : Prop := match x with | .bool k => P k | _ => False
abbrev cloK (o : Option CO) (P : Prop) : Prop := match o with | some (.clo _ _) => P | _ => False
abbrev consK {α : Type} (l : List α) (P : α → List α → Prop) : Prop := match l with | x :: r => P x r | [] => False
abbrev nilK {α : Type} (l : List α) (P : Prop) : Prop := match l with | [] => P | _ :: _ => False
abbrev tupK (x : V) (P : List V → Prop) : Prop := match x with | .tup l => P l | _ => False
abbrev clo2K (o : Option CO) (P : V → V → Prop) : Prop := match o with | some (.clo a b) => P a b | _ => False
theorem clo2F {o : Option CO} {P : V → V → Prop} (w : clo2K o P) : ∃ a b, o = some (.clo a b) ∧ P a b := by
  cases o with
  | none => exact w.elim
  | some c => cases c <;> first | exact w.elim | exact ⟨_, _, rfl, w⟩
theorem consF {α : Type} {l : List α} {P : α → List α → Prop} (w : consK l P) : ∃ x r, l = x :: r ∧ P x r := by
  cases l
  · exact w.elim
  · exact ⟨_, _, rfl, w⟩
theorem nilF {α : Type} {l : List α} {P : Prop} (w : nilK l P) : l = [] ∧ P := by
  cases l
  · exact ⟨rfl, w⟩
  · exact w.elim
theorem bifF {b : Bool} {P : Prop} (w : bif b then P else False) : b = true ∧ P := by
  cases b
  · exact False.elim w
  · exact ⟨rfl, w⟩
theorem tupF {x : V} {P : List V → Prop} (w : tupK x P) : ∃ l, x = .tup l ∧ P l := by
  cases x <;> first | exact False.elim w | exact ⟨_, rfl, w⟩
noncomputable def twoK (l : List V) (P : V → V → Prop) : Prop := consK l fun a r => consK r fun b r => nilK r (P a b)
theorem twoF {l : List V} {P : V → V → Prop} (w : twoK l P) : ∃ a b, l = [a, b] ∧ P a b := by
  obtain ⟨a, r, rfl, w⟩ := consF w
  obtain ⟨b, r, rfl, w⟩ := consF w
  obtain ⟨rfl, w⟩ := nilF w
  exact ⟨_, _, rfl, w⟩
theorem lisI {o : Option CO} {l : List V} {P : List V → Prop} (h : o = some (.list l)) (q : P l) : lisK o P := by subst h; exact q
theorem insI {o : Option CO} {k : Cls} {l : List (At × V)} {P : Cls → List (At × V) → Prop} (h : o = some (.inst k l)) (q : P k l) : insK o P := by subst h; exact q
theorem optI {α : Type} {o : Option α} {r : α} {P : α → Prop} (h : o = some r) (q : P r) : optK o P := by subst h; exact q
theorem cloI {o : Option CO} {a b : V} {P : Prop} (h : o = some (.clo a b)) (q : P) : cloK o P := by subst h; exact q
theorem cloF {o : Option CO} {P : Prop} (w : cloK o P) : ∃ a b, o = some (.clo a b) ∧ P := by
  cases o with
  | none => exact w.elim
  | some c => cases c <;> first | exact w.elim | exact ⟨_, _, rfl, w⟩
theorem optF {α : Type} {o : Option α} {P : α → Prop} (w : optK o P) : ∃ r, o = some r ∧ P r := by
  cases o
  · exact w.elim
  · exact ⟨_, rfl, w⟩
theorem lisF {o : Option CO} {P : List V → Prop} (w : lisK o P) : ∃ l, o = some (.list l) ∧ P l := by
  cases o with
  | none => exact w.elim
  | some c => cases c <;> first | exact w.elim | exact ⟨_, rfl, w⟩
theorem insF {o : Option CO} {P : Cls → List (At × V) → Prop} (w : insK o P) : ∃ k l, o = some (.inst k l) ∧ P k l := by
  cases o with
  | none => exact w.elim
  | some c => cases c <;> first | exact w.elim | exact ⟨_, _, rfl, w⟩
theorem intF {x : V} {P : Int → Prop} (w : intK x P) : ∃ k, x = .int k ∧ P k := by
  cases x <;> first | exact False.elim w | exact ⟨_, rfl, w⟩
noncomputable def binW (op : BOp) (x y : V) (H : Hp) (Q : V → Hp → Prop) : Prop := match x with
  | .int a => intK y fun b => optK (binI op a b) fun r => Q (.int r) H
  | .tup a => (match y with
    | .tup b => op = .add ∧ a ≠ [] ∧ b ≠ [] ∧ a.length + b.length ≤ 100000 ∧ Q (.tup (a ++ b)) H
    | _ => False)
  | .obj i => (match y with
    | .obj j => op = .add ∧ lisK H[i]? fun a => lisK H[j]? fun b => a.length + b.length ≤ 100000 ∧ Q (.obj H.length) (H ++ [.list (a ++ b)])
    | .int n => op = .mul ∧ lisK H[i]? fun l => (match l with
      | [a] => 0 ≤ n ∧ n ≤ 100000 ∧ Q (.obj H.length) (H ++ [.list (List.replicate n.toNat a)])
      | _ => False)
    | _ => False)
  | _ => False
-- values without a thing that turns
mutual
noncomputable def V.pure : V → Bool
  | .none => true | .bool _ => true | .int _ => true | .str _ => true
  | .tup vs => V.pures vs
  | _ => false
noncomputable def V.pures : List V → Bool
  | [] => true
  | v :: r => v.pure && V.pures r
end
-- what a value says, as data
mutual
inductive Dat (H : Hp) : V → PyData → Prop
  | none : Dat H .none .none
  | bool (b : Bool) : Dat H (.bool b) (.bool b)
  | int (i : Int) : Dat H (.int i) (.int i)
  | str (t : Tg) : Dat H (.str t) (.str t.str)
  | tup {vs : List V} {ds : List PyData} : DatL H vs ds → Dat H (.tup vs) (.tuple ds)
  | obj {i : Nat} {vs : List V} {ds : List PyData} : H[i]? = some (.list vs) → DatL H vs ds → Dat H (.obj i) (.list ds)
inductive DatL (H : Hp) : List V → List PyData → Prop
  | nil : DatL H [] []
  | cons {v : V} {d : PyData} {vs : List V} {ds : List PyData} : Dat H v d → DatL H vs ds → DatL H (v :: vs) (d :: ds)
end
noncomputable def eqW (pos : Bool) (x y : V) (H : Hp) (Q : V → Hp → Prop) : Prop := match x with
  | .int a => intK y fun b => Q (.bool (decide (a = b) == pos)) H
  | .str a => (match y with | .str b => Q (.bool (decide (a = b) == pos)) H | _ => False)
  | .bool a => (match y with | .bool b => Q (.bool (decide (a = b) == pos)) H | _ => False)
  | .obj i => (match y with | .obj j => (∃ d : PyData, Dat H (.obj i) d ∧ Dat H (.obj j) d ∧ d.depth ≤ 64) ∧ Q (.bool pos) H | _ => False)
  | _ => False
noncomputable def amongI (x : Int) : List V → Option Bool
  | [] => some false
  | .int a :: r => (amongI x r).map fun b => decide (x = a) || b
  | _ => none
noncomputable def amongS (x : Tg) : List V → Option Bool
  | [] => some false
  | .str a :: r => (amongS x r).map fun b => decide (x = a) || b
  | _ => none
noncomputable def inW (x y : V) (H : Hp) (Q : V → Hp → Prop) : Prop := match x with
  | .int a => (match y with
    | .tup l => optK (amongI a l) fun b => Q (.bool b) H
    | .obj i => lisK H[i]? fun l => optK (amongI a l) fun b => Q (.bool b) H
    | _ => False)
  | .str a => (match y with | .tup l => optK (amongS a l) fun b => Q (.bool b) H | _ => False)
  | _ => False
noncomputable def V.isNone : V → Bool
  | .none => true
  | _ => false
noncomputable def cmpW (op : COp) (x y : V) (H : Hp) (Q : V → Hp → Prop) : Prop := match op with
  | .eq => eqW true x y H Q
  | .ne => eqW false x y H Q
  | .in_ => inW x y H Q
  | .is => (match y with | .none => (match x with | .und => False | _ => Q (.bool x.isNone) H) | _ => False)
  | .isNot => (match y with | .none => (match x with | .und => False | _ => Q (.bool (!x.isNone)) H) | _ => False)
  | .lt => intK x fun a => intK y fun b => Q (.bool (decide (a < b))) H
  | .le => intK x fun a => intK y fun b => Q (.bool (decide (a ≤ b))) H
  | .gt => intK x fun a => intK y fun b => Q (.bool (decide (b < a))) H
  | .ge => intK x fun a => intK y fun b => Q (.bool (decide (b ≤ a))) H
noncomputable def idxW (o i : V) (H : Hp) (Q : V → Hp → Prop) : Prop := match o with
  | .tup vs => intK i fun k => optK (pyGet vs k) fun x => small k = true ∧ Q x H
  | .obj j => intK i fun k => lisK H[j]? fun vs => optK (pyGet vs k) fun x => 0 ≤ k ∧ small k = true ∧ Q x H
  | _ => False
noncomputable def slcW (o hi : V) (H : Hp) (Q : V → Hp → Prop) : Prop := match o with
  | .tup vs => intK hi fun k => k = -1 ∧ 2 ≤ vs.length ∧ vs.length ≤ 100000 ∧ Q (.tup vs.dropLast) H
  | .obj j => intK hi fun k => lisK H[j]? fun vs => 0 ≤ k ∧ small k = true ∧ vs.length ≤ 100000 ∧ Q (.obj H.length) (H ++ [.list (vs.take k.toNat)])
  | _ => False
noncomputable def lookF (a : At) : List (At × V) → Option V
  | [] => none
  | (b, v) :: r => if a = b then some v else lookF a r
noncomputable def putF (a : At) (v : V) : List (At × V) → List (At × V)
  | [] => [(a, v)]
  | (b, x) :: r => if a = b then (b, v) :: r else (b, x) :: putF a v r
abbrev objK (o : V) (P : Nat → Prop) : Prop := match o with | .obj i => P i | _ => False
theorem objF {x : V} {P : Nat → Prop} (w : objK x P) : ∃ k, x = .obj k ∧ P k := by
  cases x <;> first | exact False.elim w | exact ⟨_, rfl, w⟩
noncomputable def attW (o : V) (a : At) (H : Hp) (Q : V → Hp → Prop) : Prop := objK o fun i => insK H[i]? fun _ fs => optK (lookF a fs) fun v => Q v H
noncomputable def maxI : List V → Option Int
  | [.int a] => some a
  | .int a :: r => (maxI r).map fun b => max a b
  | _ => none
noncomputable def sumI : List V → Option Int
  | [] => some 0
  | .int a :: r => if a.natAbs < 1000000000 then (sumI r).map fun b => a + b else none
  | _ => none
noncomputable def itemsOf (x : V) (H : Hp) : Option (List V) := match x with
  | .tup vs => some vs
  | .obj i => (match H[i]? with | some (.list vs) => some vs | _ => none)
  | _ => none
theorem itemsF {x : V} {H : Hp} {xs : List V} (h : itemsOf x H = some xs) : x = .tup xs ∨ ∃ i, x = .obj i ∧ H[i]? = some (.list xs) := by
  cases x with
  | tup vs => cases h; exact .inl rfl
  | obj i =>
    refine .inr ⟨i, rfl, ?_⟩
    have h : (match H[i]? with | some (.list vs) => some vs | _ => none) = some xs := h
    generalize H[i]? = o at h
    cases o with
    | none => cases h
    | some c => cases c <;> cases h; rfl
  | _ => cases h
noncomputable def itemsW (x : V) (H : Hp) (k : List V → Prop) : Prop := match x with
  | .tup vs => k vs
  | .obj i => lisK H[i]? k
  | _ => False
theorem itemsW_of {x : V} {H : Hp} {k : List V → Prop} (w : itemsW x H k) : ∃ vs, itemsOf x H = some vs ∧ k vs := by
  cases x <;> first | exact False.elim w | exact ⟨_, rfl, w⟩ | skip
  obtain ⟨vs, h, w⟩ := lisF w
  exact ⟨vs, by simp only [itemsOf, h], w⟩
noncomputable def upTo (n : Nat) : List V := (List.range n).map fun (k : Nat) => V.int k
noncomputable def stillW (x : V) (items : List V) (H : Hp) : Prop := match x with
  | .tup _ => True
  | .obj i => H[i]? = some (.list items)
  | _ => False
noncomputable def compW (chk : Hp → Prop) (step : V → Hp → (V → Hp → Prop) → Prop) : List V → List V → Hp → (List V → Hp → Prop) → Prop
  | [], acc, H, Q => chk H ∧ Q acc H
  | x :: r, acc, H, Q => chk H ∧ step x H fun v H' => compW chk step r (acc ++ [v]) H' Q
noncomputable def setL (loc : List V) (i : Nat) (v : V) : List V := if i < loc.length then loc.set i v else loc ++ List.replicate (i - loc.length) .und ++ [v]
noncomputable def getL' (loc : List V) (i : Nat) : V := loc.getD i .und
abbrev WE := List V → Hp → (V → Hp → Prop) → Prop
abbrev WEs := List V → Hp → (List V → Hp → Prop) → Prop
noncomputable def kBin2 (op : BOp) (x : V) (Q : V → Hp → Prop) : V → Hp → Prop := fun y H => binW op x y H Q
noncomputable def kBin (f : WE) (op : BOp) (loc : List V) (Q : V → Hp → Prop) : V → Hp → Prop := fun x H => f loc H (kBin2 op x Q)
noncomputable def kCmp2 (op : COp) (x : V) (Q : V → Hp → Prop) : V → Hp → Prop := fun y H => cmpW op x y H Q
noncomputable def kCmp (f : WE) (op : COp) (loc : List V) (Q : V → Hp → Prop) : V → Hp → Prop := fun x H => f loc H (kCmp2 op x Q)
noncomputable def kIdx2 (x : V) (Q : V → Hp → Prop) : V → Hp → Prop := fun y H => idxW x y H Q
noncomputable def kIdx (f : WE) (loc : List V) (Q : V → Hp → Prop) : V → Hp → Prop := fun x H => f loc H (kIdx2 x Q)
noncomputable def kSlc2 (x : V) (Q : V → Hp → Prop) : V → Hp → Prop := fun y H => slcW x y H Q
noncomputable def kSlc (f : WE) (loc : List V) (Q : V → Hp → Prop) : V → Hp → Prop := fun x H => f loc H (kSlc2 x Q)
noncomputable def kAnd (f : WE) (loc : List V) (Q : V → Hp → Prop) : V → Hp → Prop := fun x H => boolK x fun t => bif t then f loc H Q else Q (.bool false) H
noncomputable def kOr (f : WE) (loc : List V) (Q : V → Hp → Prop) : V → Hp → Prop := fun x H => boolK x fun t => bif t then Q (.bool true) H else f loc H Q
noncomputable def kNot (Q : V → Hp → Prop) : V → Hp → Prop := fun x H => boolK x fun t => Q (.bool (!t)) H
noncomputable def kIte (f g : WE) (loc : List V) (Q : V → Hp → Prop) : V → Hp → Prop := fun x H => boolK x fun b => bif b then f loc H Q else g loc H Q
noncomputable def kEs2 (v : V) (Q : List V → Hp → Prop) : List V → Hp → Prop := fun vs H => Q (v :: vs) H
noncomputable def kEs (f : WEs) (loc : List V) (Q : List V → Hp → Prop) : V → Hp → Prop := fun v H => f loc H (kEs2 v Q)
noncomputable def kTup (Q : V → Hp → Prop) : List V → Hp → Prop := fun vs H => Q (.tup vs) H
noncomputable def kLst (Q : V → Hp → Prop) : List V → Hp → Prop := fun vs H => Q (.obj H.length) (H ++ [.list vs])
noncomputable def kAtt (a : At) (Q : V → Hp → Prop) : V → Hp → Prop := fun x H => attW x a H Q
noncomputable def kCall (C : CallP) (k : Callee) (Q : V → Hp → Prop) : List V → Hp → Prop := fun vs H => C k vs H Q
noncomputable def kSelf (C : CallP) (m : Mt) (i : Nat) (Q : V → Hp → Prop) : List V → Hp → Prop := fun vs H => C (.mt m) (.obj i :: vs) H Q
noncomputable def kMeth (C : CallP) (f : WEs) (m : Mt) (loc : List V) (Q : V → Hp → Prop) : V → Hp → Prop := fun x H => objK x fun i => insK H[i]? fun k _ => k = .maker ∧ m.cls = .maker ∧ f loc H (kSelf C m i Q)
noncomputable def kClo (C : CallP) (j : Nat) (Q : V → Hp → Prop) : List V → Hp → Prop := fun vs H => cloK H[j]? (C (.clo j) vs H Q)
noncomputable def kCloE (C : CallP) (f : WEs) (loc : List V) (Q : V → Hp → Prop) : V → Hp → Prop := fun x H => attW x .evaluateIn H fun x H => objK x fun j => f loc H (kClo C j Q)
noncomputable def kApp2 (i : Nat) (Q : V → Hp → Prop) : V → Hp → Prop := fun v H => lisK H[i]? fun vs => vs.length ≤ 100000 ∧ Q .none (H.set i (.list (vs ++ [v])))
noncomputable def kApp (f : WE) (loc : List V) (Q : V → Hp → Prop) : V → Hp → Prop := fun x H => objK x fun i => lisK H[i]? fun _ => f loc H (kApp2 i Q)
noncomputable def kNeg (Q : V → Hp → Prop) : V → Hp → Prop := fun x H => intK x fun i => Q (.int (-i)) H
noncomputable def kInt (Q : V → Hp → Prop) : V → Hp → Prop := fun x H => intK x fun i => Q (.int i) H
noncomputable def kLen (Q : V → Hp → Prop) : V → Hp → Prop := fun x H => itemsW x H fun vs => vs.length ≤ 1000000 ∧ Q (.int vs.length) H
noncomputable def kMax (Q : V → Hp → Prop) : V → Hp → Prop := fun x H => itemsW x H fun vs => optK (maxI vs) fun m => Q (.int m) H
noncomputable def kSum (Q : V → Hp → Prop) : V → Hp → Prop := fun x H => itemsW x H fun vs => optK (sumI vs) fun m => vs.length ≤ 100000 ∧ Q (.int m) H
noncomputable def kTuple (Q : V → Hp → Prop) : V → Hp → Prop := fun x H => objK x fun i => lisK H[i]? fun vs => vs.length ≤ 100000 ∧ Q (.tup vs) H
section
variable (C : CallP) (scr : List Int)
mutual
noncomputable def wpE : E → List V → Hp → (V → Hp → Prop) → Prop
  | .cN, _, H, Q => Q .none H
  | .cB b, _, H, Q => Q (.bool b) H
  | .cI i, _, H, Q => Q (.int i) H
  | .cS t, _, H, Q => Q (.str t) H
  | .loc i, loc, H, Q => getL' loc i ≠ .und ∧ Q (getL' loc i) H
  | .bin op a b, loc, H, Q => wpE a loc H (kBin (wpE b) op loc Q)
  | .neg a, loc, H, Q => wpE a loc H (kNeg Q)
  | .and2 a b, loc, H, Q => wpE a loc H (kAnd (wpE b) loc Q)
  | .and3 a b c, loc, H, Q => wpE a loc H fun x H => (match x with
      | .bool t => bif t then wpE b loc H (fun y H => (match y with | .bool u => bif u then wpE c loc H Q else Q (.bool false) H | _ => False)) else Q (.bool false) H
      | _ => False)
  | .or2 a b, loc, H, Q => wpE a loc H (kOr (wpE b) loc Q)
  | .not_ a, loc, H, Q => wpE a loc H (kNot Q)
  | .cmp op a b, loc, H, Q => wpE a loc H (kCmp (wpE b) op loc Q)
  | .cmp2 op1 op2 a b c, loc, H, Q => wpE a loc H fun x H => wpE b loc H fun y H => cmpW op1 x y H fun r H => (match r with
      | .bool t => bif t then wpE c loc H fun z H => cmpW op2 y z H Q else Q (.bool false) H
      | _ => False)
  | .ite c t e, loc, H, Q => wpE c loc H (kIte (wpE t) (wpE e) loc Q)
  | .tup es, loc, H, Q => wpEs es loc H (kTup Q)
  | .lst es, loc, H, Q => wpEs es loc H (kLst Q)
  | .att o a, loc, H, Q => wpE o loc H (kAtt a Q)
  | .idx o i, loc, H, Q => wpE o loc H (kIdx (wpE i) loc Q)
  | .slc o hi, loc, H, Q => wpE o loc H (kSlc (wpE hi) loc Q)
  | .call f es, loc, H, Q => wpEs es loc H (kCall C (.fn f) Q)
  | .mk c es, loc, H, Q => wpEs es loc H fun vs H => C (.mt (match c with | .maker => .makerInit | .thread => .threadInit)) (.obj H.length :: vs) (H ++ [.inst c []]) fun r H' => r = .none ∧ Q (.obj H.length) H'
  | .meth o m es, loc, H, Q => wpE o loc H (kMeth C (wpEs es) m loc Q)
  | .clo o es, loc, H, Q => wpE o loc H (kCloE C (wpEs es) loc Q)
  | .append o e, loc, H, Q => wpE o loc H (kApp (wpE e) loc Q)
  | .pop o k, loc, H, Q => wpE o loc H fun x H => objK x fun i => lisK H[i]? fun _ => wpE k loc H fun n H => intK n fun z => bif z == 2 then (lisK H[i]? fun l => consK l fun a r => consK r fun b r => consK r fun v r => r.length ≤ 100000 ∧ Q v (H.set i (.list (a :: b :: r)))) else False
  | .len e, loc, H, Q => wpE e loc H (kLen Q)
  | .int_ e, loc, H, Q => wpE e loc H (kInt Q)
  | .list_ e, loc, H, Q => wpE e loc H fun x H => (match x with
      | .scr => Q (.obj H.length) (H ++ [.list (scr.map V.int)])
      | .obj i => lisK H[i]? fun vs => vs.length ≤ 100000 ∧ Q (.obj H.length) (H ++ [.list vs])
      | _ => False)
  | .tuple_ e, loc, H, Q => wpE e loc H (kTuple Q)
  | .max1 e, loc, H, Q => wpE e loc H (kMax Q)
  | .max2 a b, loc, H, Q => wpE a loc H fun x H => wpE b loc H fun y H => intK x fun i => intK y fun j => Q (.int (max i j)) H
  | .sum_ e, loc, H, Q => wpE e loc H (kSum Q)
  | .isBool e, loc, H, Q => wpE e loc H fun x H => boolK x fun _ => Q (.bool true) H
  | .comp src tb x elt, loc, H, Q => wpE src loc H fun s H => itemsW s H fun vs => vs.length ≤ 100000 ∧ compW (stillW s vs) (fun v H k => wpE elt (setL (tb.map (getL' loc)) x v) H k) vs [] H fun acc H => Q (.obj H.length) (H ++ [.list acc])
  | .compR src tb x elt, loc, H, Q => wpE src loc H fun s H => intK s fun n => 0 ≤ n ∧ n ≤ 100000 ∧ compW (fun _ => True) (fun v H k => wpE elt (setL (tb.map (getL' loc)) x v) H k) (upTo n.toNat) [] H fun acc H => Q (.obj H.length) (H ++ [.list acc])
  | .dict0, _, H, Q => Q (.obj H.length) (H ++ [.dict0])
  | .callL i es, loc, H, Q => objK (getL' loc i) fun j => wpEs es loc H (kClo C j Q)
  | .any, _, _, _ => False
noncomputable def wpEs : Es → List V → Hp → (List V → Hp → Prop) → Prop
  | .nil, _, H, Q => Q [] H
  | .cons e es, loc, H, Q => wpE e loc H (kEs (wpEs es) loc Q)
end
noncomputable def forW (chk : Hp → Prop) (step : V → List V → Hp → (Fl → List V → Hp → Prop) → Prop) : List V → List V → Hp → (Fl → List V → Hp → Prop) → Prop
  | [], loc, H, Q => chk H ∧ Q .next loc H
  | x :: r, loc, H, Q => chk H ∧ step x loc H fun f loc H => (match f with
      | .next => forW chk step r loc H Q
      | .cont => forW chk step r loc H Q
      | .ret v => Q (.ret v) loc H)
noncomputable def asgIW (o i v : V) (H : Hp) (Q : Hp → Prop) : Prop := objK o fun j => intK i fun k => lisK H[j]? fun vs => 0 ≤ k ∧ k.toNat < vs.length ∧ small k = true ∧ Q (H.set j (.list (vs.set k.toNat v)))
noncomputable def asgAW (o : V) (a : At) (v : V) (H : Hp) (Q : Hp → Prop) : Prop := objK o fun j => insK H[j]? fun c fs => fs.length ≤ 100 ∧ Q (H.set j (.inst c (putF a v fs)))
abbrev WS := List V → Hp → (Fl → List V → Hp → Prop) → Prop
noncomputable def kAsg (i : Nat) (loc : List V) (Q : Fl → List V → Hp → Prop) : V → Hp → Prop := fun v H => Q .next (setL loc i v) H
noncomputable def kEx (loc : List V) (Q : Fl → List V → Hp → Prop) : V → Hp → Prop := fun _ H => Q .next loc H
noncomputable def kRet (loc : List V) (Q : Fl → List V → Hp → Prop) : V → Hp → Prop := fun v H => Q (.ret v) loc H
noncomputable def kIf (f g : WS) (loc : List V) (Q : Fl → List V → Hp → Prop) : V → Hp → Prop := fun x H => boolK x fun b => bif b then f loc H Q else g loc H Q
noncomputable def nextK (W : List V → Hp → (Fl → List V → Hp → Prop) → Prop) (Q : Fl → List V → Hp → Prop) : Fl → List V → Hp → Prop := fun f loc H => (match f with
      | .next => W loc H Q
      | .cont => Q .cont loc H
      | .ret v => Q (.ret v) loc H)
mutual
noncomputable def wpS : St → List V → Hp → (Fl → List V → Hp → Prop) → Prop
  | .asg i e, loc, H, Q => wpE C scr e loc H (kAsg i loc Q)
  | .asgC i src tb x elt, loc, H, Q => wpE C scr (.comp src tb x elt) loc H fun v H => Q .next (setL loc i v) H
  | .asg3 i j k e, loc, H, Q => wpE C scr e loc H fun v H => tupK v fun l => consK l fun a r => twoK r fun b c => Q .next (setL (setL (setL loc i a) j b) k c) H
  | .asgA o a e, loc, H, Q => wpE C scr e loc H fun v H => wpE C scr o loc H fun x H => asgAW x a v H fun H => Q .next loc H
  | .asgI o i e, loc, H, Q => wpE C scr e loc H fun v H => wpE C scr o loc H fun x H => wpE C scr i loc H fun y H => asgIW x y v H fun H => Q .next loc H
  | .augN i op e, loc, H, Q => intK (getL' loc i) fun a => wpE C scr e loc H fun v H => intK v fun b => optK (binI op a b) fun r => (op = .add ∨ op = .sub) ∧ Q .next (setL loc i (.int r)) H
  | .augA o a op e, loc, H, Q => wpE C scr o loc H fun x H => attW x a H fun old H => wpE C scr e loc H fun v H => intK old fun m => intK v fun n => optK (binI op m n) fun r => (op = .add ∨ op = .sub) ∧ asgAW x a (.int r) H fun H => Q .next loc H
  | .augI o i op e, loc, H, Q => wpE C scr o loc H fun x H => wpE C scr i loc H fun y H => idxW x y H fun old H => wpE C scr e loc H fun v H => intK old fun m => intK v fun n => optK (binI op m n) fun r => (op = .add ∨ op = .sub) ∧ asgIW x y (.int r) H fun H => Q .next loc H
  | .ex e, loc, H, Q => wpE C scr e loc H (kEx loc Q)
  | .ret e, loc, H, Q => wpE C scr e loc H (kRet loc Q)
  | .ret0, loc, H, Q => Q (.ret .none) loc H
  | .if_ c t e, loc, H, Q => wpE C scr c loc H (kIf (wpSs t) (wpSs e) loc Q)
  | .while_ c b, loc, H, Q => ∃ (I : Nat → List V → Hp → Prop) (n : Nat), I n loc H ∧ ∀ n loc H, I n loc H → wpE C scr c loc H fun x H => (match x with
      | .bool t => bif t then wpSs b loc H (fun f loc H => (match f with
          | .next => ∃ m, m < n ∧ I m loc H
          | .cont => ∃ m, m < n ∧ I m loc H
          | .ret v => Q (.ret v) loc H)) else Q .next loc H
      | _ => False)
  | .for_ i it b, loc, H, Q => wpE C scr it loc H fun s H => itemsW s H fun vs => forW (stillW s vs) (fun v loc H k => wpSs b (setL loc i v) H k) vs loc H Q
  | .forR i n b, loc, H, Q => wpE C scr n loc H fun s H => intK s fun n => 0 ≤ n ∧ n ≤ 100000 ∧ forW (fun _ => True) (fun v loc H k => wpSs b (setL loc i v) H k) (upTo n.toNat) loc H Q
  | .for2 i j it b, loc, H, Q => wpE C scr it loc H fun s H => itemsW s H fun vs => forW (stillW s vs) (fun v loc H k => tupK v fun l => twoK l fun x y => wpSs b (setL (setL loc i x) j y) H k) vs loc H Q
  | .cont, loc, H, Q => Q .cont loc H
  | .def_ i, loc, H, Q => objK (getL' loc 2) fun a => objK (getL' loc 3) fun b => Q .next (setL loc i (.obj H.length)) (H ++ [.clo (.obj a) (.obj b)])
noncomputable def wpSs : Ss → List V → Hp → (Fl → List V → Hp → Prop) → Prop
  | .any, _, _, _ => False
  | .nil, loc, H, Q => Q .next loc H
  | .cons s ss, loc, H, Q => wpS s loc H (nextK (wpSs ss) Q)
end
end
end Mine
namespace Mine
open PySem
noncomputable def t_mask : Ss := (.cons (.ret (.bin .sub (.bin .shl (.cI 1) (.loc 0)) (.cI 1))) .nil)
noncomputable def t_toInt : Ss := (.cons (.asg3 2 3 4 (.loc 0)) (.cons (.if_ (.cmp .ne (.loc 4) (.cI 0)) (.cons (.ret .cN) .nil) .nil) (.cons (.if_ (.and2 (.loc 1) (.cmp .eq (.bin .shr (.loc 3) (.bin .sub (.loc 2) (.cI 1))) (.cI 1))) (.cons (.ret (.bin .sub (.loc 3) (.bin .shl (.cI 1) (.loc 2)))) .nil) .nil) (.cons (.ret (.loc 3)) .nil))))
noncomputable def t_truth : Ss := (.cons (.if_ (.cmp .ne (.bin .band (.idx (.loc 0) (.cI 1)) (.bin .bxor (.idx (.loc 0) (.cI 2)) (.call .mask (.cons (.idx (.loc 0) (.cI 0)) .nil)))) (.cI 0)) (.cons (.ret (.cI 1)) .nil) .nil) (.cons (.if_ (.and2 (.cmp .eq (.idx (.loc 0) (.cI 1)) (.cI 0)) (.cmp .eq (.idx (.loc 0) (.cI 2)) (.cI 0))) (.cons (.ret (.cI 0)) .nil) .nil) (.cons (.ret (.cI 3)) .nil)))
noncomputable def t_matches : Ss := (.cons (.asg 3 (.cI 0)) (.cons (.if_ (.cmp .eq (.loc 0) (.cS .kCasez)) (.cons (.asg 3 (.bin .bor (.bin .band (.idx (.loc 1) (.cI 2)) (.bin .bxor (.idx (.loc 1) (.cI 2)) (.idx (.loc 1) (.cI 1)))) (.bin .band (.idx (.loc 2) (.cI 2)) (.bin .bxor (.idx (.loc 2) (.cI 2)) (.idx (.loc 2) (.cI 1)))))) .nil) (.cons (.if_ (.cmp .eq (.loc 0) (.cS .kCasex)) (.cons (.asg 3 (.bin .bor (.idx (.loc 1) (.cI 2)) (.idx (.loc 2) (.cI 2)))) .nil) .nil) .nil)) (.cons (.asg 4 (.bin .bxor (.call .mask (.cons (.idx (.loc 1) (.cI 0)) .nil)) (.loc 3))) (.cons (.ret (.and2 (.cmp .eq (.bin .band (.bin .bxor (.idx (.loc 1) (.cI 1)) (.idx (.loc 2) (.cI 1))) (.loc 4)) (.cI 0)) (.cmp .eq (.bin .band (.bin .bxor (.idx (.loc 1) (.cI 2)) (.idx (.loc 2) (.cI 2))) (.loc 4)) (.cI 0)))) .nil))))
noncomputable def t_performFlow : Ss := (.cons (.asg 3 (.idx (.loc 2) (.cI 0))) (.cons (.if_ (.cmp .eq (.loc 3) (.cS .kJump)) (.cons (.asgA (.loc 1) .pc (.idx (.loc 2) (.cI 1))) .nil) (.cons (.if_ (.cmp .eq (.loc 3) (.cS .kUnless)) (.cons (.if_ (.cmp .ne (.call .truth (.cons (.clo (.loc 0) (.cons (.loc 1) (.cons (.idx (.loc 2) (.cI 1)) .nil))) .nil)) (.cI 1)) (.cons (.asgA (.loc 1) .pc (.idx (.loc 2) (.cI 2))) .nil) .nil) .nil) (.cons (.if_ (.cmp .eq (.loc 3) (.cS .kMatch)) (.cons (.if_ (.call .matches (.cons (.idx (.loc 2) (.cI 1)) (.cons (.clo (.loc 0) (.cons (.loc 1) (.cons (.idx (.loc 2) (.cI 2)) .nil))) (.cons (.clo (.loc 0) (.cons (.loc 1) (.cons (.idx (.loc 2) (.cI 3)) .nil))) .nil)))) (.cons (.asgA (.loc 1) .pc (.idx (.loc 2) (.cI 4))) .nil) .nil) .nil) (.cons (.if_ (.cmp .eq (.loc 3) (.cS .kTimes)) (.cons (.asg 4 (.call .toInt (.cons (.clo (.loc 0) (.cons (.loc 1) (.cons (.idx (.loc 2) (.cI 2)) .nil))) (.cons (.idx (.loc 2) (.cI 3)) .nil)))) (.cons (.asgI (.att (.loc 1) .frame) (.idx (.loc 2) (.cI 1)) (.ite (.cmp .is (.loc 4) .cN) (.cI 0) (.max2 (.loc 4) (.cI 0)))) .nil)) (.cons (.if_ (.cmp .eq (.loc 3) (.cS .kAgain)) (.cons (.if_ (.cmp .eq (.idx (.att (.loc 1) .frame) (.idx (.loc 2) (.cI 1))) (.cI 0)) (.cons (.asgA (.loc 1) .pc (.idx (.loc 2) (.cI 2))) .nil) (.cons (.augI (.att (.loc 1) .frame) (.idx (.loc 2) (.cI 1)) .sub (.cI 1)) .nil)) .nil) (.cons (.ret (.cB false)) .nil)) .nil)) .nil)) .nil)) .nil)) (.cons (.ret (.cB true)) .nil)))
noncomputable def t_makerInit : Ss := (.cons (.asgA (.loc 0) .slots (.loc 1)) (.cons (.asgA (.loc 0) .code (.lst .nil)) .nil))
noncomputable def t_emit : Ss := (.cons (.ex (.append (.att (.loc 0) .code) (.loc 1))) (.cons (.ret (.bin .sub (.len (.att (.loc 0) .code)) (.cI 1))) .nil))
noncomputable def t_here : Ss := (.cons (.ret (.len (.att (.loc 0) .code))) .nil)
noncomputable def t_newSlot : Ss := (.cons (.asg 1 (.att (.loc 0) .slots)) (.cons (.augA (.loc 0) .slots .add (.cI 1)) (.cons (.ret (.loc 1)) .nil)))
noncomputable def t_aim : Ss := (.cons (.asg 2 (.idx (.att (.loc 0) .code) (.loc 1))) (.cons (.if_ (.cmp .eq (.idx (.loc 2) (.cI 0)) (.cS .kEnter)) (.cons (.asgI (.att (.loc 0) .code) (.loc 1) (.tup (.cons (.cS .kEnter) (.cons (.idx (.loc 2) (.cI 1)) (.cons (.meth (.loc 0) .here .nil) .nil))))) .nil) (.cons (.asgI (.att (.loc 0) .code) (.loc 1) (.bin .add (.slc (.loc 2) (.neg (.cI 1))) (.tup (.cons (.meth (.loc 0) .here .nil) .nil)))) .nil)) .nil))
noncomputable def t_assignment : Ss := (.cons (.if_ (.cmp .is (.idx (.loc 1) (.cI 3)) .cN) (.cons (.ex (.meth (.loc 0) .emit (.cons (.tup (.cons (.cS .kSet) (.cons (.idx (.loc 1) (.cI 1)) (.cons (.idx (.loc 1) (.cI 2)) .nil)))) .nil))) (.cons .ret0 .nil)) .nil) (.cons (.asg 2 (.meth (.loc 0) .newSlot .nil)) (.cons (.ex (.meth (.loc 0) .emit (.cons (.tup (.cons (.cS .kSave) (.cons (.loc 2) (.cons (.idx (.loc 1) (.cI 2)) .nil)))) .nil))) .any)))
noncomputable def t_branch : Ss := (.cons (.asg 2 (.meth (.loc 0) .emit (.cons (.tup (.cons (.cS .kUnless) (.cons (.idx (.loc 1) (.cI 1)) (.cons (.neg (.cI 1)) .nil)))) .nil))) (.cons (.ex (.meth (.loc 0) .make (.cons (.idx (.loc 1) (.cI 2)) .nil))) (.cons (.if_ (.cmp .is (.idx (.loc 1) (.cI 3)) .cN) (.cons (.ex (.meth (.loc 0) .aim (.cons (.loc 2) .nil))) (.cons .ret0 .nil)) .nil) (.cons (.asg 3 (.meth (.loc 0) .emit (.cons (.tup (.cons (.cS .kJump) (.cons (.neg (.cI 1)) .nil))) .nil))) (.cons (.ex (.meth (.loc 0) .aim (.cons (.loc 2) .nil))) (.cons (.ex (.meth (.loc 0) .make (.cons (.idx (.loc 1) (.cI 3)) .nil))) (.cons (.ex (.meth (.loc 0) .aim (.cons (.loc 3) .nil))) .nil)))))))
noncomputable def t_selection : Ss := (.cons (.asg 2 (.idx (.loc 1) (.cI 2))) (.cons (.if_ (.cmp .ne (.idx (.loc 2) (.cI 0)) (.cS .kConst)) (.cons (.asg 3 (.meth (.loc 0) .newSlot .nil)) (.cons (.ex (.meth (.loc 0) .emit (.cons (.tup (.cons (.cS .kSave) (.cons (.loc 3) (.cons (.loc 2) .nil)))) .nil))) (.cons (.asg 2 (.tup (.cons (.cS .kLocal) (.cons (.idx (.loc 2) (.cI 1)) (.cons (.loc 3) .nil))))) .nil))) .nil) (.cons (.asg 4 (.lst .nil)) (.cons (.asg 5 .cN) (.cons (.for2 6 7 (.idx (.loc 1) (.cI 3)) (.cons (.if_ (.cmp .is (.loc 6) .cN) (.cons (.asg 5 (.loc 7)) (.cons .cont .nil)) .nil) (.cons (.asg 8 (.lst .nil)) (.cons (.for_ 9 (.loc 6) (.cons (.ex (.append (.loc 8) (.meth (.loc 0) .emit (.cons (.tup (.cons (.cS .kMatch) (.cons (.idx (.loc 1) (.cI 1)) (.cons (.loc 2) (.cons (.loc 9) (.cons (.neg (.cI 1)) .nil)))))) .nil)))) .nil)) (.cons (.ex (.append (.loc 4) (.tup (.cons (.loc 8) (.cons (.loc 7) .nil))))) .nil))))) (.cons (.ex (.meth (.loc 0) .make (.cons (.loc 5) .nil))) (.cons (.asg 10 (.lst (.cons (.meth (.loc 0) .emit (.cons (.tup (.cons (.cS .kJump) (.cons (.neg (.cI 1)) .nil))) .nil)) .nil))) (.cons (.for2 8 7 (.loc 4) (.cons (.for_ 11 (.loc 8) (.cons (.ex (.meth (.loc 0) .aim (.cons (.loc 11) .nil))) .nil)) (.cons (.ex (.meth (.loc 0) .make (.cons (.loc 7) .nil))) (.cons (.ex (.append (.loc 10) (.meth (.loc 0) .emit (.cons (.tup (.cons (.cS .kJump) (.cons (.neg (.cI 1)) .nil))) .nil)))) .nil)))) (.cons (.for_ 11 (.loc 10) (.cons (.ex (.meth (.loc 0) .aim (.cons (.loc 11) .nil))) .nil)) .nil)))))))))
noncomputable def t_loop : Ss := (.cons (.asg 4 (.meth (.loc 0) .here .nil)) (.cons (.asg 5 (.meth (.loc 0) .emit (.cons (.tup (.cons (.cS .kUnless) (.cons (.loc 1) (.cons (.neg (.cI 1)) .nil)))) .nil))) (.cons (.ex (.meth (.loc 0) .make (.cons (.loc 2) .nil))) (.cons (.ex (.meth (.loc 0) .make (.cons (.loc 3) .nil))) (.cons (.ex (.meth (.loc 0) .emit (.cons (.tup (.cons (.cS .kJump) (.cons (.loc 4) .nil))) .nil))) (.cons (.ex (.meth (.loc 0) .aim (.cons (.loc 5) .nil))) .nil))))))
noncomputable def t_repetition : Ss := (.cons (.asg 2 (.meth (.loc 0) .newSlot .nil)) (.cons (.ex (.meth (.loc 0) .emit (.cons (.tup (.cons (.cS .kTimes) (.cons (.loc 2) (.cons (.idx (.loc 1) (.cI 1)) (.cons (.idx (.loc 1) (.cI 2)) .nil))))) .nil))) (.cons (.asg 3 (.meth (.loc 0) .emit (.cons (.tup (.cons (.cS .kAgain) (.cons (.loc 2) (.cons (.neg (.cI 1)) .nil)))) .nil))) (.cons (.ex (.meth (.loc 0) .make (.cons (.idx (.loc 1) (.cI 3)) .nil))) (.cons (.ex (.meth (.loc 0) .emit (.cons (.tup (.cons (.cS .kJump) (.cons (.loc 3) .nil))) .nil))) (.cons (.ex (.meth (.loc 0) .aim (.cons (.loc 3) .nil))) .nil))))))
noncomputable def t_scoped : Ss := (.cons (.if_ (.cmp .lt (.loc 1) (.cI 0)) (.cons (.ret (.neg (.cI 1))) .nil) .nil) (.cons (.ret (.meth (.loc 0) .emit (.cons (.tup (.cons (.cS .kEnter) (.cons (.loc 1) (.cons (.neg (.cI 1)) .nil)))) .nil))) .nil))
noncomputable def t_close : Ss := (.cons (.if_ (.cmp .ge (.loc 1) (.cI 0)) (.cons (.ex (.meth (.loc 0) .emit (.cons (.tup (.cons (.cS .kLeave) (.cons (.loc 2) .nil))) .nil))) (.cons (.ex (.meth (.loc 0) .aim (.cons (.loc 1) .nil))) .nil)) .nil) .nil)
noncomputable def t_block : Ss := (.cons (.asg 2 (.meth (.loc 0) .scoped (.cons (.idx (.loc 1) (.cI 2)) .nil))) (.cons (.for_ 3 (.idx (.loc 1) (.cI 1)) (.cons (.ex (.meth (.loc 0) .make (.cons (.loc 3) .nil))) .nil)) (.cons (.ex (.meth (.loc 0) .close (.cons (.loc 2) (.cons (.idx (.loc 1) (.cI 2)) .nil)))) .nil)))
noncomputable def t_looping : Ss := (.cons (.if_ (.cmp .eq (.idx (.loc 1) (.cI 0)) (.cS .kFor)) (.cons (.ex (.meth (.loc 0) .make (.cons (.idx (.loc 1) (.cI 1)) .nil))) (.cons (.ex (.meth (.loc 0) .loop (.cons (.idx (.loc 1) (.cI 2)) (.cons (.idx (.loc 1) (.cI 4)) (.cons (.idx (.loc 1) (.cI 3)) .nil))))) .nil)) (.cons (.if_ (.cmp .eq (.idx (.loc 1) (.cI 0)) (.cS .kWhile)) (.cons (.ex (.meth (.loc 0) .loop (.cons (.idx (.loc 1) (.cI 1)) (.cons (.idx (.loc 1) (.cI 2)) (.cons .cN .nil))))) .nil) (.cons (.if_ (.cmp .eq (.idx (.loc 1) (.cI 0)) (.cS .kRepeat)) (.cons (.ex (.meth (.loc 0) .repetition (.cons (.loc 1) .nil))) .nil) (.cons (.asg 2 (.meth (.loc 0) .here .nil)) (.cons (.ex (.meth (.loc 0) .make (.cons (.idx (.loc 1) (.cI 1)) .nil))) (.cons (.ex (.meth (.loc 0) .emit (.cons (.tup (.cons (.cS .kJump) (.cons (.loc 2) .nil))) .nil))) .nil)))) .nil)) .nil)) .nil)
noncomputable def t_make : Ss := (.cons (.if_ (.cmp .is (.loc 1) .cN) (.cons .ret0 .nil) .nil) (.cons (.asg 2 (.idx (.loc 1) (.cI 0))) (.cons (.if_ (.cmp .eq (.loc 2) (.cS .kSet)) (.cons (.ex (.meth (.loc 0) .assignment (.cons (.loc 1) .nil))) .nil) (.cons (.if_ (.cmp .eq (.loc 2) (.cS .kNba)) .any (.cons (.if_ (.cmp .eq (.loc 2) (.cS .kIf)) (.cons (.ex (.meth (.loc 0) .branch (.cons (.loc 1) .nil))) .nil) (.cons (.if_ (.cmp .eq (.loc 2) (.cS .kCase)) (.cons (.ex (.meth (.loc 0) .selection (.cons (.loc 1) .nil))) .nil) (.cons (.if_ (.cmp .eq (.loc 2) (.cS .kBlock)) (.cons (.ex (.meth (.loc 0) .block (.cons (.loc 1) .nil))) .nil) (.cons (.if_ (.cmp .eq (.loc 2) (.cS .kFork)) .any (.cons (.if_ (.cmp .in_ (.loc 2) (.tup (.cons (.cS .kFor) (.cons (.cS .kWhile) (.cons (.cS .kRepeat) (.cons (.cS .kForever) .nil)))))) (.cons (.ex (.meth (.loc 0) .looping (.cons (.loc 1) .nil))) .nil) (.cons (.if_ (.cmp .in_ (.loc 2) (.tup (.cons (.cS .kDelay) (.cons (.cS .kAwait) (.cons (.cS .kWait) .nil))))) .any (.cons (.ex (.meth (.loc 0) .emit (.cons (.loc 1) .nil))) .nil)) .nil)) .nil)) .nil)) .nil)) .nil)) .nil)) .nil)) .nil)))
noncomputable def t_threadInit : Ss := (.cons (.asgA (.loc 0) .number (.loc 1)) (.cons (.asgA (.loc 0) .code (.loc 2)) (.cons (.asgA (.loc 0) .pc (.loc 3)) (.cons (.asgA (.loc 0) .frame (.loc 4)) (.cons (.asgA (.loc 0) .path (.loc 5)) (.cons (.asgA (.loc 0) .calls (.lst .nil)) (.cons (.asgA (.loc 0) .scopes (.lst .nil)) (.cons (.asgA (.loc 0) .parent (.neg (.cI 1))) (.cons (.asgA (.loc 0) .children .dict0) (.cons (.asgA (.loc 0) .done (.cB false)) (.cons (.asgA (.loc 0) .wait .cN) (.cons (.asgA (.loc 0) .stamp (.cI 0)) (.cons (.asgA (.loc 0) .looking (.cB false)) (.cons (.asgA (.loc 0) .again (.cB false)) .nil))))))))))))))
noncomputable def t_bag : Ss := (.cons (.asg 1 (.lst (.cons (.cI 0) (.cons (.cI 1) .nil)))) (.cons (.for_ 2 (.slc (.list_ (.loc 0)) (.cI 20)) (.cons (.ex (.append (.loc 1) (.int_ (.loc 2)))) (.cons (.asgI (.loc 1) (.cI 1) (.bin .fmod (.bin .add (.bin .add (.bin .mul (.idx (.loc 1) (.cI 1)) (.cI 31)) (.bin .fmod (.int_ (.loc 2)) (.cI 9973))) (.cI 1)) (.cI 1000003))) .nil))) (.cons (.ret (.loc 1)) .nil)))
noncomputable def t_pull : Ss := (.cons (.if_ (.cmp .eq (.idx (.loc 0) (.cI 0)) (.cI 0)) (.cons (.if_ (.cmp .gt (.len (.loc 0)) (.cI 2)) (.cons (.asg 2 (.pop (.loc 0) (.cI 2))) (.cons (.asgI (.loc 0) (.cI 0) (.ite (.cmp .ge (.loc 2) (.cI 0)) (.bin .mul (.cI 2) (.loc 2)) (.bin .sub (.bin .mul (.neg (.cI 2)) (.loc 2)) (.cI 1)))) .nil)) (.cons (.asgI (.loc 0) (.cI 1) (.bin .fmod (.bin .add (.bin .mul (.idx (.loc 0) (.cI 1)) (.cI 69069)) (.cI 12345)) (.cI 4294967296))) (.cons (.asgI (.loc 0) (.cI 0) (.bin .fdiv (.idx (.loc 0) (.cI 1)) (.cI 16))) .nil))) .nil) .nil) (.cons (.asg 3 (.bin .fmod (.int_ (.idx (.loc 0) (.cI 0))) (.loc 1))) (.cons (.asgI (.loc 0) (.cI 0) (.bin .fdiv (.idx (.loc 0) (.cI 0)) (.loc 1))) (.cons (.ret (.loc 3)) .nil))))
noncomputable def t_word : Ss := (.cons (.if_ (.cmp .eq (.call .pull (.cons (.loc 0) (.cons (.cI 2) .nil))) (.cI 0)) (.cons (.ret (.tup (.cons (.cS .kVar) (.cons (.cI 3) (.cons (.call .pull (.cons (.loc 0) (.cons (.cI 3) .nil))) (.cons (.call .pull (.cons (.loc 0) (.cons (.cI 8) .nil))) .nil)))))) .nil) .nil) (.cons (.asg 1 (.ite (.cmp .eq (.call .pull (.cons (.loc 0) (.cons (.cI 3) .nil))) (.cI 0)) (.call .pull (.cons (.loc 0) (.cons (.cI 8) .nil))) (.cI 0))) (.cons (.ret (.tup (.cons (.cS .kConst) (.cons (.cI 3) (.cons (.call .pull (.cons (.loc 0) (.cons (.cI 8) .nil))) (.cons (.loc 1) .nil)))))) .nil)))
noncomputable def t_test : Ss := (.cons (.asg 1 (.call .pull (.cons (.loc 0) (.cons (.cI 5) .nil)))) (.cons (.if_ (.cmp .eq (.loc 1) (.cI 0)) (.cons (.ret (.tup (.cons (.cS .kVar) (.cons (.cI 3) (.cons (.call .pull (.cons (.loc 0) (.cons (.cI 3) .nil))) (.cons (.cI 0) .nil)))))) .nil) .nil) (.cons (.if_ (.cmp .eq (.loc 1) (.cI 1)) (.cons (.ret (.tup (.cons (.cS .kConst) (.cons (.cI 1) (.cons (.call .pull (.cons (.loc 0) (.cons (.cI 2) .nil))) (.cons (.call .pull (.cons (.loc 0) (.cons (.cI 2) .nil))) .nil)))))) .nil) .nil) (.cons (.ret (.tup (.cons (.cS .kBelow) (.cons (.cI 1) (.cons (.call .pull (.cons (.loc 0) (.cons (.cI 3) .nil))) (.cons (.call .pull (.cons (.loc 0) (.cons (.cI 8) .nil))) .nil)))))) .nil))))
noncomputable def t_store : Ss := (.cons (.asg 1 (.call .pull (.cons (.loc 0) (.cons (.cI 3) .nil)))) (.cons (.ret (.tup (.cons (.cS .kSet) (.cons (.loc 1) (.cons (.call .word (.cons (.loc 0) .nil)) (.cons .cN .nil)))))) .nil))
noncomputable def t_case : Ss := (.cons (.asg 3 (.idx (.tup (.cons (.cS .kCase) (.cons (.cS .kCasez) (.cons (.cS .kCasex) .nil)))) (.call .pull (.cons (.loc 0) (.cons (.cI 3) .nil))))) (.cons (.asg 4 (.call .word (.cons (.loc 0) .nil))) (.cons (.asg 5 (.bin .add (.cI 1) (.call .pull (.cons (.loc 0) (.cons (.cI 2) .nil))))) (.cons (.asg 6 (.call .pull (.cons (.loc 0) (.cons (.bin .add (.loc 5) (.cI 2)) .nil)))) (.cons (.asg 7 (.lst .nil)) (.cons (.forR 8 (.loc 5) (.cons (.if_ (.cmp .eq (.loc 8) (.loc 6)) (.cons (.ex (.append (.loc 7) (.tup (.cons .cN (.cons (.call .tree (.cons (.loc 0) (.cons (.loc 1) (.cons (.loc 2) .nil)))) .nil))))) .nil) .nil) (.cons (.asg 9 (.lst (.cons (.call .word (.cons (.loc 0) .nil)) .nil))) (.cons (.if_ (.cmp .eq (.call .pull (.cons (.loc 0) (.cons (.cI 2) .nil))) (.cI 0)) (.cons (.ex (.append (.loc 9) (.call .word (.cons (.loc 0) .nil)))) .nil) .nil) (.cons (.ex (.append (.loc 7) (.tup (.cons (.tuple_ (.loc 9)) (.cons (.call .tree (.cons (.loc 0) (.cons (.loc 1) (.cons (.loc 2) .nil)))) .nil))))) .nil))))) (.cons (.if_ (.cmp .eq (.loc 6) (.loc 5)) (.cons (.ex (.append (.loc 7) (.tup (.cons .cN (.cons (.call .tree (.cons (.loc 0) (.cons (.loc 1) (.cons (.loc 2) .nil)))) .nil))))) .nil) .nil) (.cons (.ret (.tup (.cons (.cS .kCase) (.cons (.loc 3) (.cons (.loc 4) (.cons (.tuple_ (.loc 7)) .nil)))))) .nil))))))))
noncomputable def t_tree : Ss := (.cons (.if_ (.cmp .eq (.idx (.loc 2) (.cI 0)) (.cI 0)) (.cons (.ret .cN) .nil) .nil) (.cons (.augI (.loc 2) (.cI 0) .sub (.cI 1)) (.cons (.asg 3 (.call .pull (.cons (.loc 0) (.cons (.cI 12) .nil)))) (.cons (.if_ (.cmp .eq (.loc 1) (.cI 0)) (.cons (.asg 3 (.bin .fmod (.loc 3) (.cI 3))) .nil) .nil) (.cons (.if_ (.cmp .eq (.loc 3) (.cI 0)) (.cons (.ret .cN) .nil) .nil) (.cons (.if_ (.cmp .lt (.loc 3) (.cI 3)) (.cons (.ret (.call .store (.cons (.loc 0) .nil))) .nil) .nil) (.cons (.if_ (.cmp .lt (.loc 3) (.cI 5)) (.cons (.asg 4 (.call .test (.cons (.loc 0) .nil))) (.cons (.asg 5 (.call .tree (.cons (.loc 0) (.cons (.bin .sub (.loc 1) (.cI 1)) (.cons (.loc 2) .nil))))) (.cons (.ret (.tup (.cons (.cS .kIf) (.cons (.loc 4) (.cons (.loc 5) (.cons (.call .tree (.cons (.loc 0) (.cons (.bin .sub (.loc 1) (.cI 1)) (.cons (.loc 2) .nil)))) .nil)))))) .nil))) .nil) (.cons (.if_ (.cmp .lt (.loc 3) (.cI 7)) (.cons (.ret (.call .case (.cons (.loc 0) (.cons (.bin .sub (.loc 1) (.cI 1)) (.cons (.loc 2) .nil))))) .nil) .nil) (.cons (.if_ (.cmp .eq (.loc 3) (.cI 7)) (.cons (.asg 5 (.call .store (.cons (.loc 0) .nil))) (.cons (.asg 4 (.call .test (.cons (.loc 0) .nil))) (.cons (.asg 6 (.call .store (.cons (.loc 0) .nil))) (.cons (.ret (.tup (.cons (.cS .kFor) (.cons (.loc 5) (.cons (.loc 4) (.cons (.loc 6) (.cons (.call .tree (.cons (.loc 0) (.cons (.bin .sub (.loc 1) (.cI 1)) (.cons (.loc 2) .nil)))) .nil))))))) .nil)))) .nil) (.cons (.if_ (.cmp .eq (.loc 3) (.cI 8)) (.cons (.asg 4 (.call .test (.cons (.loc 0) .nil))) (.cons (.ret (.tup (.cons (.cS .kWhile) (.cons (.loc 4) (.cons (.call .tree (.cons (.loc 0) (.cons (.bin .sub (.loc 1) (.cI 1)) (.cons (.loc 2) .nil)))) .nil))))) .nil)) .nil) (.cons (.if_ (.cmp .eq (.loc 3) (.cI 9)) (.cons (.asg 7 (.call .word (.cons (.loc 0) .nil))) (.cons (.ret (.tup (.cons (.cS .kRepeat) (.cons (.loc 7) (.cons (.cmp .eq (.call .pull (.cons (.loc 0) (.cons (.cI 2) .nil))) (.cI 0)) (.cons (.call .tree (.cons (.loc 0) (.cons (.bin .sub (.loc 1) (.cI 1)) (.cons (.loc 2) .nil)))) .nil)))))) .nil)) .nil) (.cons (.if_ (.cmp .eq (.loc 3) (.cI 10)) (.cons (.asg 5 (.call .tree (.cons (.loc 0) (.cons (.bin .sub (.loc 1) (.cI 1)) (.cons (.loc 2) .nil))))) (.cons (.ret (.tup (.cons (.cS .kBlock) (.cons (.tup (.cons (.loc 5) (.cons (.call .tree (.cons (.loc 0) (.cons (.bin .sub (.loc 1) (.cI 1)) (.cons (.loc 2) .nil)))) .nil))) (.cons (.neg (.cI 1)) .nil))))) .nil)) .nil) (.cons (.ret (.tup (.cons (.cS .kForever) (.cons (.call .tree (.cons (.loc 0) (.cons (.bin .sub (.loc 1) (.cI 1)) (.cons (.loc 2) .nil)))) .nil)))) .nil)))))))))))))
noncomputable def t_fixed : Ss := (.cons (.asg 0 (.tup (.cons (.cS .kSet) (.cons (.cI 0) (.cons (.tup (.cons (.cS .kVar) (.cons (.cI 3) (.cons (.cI 0) (.cons (.cI 1) .nil))))) (.cons .cN .nil)))))) (.cons (.ret (.tup (.cons (.cS .kBlock) (.cons (.tup (.cons (.tup (.cons (.cS .kSet) (.cons (.cI 0) (.cons (.tup (.cons (.cS .kConst) (.cons (.cI 3) (.cons (.cI 0) (.cons (.cI 0) .nil))))) (.cons .cN .nil))))) (.cons (.tup (.cons (.cS .kFor) (.cons (.tup (.cons (.cS .kSet) (.cons (.cI 1) (.cons (.tup (.cons (.cS .kConst) (.cons (.cI 3) (.cons (.cI 6) (.cons (.cI 0) .nil))))) (.cons .cN .nil))))) (.cons (.tup (.cons (.cS .kBelow) (.cons (.cI 1) (.cons (.cI 1) (.cons (.cI 7) .nil))))) (.cons (.tup (.cons (.cS .kSet) (.cons (.cI 1) (.cons (.tup (.cons (.cS .kVar) (.cons (.cI 3) (.cons (.cI 1) (.cons (.cI 1) .nil))))) (.cons .cN .nil))))) (.cons (.loc 0) .nil)))))) (.cons (.tup (.cons (.cS .kRepeat) (.cons (.tup (.cons (.cS .kConst) (.cons (.cI 3) (.cons (.cI 4) (.cons (.cI 0) .nil))))) (.cons (.cB true) (.cons (.loc 0) .nil))))) (.cons (.tup (.cons (.cS .kRepeat) (.cons (.tup (.cons (.cS .kConst) (.cons (.cI 3) (.cons (.cI 4) (.cons (.cI 0) .nil))))) (.cons (.cB false) (.cons (.loc 0) .nil))))) (.cons (.tup (.cons (.cS .kIf) (.cons (.tup (.cons (.cS .kConst) (.cons (.cI 1) (.cons (.cI 1) (.cons (.cI 1) .nil))))) (.cons .cN (.cons (.tup (.cons (.cS .kSet) (.cons (.cI 2) (.cons (.tup (.cons (.cS .kConst) (.cons (.cI 3) (.cons (.cI 2) (.cons (.cI 0) .nil))))) (.cons .cN .nil))))) .nil))))) (.cons (.tup (.cons (.cS .kCase) (.cons (.cS .kCasez) (.cons (.tup (.cons (.cS .kVar) (.cons (.cI 3) (.cons (.cI 2) (.cons (.cI 0) .nil))))) (.cons (.tup (.cons (.tup (.cons .cN (.cons (.tup (.cons (.cS .kSet) (.cons (.cI 1) (.cons (.tup (.cons (.cS .kConst) (.cons (.cI 3) (.cons (.cI 7) (.cons (.cI 0) .nil))))) (.cons .cN .nil))))) .nil))) (.cons (.tup (.cons (.tup (.cons (.tup (.cons (.cS .kConst) (.cons (.cI 3) (.cons (.cI 4) (.cons (.cI 3) .nil))))) (.cons (.tup (.cons (.cS .kVar) (.cons (.cI 3) (.cons (.cI 0) (.cons (.cI 1) .nil))))) .nil))) (.cons .cN .nil))) (.cons (.tup (.cons (.tup (.cons (.tup (.cons (.cS .kConst) (.cons (.cI 3) (.cons (.cI 2) (.cons (.cI 5) .nil))))) .nil)) (.cons (.loc 0) .nil))) .nil)))) .nil))))) .nil))))))) (.cons (.neg (.cI 1)) .nil))))) .nil))
noncomputable def t_codes : Ss := (.cons (.if_ (.cmp .eq (.idx (.loc 0) (.cI 0)) (.cS .kConst)) (.cons (.ret (.compR (.idx (.loc 0) (.cI 1)) [0] 1 (.bin .add (.bin .fmod (.int_ (.bin .shr (.idx (.loc 0) (.cI 2)) (.loc 1))) (.cI 2)) (.bin .mul (.cI 2) (.bin .fmod (.int_ (.bin .shr (.idx (.loc 0) (.cI 3)) (.loc 1))) (.cI 2)))))) .nil) .nil) (.cons (.asg 2 (.idx (.loc 1) (.idx (.loc 0) (.cI 2)))) (.cons (.if_ (.and2 (.cmp .eq (.idx (.loc 0) (.cI 0)) (.cS .kVar)) (.cmp .eq (.idx (.loc 0) (.cI 3)) (.cI 0))) (.cons (.ret (.list_ (.loc 2))) .nil) .nil) (.cons (.if_ (.cmp .gt (.max1 (.loc 2)) (.cI 1)) (.cons (.ret (.bin .mul (.lst (.cons (.cI 3) .nil)) (.idx (.loc 0) (.cI 1)))) .nil) .nil) (.cons (.asg 3 (.bin .add (.bin .add (.idx (.loc 2) (.cI 0)) (.bin .mul (.cI 2) (.idx (.loc 2) (.cI 1)))) (.bin .mul (.cI 4) (.idx (.loc 2) (.cI 2))))) (.cons (.if_ (.cmp .eq (.idx (.loc 0) (.cI 0)) (.cS .kBelow)) (.cons (.ret (.lst (.cons (.ite (.cmp .lt (.loc 3) (.idx (.loc 0) (.cI 3))) (.cI 1) (.cI 0)) .nil))) .nil) .nil) (.cons (.asg 3 (.bin .fmod (.int_ (.bin .add (.loc 3) (.idx (.loc 0) (.cI 3)))) (.cI 8))) (.cons (.ret (.lst (.cons (.bin .fmod (.int_ (.loc 3)) (.cI 2)) (.cons (.bin .fmod (.int_ (.bin .fdiv (.loc 3) (.cI 2))) (.cI 2)) (.cons (.bin .fdiv (.loc 3) (.cI 4)) .nil))))) .nil))))))))
noncomputable def t_seen : Ss := (.cons (.asg 3 (.call .codes (.cons (.loc 0) (.cons (.loc 1) .nil)))) (.cons (.if_ (.cmp .ne (.idx (.loc 0) (.cI 0)) (.cS .kConst)) (.cons (.ex (.append (.loc 2) (.tup (.cons (.loc 0) (.cons (.tuple_ (.loc 3)) .nil))))) .nil) .nil) (.cons (.ret (.loc 3)) .nil)))
noncomputable def t_alike : Ss := (.cons (.forR 3 (.len (.loc 1)) (.cons (.asg 4 (.tup (.cons (.idx (.loc 1) (.loc 3)) (.cons (.idx (.loc 2) (.loc 3)) .nil)))) (.cons (.if_ (.and2 (.cmp .eq (.loc 0) (.cS .kCasex)) (.cmp .gt (.max1 (.loc 4)) (.cI 1))) (.cons .cont .nil) .nil) (.cons (.if_ (.and2 (.cmp .eq (.loc 0) (.cS .kCasez)) (.cmp .in_ (.cI 2) (.loc 4))) (.cons .cont .nil) .nil) (.cons (.if_ (.cmp .ne (.idx (.loc 1) (.loc 3)) (.idx (.loc 2) (.loc 3))) (.cons (.ret (.cB false)) .nil) .nil) .nil))))) (.cons (.ret (.cB true)) .nil))
noncomputable def t_count : Ss := (.cons (.if_ (.cmp .gt (.max1 (.loc 0)) (.cI 1)) (.cons (.ret (.cI 0)) .nil) .nil) (.cons (.if_ (.and2 (.loc 1) (.cmp .eq (.idx (.loc 0) (.cI 2)) (.cI 1))) (.cons (.ret (.cI 0)) .nil) .nil) (.cons (.ret (.bin .add (.bin .add (.idx (.loc 0) (.cI 0)) (.bin .mul (.cI 2) (.idx (.loc 0) (.cI 1)))) (.bin .mul (.cI 4) (.idx (.loc 0) (.cI 2))))) .nil)))
noncomputable def t_chosen : Ss := (.cons (.asg 3 (.call .seen (.cons (.idx (.loc 0) (.cI 2)) (.cons (.loc 1) (.cons (.loc 2) .nil))))) (.cons (.asg 4 .cN) (.cons (.for2 5 6 (.idx (.loc 0) (.cI 3)) (.cons (.if_ (.cmp .is (.loc 5) .cN) (.cons (.asg 4 (.loc 6)) (.cons .cont .nil)) .nil) (.cons (.for_ 7 (.loc 5) (.cons (.if_ (.call .alike (.cons (.idx (.loc 0) (.cI 1)) (.cons (.loc 3) (.cons (.call .seen (.cons (.loc 7) (.cons (.loc 1) (.cons (.loc 2) .nil)))) .nil)))) (.cons (.ret (.loc 6)) .nil) .nil) .nil)) .nil))) (.cons (.ret (.loc 4)) .nil))))
noncomputable def t_round : Ss := (.cons (.if_ (.cmp .le (.idx (.loc 0) (.cI 0)) (.cI 0)) (.cons (.ret (.cB false)) .nil) .nil) (.cons (.augI (.loc 0) (.cI 0) .sub (.cI 1)) (.cons (.for_ 4 (.loc 1) (.cons (.if_ (.not_ (.call .reading (.cons (.loc 0) (.cons (.loc 4) (.cons (.loc 2) (.cons (.loc 3) .nil)))))) (.cons (.ret (.cB false)) .nil) .nil) .nil)) (.cons (.ret (.cB true)) .nil))))
noncomputable def t_reading : Ss := (.cons (.if_ (.cmp .le (.idx (.loc 0) (.cI 0)) (.cI 0)) (.cons (.ret (.cB false)) .nil) .nil) (.cons (.augI (.loc 0) (.cI 0) .sub (.cI 1)) (.cons (.if_ (.cmp .is (.loc 1) .cN) (.cons (.ret (.cB true)) .nil) .nil) (.cons (.asg 4 (.idx (.loc 1) (.cI 0))) (.cons (.if_ (.cmp .eq (.loc 4) (.cS .kSet)) (.cons (.asgI (.loc 2) (.idx (.loc 1) (.cI 1)) (.call .seen (.cons (.idx (.loc 1) (.cI 2)) (.cons (.loc 2) (.cons (.loc 3) .nil))))) (.cons (.ret (.cB true)) .nil)) .nil) (.cons (.if_ (.cmp .eq (.loc 4) (.cS .kIf)) (.cons (.ret (.call .reading (.cons (.loc 0) (.cons (.ite (.cmp .in_ (.cI 1) (.call .seen (.cons (.idx (.loc 1) (.cI 1)) (.cons (.loc 2) (.cons (.loc 3) .nil))))) (.idx (.loc 1) (.cI 2)) (.idx (.loc 1) (.cI 3))) (.cons (.loc 2) (.cons (.loc 3) .nil)))))) .nil) .nil) (.cons (.if_ (.cmp .eq (.loc 4) (.cS .kCase)) (.cons (.ret (.call .reading (.cons (.loc 0) (.cons (.call .chosen (.cons (.loc 1) (.cons (.loc 2) (.cons (.loc 3) .nil)))) (.cons (.loc 2) (.cons (.loc 3) .nil)))))) .nil) .nil) (.cons (.if_ (.cmp .eq (.loc 4) (.cS .kBlock)) (.cons (.ret (.call .round (.cons (.loc 0) (.cons (.idx (.loc 1) (.cI 1)) (.cons (.loc 2) (.cons (.loc 3) .nil)))))) .nil) .nil) (.cons (.if_ (.cmp .eq (.loc 4) (.cS .kRepeat)) (.cons (.forR 5 (.call .count (.cons (.call .seen (.cons (.idx (.loc 1) (.cI 1)) (.cons (.loc 2) (.cons (.loc 3) .nil)))) (.cons (.idx (.loc 1) (.cI 2)) .nil))) (.cons (.if_ (.not_ (.call .round (.cons (.loc 0) (.cons (.tup (.cons (.idx (.loc 1) (.cI 3)) .nil)) (.cons (.loc 2) (.cons (.loc 3) .nil)))))) (.cons (.ret (.cB false)) .nil) .nil) .nil)) (.cons (.ret (.cB true)) .nil)) .nil) (.cons (.if_ (.cmp .eq (.loc 4) (.cS .kForever)) (.cons (.while_ (.call .round (.cons (.loc 0) (.cons (.tup (.cons (.idx (.loc 1) (.cI 1)) .nil)) (.cons (.loc 2) (.cons (.loc 3) .nil))))) (.cons (.asg 4 (.cS .kForever)) .nil)) (.cons (.ret (.cB false)) .nil)) .nil) (.cons (.asg 6 (.idx (.loc 1) (.cI 1))) (.cons (.asg 7 (.tup (.cons (.idx (.loc 1) (.cI 2)) .nil))) (.cons (.if_ (.cmp .eq (.loc 4) (.cS .kFor)) (.cons (.if_ (.not_ (.call .reading (.cons (.loc 0) (.cons (.idx (.loc 1) (.cI 1)) (.cons (.loc 2) (.cons (.loc 3) .nil)))))) (.cons (.ret (.cB false)) .nil) .nil) (.cons (.asg 6 (.idx (.loc 1) (.cI 2))) (.cons (.asg 7 (.tup (.cons (.idx (.loc 1) (.cI 4)) (.cons (.idx (.loc 1) (.cI 3)) .nil)))) .nil))) .nil) (.cons (.while_ (.cmp .in_ (.cI 1) (.call .seen (.cons (.loc 6) (.cons (.loc 2) (.cons (.loc 3) .nil))))) (.cons (.if_ (.not_ (.call .round (.cons (.loc 0) (.cons (.loc 7) (.cons (.loc 2) (.cons (.loc 3) .nil)))))) (.cons (.ret (.cB false)) .nil) .nil) .nil)) (.cons (.ret (.cB true)) .nil)))))))))))))))
noncomputable def t_slots : Ss := (.cons (.if_ (.or2 (.cmp .is (.loc 0) .cN) (.cmp .eq (.idx (.loc 0) (.cI 0)) (.cS .kSet))) (.cons (.ret (.cI 0)) .nil) .nil) (.cons (.if_ (.cmp .eq (.idx (.loc 0) (.cI 0)) (.cS .kCase)) (.cons (.asg 1 (.ite (.cmp .eq (.idx (.idx (.loc 0) (.cI 2)) (.cI 0)) (.cS .kConst)) (.cI 0) (.cI 1))) (.cons (.ret (.bin .add (.loc 1) (.sum_ (.comp (.idx (.loc 0) (.cI 3)) [] 0 (.call .slots (.cons (.idx (.loc 0) (.cI 1)) .nil)))))) .nil)) .nil) (.cons (.if_ (.cmp .eq (.idx (.loc 0) (.cI 0)) (.cS .kBlock)) (.cons (.ret (.sum_ (.comp (.idx (.loc 0) (.cI 1)) [] 0 (.call .slots (.cons (.loc 0) .nil))))) .nil) .nil) (.cons (.if_ (.cmp .eq (.idx (.loc 0) (.cI 0)) (.cS .kIf)) (.cons (.ret (.bin .add (.call .slots (.cons (.idx (.loc 0) (.cI 2)) .nil)) (.call .slots (.cons (.idx (.loc 0) (.cI 3)) .nil)))) .nil) .nil) (.cons (.if_ (.cmp .eq (.idx (.loc 0) (.cI 0)) (.cS .kRepeat)) (.cons (.ret (.bin .add (.cI 1) (.call .slots (.cons (.idx (.loc 0) (.cI 3)) .nil)))) .nil) .nil) (.cons (.ret (.call .slots (.cons (.idx (.loc 0) (.neg (.cI 1))) .nil))) .nil))))))
noncomputable def t_follow : Ss := (.cons (.def_ 6) (.cons (.asg 7 (.mk .thread (.cons (.neg (.cI 1)) (.cons (.lst .nil) (.cons (.cI 0) (.cons (.lst .nil) (.cons (.cS .kHost) .nil))))))) (.cons (.asgA (.loc 7) .evaluateIn (.loc 6)) (.cons (.asg 8 (.mk .thread (.cons (.cI 0) (.cons (.att (.loc 0) .code) (.cons (.cI 0) (.cons (.bin .add (.bin .mul (.lst (.cons (.cS .kKept) .nil)) (.loc 1)) (.bin .mul (.lst (.cons .cN .nil)) (.bin .sub (.att (.loc 0) .slots) (.loc 1)))) (.cons (.cS .kTop) .nil))))))) (.cons (.forR 9 (.cI 300) (.cons (.if_ (.and2 (.not_ (.loc 5)) (.cmp .ge (.len (.loc 3)) (.loc 4))) (.cons (.ret (.cmp .eq (.slc (.att (.loc 8) .frame) (.loc 1)) (.bin .mul (.lst (.cons (.cS .kKept) .nil)) (.loc 1)))) .nil) .nil) (.cons (.if_ (.not_ (.cmp2 .le .lt (.cI 0) (.att (.loc 8) .pc) (.len (.att (.loc 0) .code)))) (.cons (.ret (.cB false)) .nil) .nil) (.cons (.asg 10 (.idx (.att (.loc 0) .code) (.att (.loc 8) .pc))) (.cons (.augA (.loc 8) .pc .add (.cI 1)) (.cons (.asg 11 (.att (.loc 8) .pc)) (.cons (.asg 12 (.list_ (.att (.loc 8) .frame))) (.cons (.asg 13 (.call .performFlow (.cons (.loc 7) (.cons (.loc 8) (.cons (.loc 10) .nil))))) (.cons (.if_ (.or2 (.not_ (.isBool (.loc 13))) (.cmp .ne (.loc 13) (.cmp .in_ (.idx (.loc 10) (.cI 0)) (.tup (.cons (.cS .kJump) (.cons (.cS .kUnless) (.cons (.cS .kMatch) (.cons (.cS .kTimes) (.cons (.cS .kAgain) .nil))))))))) (.cons (.ret (.cB false)) .nil) .nil) (.cons (.if_ (.loc 13) (.cons .cont .nil) .nil) (.cons (.if_ (.or2 (.cmp .ne (.att (.loc 8) .pc) (.loc 11)) (.cmp .ne (.att (.loc 8) .frame) (.loc 12))) (.cons (.ret (.cB false)) .nil) .nil) (.cons (.if_ (.cmp .eq (.idx (.loc 10) (.cI 0)) (.cS .kSet)) (.cons (.asgI (.loc 2) (.idx (.loc 10) (.cI 1)) (.call .seen (.cons (.idx (.loc 10) (.cI 2)) (.cons (.loc 2) (.cons (.loc 3) .nil))))) .nil) (.cons (.if_ (.cmp .eq (.idx (.loc 10) (.cI 0)) (.cS .kSave)) (.cons (.asgI (.att (.loc 8) .frame) (.idx (.loc 10) (.cI 1)) (.callL 6 (.cons (.loc 8) (.cons (.idx (.loc 10) (.cI 2)) .nil)))) .nil) (.cons (.ret (.and3 (.cmp .eq (.idx (.loc 10) (.cI 0)) (.cS .kEnd)) (.cmp .eq (.loc 11) (.len (.att (.loc 0) .code))) (.cmp .eq (.slc (.att (.loc 8) .frame) (.loc 1)) (.bin .mul (.lst (.cons (.cS .kKept) .nil)) (.loc 1))))) .nil)) .nil)) .nil)))))))))))) (.cons (.ret (.cB false)) .nil))))))
noncomputable def t_vector : Ss := (.cons (.if_ (.cmp .eq (.idx (.loc 1) (.cI 0)) (.cS .kLocal)) (.cons (.ret (.idx (.att (.loc 0) .frame) (.idx (.loc 1) (.cI 2)))) .nil) .nil) (.cons (.asg 2 (.call .seen (.cons (.loc 1) (.cons (.loc 6) (.cons (.loc 7) .nil))))) (.cons (.asg 3 (.cI 0)) (.cons (.asg 4 (.cI 0)) (.cons (.forR 5 (.len (.loc 2)) (.cons (.augN 3 .add (.bin .shl (.bin .fmod (.int_ (.idx (.loc 2) (.loc 5))) (.cI 2)) (.loc 5))) (.cons (.augN 4 .add (.bin .shl (.bin .fdiv (.idx (.loc 2) (.loc 5)) (.cI 2)) (.loc 5))) .nil))) (.cons (.ret (.tup (.cons (.len (.loc 2)) (.cons (.loc 3) (.cons (.loc 4) .nil))))) .nil))))))
noncomputable def t_same : Ss := (.cons (.asgC 4 (.loc 2) [] 0 (.list_ (.loc 0))) (.cons (.asgC 5 (.loc 2) [] 0 (.list_ (.loc 0))) (.cons (.asg 6 (.lst .nil)) (.cons (.asg 7 (.call .reading (.cons (.lst (.cons (.loc 3) .nil)) (.cons (.loc 0) (.cons (.loc 4) (.cons (.loc 6) .nil)))))) (.cons (.asg 8 (.mk .maker (.cons (.loc 1) .nil))) (.cons (.ex (.meth (.loc 8) .make (.cons (.loc 0) .nil))) (.cons (.ex (.meth (.loc 8) .emit (.cons (.tup (.cons (.cS .kEnd) .nil)) .nil))) (.cons (.if_ (.cmp .ne (.att (.loc 8) .slots) (.bin .add (.loc 1) (.call .slots (.cons (.loc 0) .nil)))) (.cons (.ret (.cB false)) .nil) .nil) (.cons (.asg 9 (.lst .nil)) (.cons (.if_ (.not_ (.call .follow (.cons (.loc 8) (.cons (.loc 1) (.cons (.loc 5) (.cons (.loc 9) (.cons (.len (.loc 6)) (.cons (.loc 7) .nil)))))))) (.cons (.ret (.cB false)) .nil) .nil) (.cons (.if_ (.loc 7) (.cons (.ret (.and2 (.cmp .eq (.loc 9) (.loc 6)) (.cmp .eq (.loc 4) (.loc 5)))) .nil) .nil) (.cons (.ret (.cmp .eq (.slc (.loc 9) (.len (.loc 6))) (.loc 6))) .nil))))))))))))
noncomputable def t_law : Ss := (.cons (.asg 1 (.call .bag (.cons (.loc 0) .nil))) (.cons (.asg 2 (.call .pull (.cons (.loc 1) (.cons (.cI 3) .nil)))) (.cons (.asg 3 (.lst .nil)) (.cons (.forR 4 (.cI 3) (.cons (.asg 5 (.lst .nil)) (.cons (.asg 6 (.cmp .eq (.call .pull (.cons (.loc 1) (.cons (.cI 3) .nil))) (.cI 0))) (.cons (.forR 7 (.cI 3) (.cons (.ex (.append (.loc 5) (.call .pull (.cons (.loc 1) (.cons (.ite (.loc 6) (.cI 4) (.cI 2)) .nil))))) .nil)) (.cons (.ex (.append (.loc 3) (.loc 5))) .nil))))) (.cons (.asg 8 (.lst (.cons (.cI 6) .nil))) (.cons (.asg 9 (.call .tree (.cons (.loc 1) (.cons (.cI 2) (.cons (.loc 8) .nil))))) (.cons (.asg 10 (.tup (.cons (.cS .kBlock) (.cons (.tup (.cons (.loc 9) (.cons (.call .tree (.cons (.loc 1) (.cons (.cI 2) (.cons (.loc 8) .nil)))) .nil))) (.cons (.neg (.cI 1)) .nil))))) (.cons (.ret (.and2 (.call .same (.cons (.call .fixed .nil) (.cons (.loc 2) (.cons (.loc 3) (.cons (.cI 30) .nil))))) (.call .same (.cons (.loc 10) (.cons (.loc 2) (.cons (.loc 3) (.cons (.cI 11) .nil))))))) .nil))))))))
noncomputable def Fn.txt : Fn → Ss
  | .mask => t_mask
  | .toInt => t_toInt
  | .truth => t_truth
  | .matches => t_matches
  | .performFlow => t_performFlow
  | .bag => t_bag
  | .pull => t_pull
  | .word => t_word
  | .test => t_test
  | .store => t_store
  | .case => t_case
  | .tree => t_tree
  | .fixed => t_fixed
  | .codes => t_codes
  | .seen => t_seen
  | .alike => t_alike
  | .count => t_count
  | .chosen => t_chosen
  | .round => t_round
  | .reading => t_reading
  | .slots => t_slots
  | .follow => t_follow
  | .same => t_same
  | .law => t_law
noncomputable def Mt.txt : Mt → Ss
  | .makerInit => t_makerInit
  | .emit => t_emit
  | .here => t_here
  | .newSlot => t_newSlot
  | .aim => t_aim
  | .assignment => t_assignment
  | .branch => t_branch
  | .selection => t_selection
  | .loop => t_loop
  | .repetition => t_repetition
  | .scoped => t_scoped
  | .close => t_close
  | .block => t_block
  | .looping => t_looping
  | .make => t_make
  | .threadInit => t_threadInit
noncomputable def Fn.tab : Fn → List Str
  | .mask => [Str.ofString "w"]
  | .toInt => [Str.ofString "v", Str.ofString "signed", Str.ofString "w", Str.ofString "a", Str.ofString "b"]
  | .truth => [Str.ofString "v"]
  | .matches => [Str.ofString "kind", Str.ofString "u", Str.ofString "v", Str.ofString "free", Str.ofString "care"]
  | .performFlow => [Str.ofString "machine", Str.ofString "thread", Str.ofString "row", Str.ofString "name", Str.ofString "count"]
  | .bag => [Str.ofString "script", Str.ofString "bag", Str.ofString "cell"]
  | .pull => [Str.ofString "bag", Str.ofString "many", Str.ofString "cell", Str.ofString "got"]
  | .word => [Str.ofString "bag", Str.ofString "b"]
  | .test => [Str.ofString "bag", Str.ofString "pick"]
  | .store => [Str.ofString "bag", Str.ofString "spot"]
  | .case => [Str.ofString "bag", Str.ofString "depth", Str.ofString "room", Str.ofString "kind", Str.ofString "e", Str.ofString "many", Str.ofString "default", Str.ofString "rows", Str.ofString "turn", Str.ofString "labels"]
  | .tree => [Str.ofString "bag", Str.ofString "depth", Str.ofString "room", Str.ofString "pick", Str.ofString "test", Str.ofString "first", Str.ofString "step", Str.ofString "e"]
  | .fixed => [Str.ofString "more"]
  | .codes => [Str.ofString "e", Str.ofString "held", Str.ofString "row", Str.ofString "total"]
  | .seen => [Str.ofString "e", Str.ofString "held", Str.ofString "log", Str.ofString "row"]
  | .alike => [Str.ofString "kind", Str.ofString "row", Str.ofString "other", Str.ofString "i", Str.ofString "pair"]
  | .count => [Str.ofString "row", Str.ofString "signed"]
  | .chosen => [Str.ofString "s", Str.ofString "held", Str.ofString "log", Str.ofString "row", Str.ofString "other", Str.ofString "labels", Str.ofString "body", Str.ofString "label"]
  | .round => [Str.ofString "left", Str.ofString "parts", Str.ofString "held", Str.ofString "log", Str.ofString "part"]
  | .reading => [Str.ofString "left", Str.ofString "s", Str.ofString "held", Str.ofString "log", Str.ofString "tag", Str.ofString "turn", Str.ofString "test", Str.ofString "parts"]
  | .slots => [Str.ofString "s", Str.ofString "own"]
  | .follow => [Str.ofString "maker", Str.ofString "base", Str.ofString "held", Str.ofString "log", Str.ofString "want", Str.ofString "ended", Str.ofString "_law_vector", Str.ofString "host", Str.ofString "thread", Str.ofString "turn", Str.ofString "row", Str.ofString "pc", Str.ofString "before", Str.ofString "did"]
  | .same => [Str.ofString "s", Str.ofString "base", Str.ofString "held", Str.ofString "most", Str.ofString "first", Str.ofString "second", Str.ofString "due", Str.ofString "ended", Str.ofString "maker", Str.ofString "log"]
  | .law => [Str.ofString "script", Str.ofString "bag", Str.ofString "base", Str.ofString "held", Str.ofString "turn", Str.ofString "row", Str.ofString "wild", Str.ofString "i", Str.ofString "room", Str.ofString "first", Str.ofString "drawn"]
noncomputable def Mt.tab : Mt → List Str
  | .makerInit => [Str.ofString "self", Str.ofString "slots"]
  | .emit => [Str.ofString "self", Str.ofString "row"]
  | .here => [Str.ofString "self"]
  | .newSlot => [Str.ofString "self", Str.ofString "slot"]
  | .aim => [Str.ofString "self", Str.ofString "address", Str.ofString "row"]
  | .assignment => [Str.ofString "self", Str.ofString "s", Str.ofString "slot"]
  | .branch => [Str.ofString "self", Str.ofString "s", Str.ofString "skip", Str.ofString "end"]
  | .selection => [Str.ofString "self", Str.ofString "s", Str.ofString "value", Str.ofString "slot", Str.ofString "found", Str.ofString "default", Str.ofString "labels", Str.ofString "body", Str.ofString "places", Str.ofString "label", Str.ofString "ends", Str.ofString "address"]
  | .loop => [Str.ofString "self", Str.ofString "condition", Str.ofString "body", Str.ofString "step", Str.ofString "start", Str.ofString "skip"]
  | .repetition => [Str.ofString "self", Str.ofString "s", Str.ofString "slot", Str.ofString "start"]
  | .scoped => [Str.ofString "self", Str.ofString "scope"]
  | .close => [Str.ofString "self", Str.ofString "address", Str.ofString "scope"]
  | .block => [Str.ofString "self", Str.ofString "s", Str.ofString "opened", Str.ofString "inner"]
  | .looping => [Str.ofString "self", Str.ofString "s", Str.ofString "start"]
  | .make => [Str.ofString "self", Str.ofString "s", Str.ofString "tag"]
  | .threadInit => [Str.ofString "self", Str.ofString "number", Str.ofString "code", Str.ofString "pc", Str.ofString "frame", Str.ofString "path"]
noncomputable def vecTab : List Str := [Str.ofString "thread", Str.ofString "e", Str.ofString "row", Str.ofString "a", Str.ofString "b", Str.ofString "i", Str.ofString "held", Str.ofString "log"]
noncomputable def Fn.np : Fn → Nat
  | .mask => 1
  | .toInt => 2
  | .truth => 1
  | .matches => 3
  | .performFlow => 3
  | .bag => 1
  | .pull => 2
  | .word => 1
  | .test => 1
  | .store => 1
  | .case => 3
  | .tree => 3
  | .fixed => 0
  | .codes => 2
  | .seen => 3
  | .alike => 3
  | .count => 2
  | .chosen => 3
  | .round => 4
  | .reading => 4
  | .slots => 1
  | .follow => 6
  | .same => 4
  | .law => 1
noncomputable def Mt.np : Mt → Nat
  | .makerInit => 2
  | .emit => 2
  | .here => 1
  | .newSlot => 1
  | .aim => 2
  | .assignment => 2
  | .branch => 2
  | .selection => 2
  | .loop => 4
  | .repetition => 2
  | .scoped => 2
  | .close => 3
  | .block => 2
  | .looping => 2
  | .make => 2
  | .threadInit => 6
end Mine
namespace Mine
noncomputable def bodyQ (Q : V → Hp → Prop) (f : Fl) (_ : List V) (H : Hp) : Prop := match f with
  | .ret v => Q v H
  | _ => Q .none H
noncomputable def Body (scr : List Int) (C : CallP) : CallP := fun k vs H Q => match k with
  | .fn f => vs.length = f.np ∧ wpSs C scr f.txt vs H (bodyQ Q)
  | .mt m => vs.length = m.np ∧ wpSs C scr m.txt vs H (bodyQ Q)
  | .clo i => clo2K H[i]? fun a b => twoK vs fun t e => wpSs C scr t_vector [t, e, .und, .und, .und, .und, a, b] H (bodyQ Q)
noncomputable def Cn (scr : List Int) : Nat → CallP
  | 0 => fun _ _ _ _ => False
  | k + 1 => Body scr (Cn scr k)
end Mine
namespace Mine
open PySem PySem.W PySem.Calls PyProof.Rows
structure Cfg where
  prog : Program
  w : World
  h0 : Heap
  K : Frag
  fnA : Fn → Addr
  mtA : Mt → Addr
  clsA : Cls → Addr
  scrA : Addr
  scr : List Int
  cod : Addr
  tab : Addr
noncomputable def Room (A : Around) (n : Nat) : Prop := A.handled = none ∧ A.depth + n < 900 ∧ A.units + 12 * n < 9000
abbrev Pl := List (Addr × Addr)
noncomputable def Imm (o : Obj) : Prop := (o.cls = .type "tuple" ∧ ∃ xs n, o.data = .seq xs n) ∨ (∃ fd, o.data = .func fd) ∨ (∃ v, o.data = .cell v) ∨ ∃ vs q t, o.data = .fields vs ∧ vs[1]? = some (.str q t)
mutual
noncomputable def VRel (c : Cfg) (ρ : Pl) (h : Heap) : V → Value → Prop
  | .und, _ => False
  | .none, v => v = .none
  | .bool b, v => v = .bool b
  | .int i, v => ∃ t, v = .int i t
  | .str t, v => ∃ k, v = .str t.str k
  | .tup vs, v => ∃ a xs n, v = .ref a ∧ IsT h a (List.toArray xs) n ∧ VRels c ρ h vs xs
  | .obj i, v => ∃ p, ρ[i]? = some p ∧ v = .ref p.1
  | .scr, v => v = .ref c.scrA
noncomputable def VRels (c : Cfg) (ρ : Pl) (h : Heap) : List V → List Value → Prop
  | [], xs => xs = []
  | v :: r, xs => ∃ y ys, xs = y :: ys ∧ VRel c ρ h v y ∧ VRels c ρ h r ys
end
inductive FRel (c : Cfg) (ρ : Pl) (h : Heap) : List (At × V) → List DictEntry → Prop
  | nil : FRel c ρ h [] []
  | cons {a : At} {v : V} {fs : List (At × V)} {e : DictEntry} {es : List DictEntry} : (∃ t, e.key = .str a.str t) → VRel c ρ h v e.val → FRel c ρ h fs es → FRel c ρ h ((a, v) :: fs) (e :: es)
noncomputable def topSt (i : Nat) : Stmt := PySem.Challenge.pw_sj0047_01.main.body.getD i (.Pass default)
noncomputable def inSt (s : Stmt) (j : Nat) : Stmt := match s with
  | .ClassDef _ _ _ b .. => b.getD j (.Pass default)
  | .FunctionDef _ _ b .. => b.getD j (.Pass default)
  | _ => .Pass default
noncomputable def dBody (s : Stmt) : List Stmt := match s with | .FunctionDef _ _ b .. => b | _ => []
noncomputable def dArgs (s : Stmt) : Arguments := match s with | .FunctionDef _ a .. => a | _ => ⟨[], [], none, [], [], none, []⟩
noncomputable def dScope (s : Stmt) : Scope := match s with | .FunctionDef _ _ _ _ _ _ sc .. => sc | _ => default
noncomputable def dName (s : Stmt) : Str := match s with | .FunctionDef n .. => n | _ => Str.empty
noncomputable def dPos (s : Stmt) : Pos := match s with | .FunctionDef _ _ _ _ _ _ _ _ _ p => p | _ => default
noncomputable def dPars (s : Stmt) : List Str := (dArgs s).args.map (·.arg)
noncomputable def Fn.st : Fn → Stmt
  | .mask => topSt 1 | .toInt => topSt 2 | .truth => topSt 3 | .matches => topSt 5 | .performFlow => topSt 7
  | .bag => topSt 17 | .pull => topSt 18 | .word => topSt 19 | .test => topSt 20 | .store => topSt 21 | .case => topSt 22 | .tree => topSt 23
  | .fixed => topSt 24 | .codes => topSt 25 | .seen => topSt 26 | .alike => topSt 27 | .count => topSt 28 | .chosen => topSt 29 | .round => topSt 30
  | .reading => topSt 31 | .slots => topSt 32 | .follow => topSt 33 | .same => topSt 34 | .law => topSt 35
noncomputable def Mt.st : Mt → Stmt
  | .makerInit => inSt (topSt 13) 0 | .emit => inSt (topSt 13) 1 | .here => inSt (topSt 13) 2 | .newSlot => inSt (topSt 13) 3 | .aim => inSt (topSt 13) 4
  | .assignment => inSt (topSt 13) 6 | .branch => inSt (topSt 13) 8 | .selection => inSt (topSt 13) 9 | .loop => inSt (topSt 13) 10
  | .repetition => inSt (topSt 13) 11 | .scoped => inSt (topSt 13) 12 | .close => inSt (topSt 13) 13 | .block => inSt (topSt 13) 14
  | .looping => inSt (topSt 13) 17 | .make => inSt (topSt 13) 18 | .threadInit => inSt (topSt 15) 0
noncomputable def vecSt : Stmt := inSt (topSt 33) 0
structure DefOk (s : Stmt) (fd : FuncData) : Prop where
  body : fd.body = .stmts (dBody s)
  scope : fd.scope = dScope s
  globals : fd.globals = mainGlobals
  builtins : fd.builtins = builtinsNs
  binds : ∀ vs : List Value, vs.length = (dPars s).length → bindArgs fd ⟨vs, []⟩ = pure ((dPars s).zip vs)
noncomputable def sHeld : Str := Str.ofString "held"
noncomputable def sLog : Str := Str.ofString "log"
inductive CloAt (c : Cfg) (ρ : Pl) (h : Heap) (a : Addr) (hv lv : V) : Prop
  | mk (o : Obj) (fd : FuncData) (c1 c2 : Addr) (v1 v2 : Value) : h.get? a = some o → o.cls = .type "function" → o.data = .func fd → DefOk vecSt fd → h.CodeRec fd.code fd.qualname →
    fd.closure.lookup sHeld = some c1 → fd.closure.lookup sLog = some c2 → h.IsCell c1 (some v1) → h.IsCell c2 (some v2) → VRel c ρ h hv v1 → VRel c ρ h lv v2 → CloAt c ρ h a hv lv
noncomputable def ORel (c : Cfg) (ρ : Pl) (h : Heap) (p : Addr × Addr) : CO → Prop
  | .list vs => p.2 = p.1 ∧ ∃ xs n, h.get? p.1 = some { cls := .type "list", data := .seq (List.toArray xs) n } ∧ VRels c ρ h vs xs
  | .inst k fs => h.get? p.1 = some (instObj (c.clsA k) p.2) ∧ ∃ es n, h.get? p.2 = some (dictOf es n) ∧ FRel c ρ h fs es
  | .clo a b => p.2 = p.1 ∧ CloAt c ρ h p.1 a b
  | .dict0 => p.2 = p.1 ∧ ∃ o, h.get? p.1 = some o ∧ o.cls = .type "dict" ∧ ∃ es n, o.data = .dict es n
noncomputable def vecQual : Str := Str.ofString "_law_follow.<locals>._law_vector"
structure RH (c : Cfg) (ρ : Pl) (H : Hp) (s : Shared) : Prop where
  base : ∀ b o, c.h0.get? b = some o → s.heap.get? b = some o
  len : ρ.length = H.length
  objs : ∀ (i : Nat) (o : CO) (p : Addr × Addr), H[i]? = some o → ρ[i]? = some p → ORel c ρ s.heap p o
  fresh : ∀ p ∈ ρ, c.h0.get? p.1 = none ∧ c.h0.get? p.2 = none ∧ p.1 ≠ c.tab ∧ p.2 ≠ c.tab
  inj : ∀ (i j : Nat) (p q : Addr × Addr), ρ[i]? = some p → ρ[j]? = some q → i ≠ j → p.1 ≠ q.1 ∧ p.1 ≠ q.2 ∧ p.2 ≠ q.1 ∧ p.2 ≠ q.2
  tabs : ∃ ps, s.heap.get? c.tab = some (tabObj ps) ∧ c.h0.get? c.tab = none ∧
    (ps = #[] ∨ ∃ k, ps = #[rawInt (dPos vecSt).line, rawInt (dPos vecSt).col, .ref k] ∧ s.heap.CodeRec (.ref k) vecQual)
structure Ext (c : Cfg) (W : List Addr) (ρ : Pl) (s : Shared) (ρ' : Pl) (s' : Shared) : Prop where
  pre : ∃ τ, ρ' = ρ ++ τ ∧ ∀ p ∈ τ, (s.heap.get? p.1 = none ∧ s.heap.get? p.2 = none) ∧ p.1 ∉ W ∧ p.2 ∉ W
  keep : ∀ b o, s.heap.get? b = some o → (∀ p ∈ ρ, b ≠ p.1 ∧ b ≠ p.2) → b ∉ W → b ≠ c.tab → s'.heap.get? b = some o
  imm : ∀ b o, s.heap.get? b = some o → Imm o → s'.heap.get? b = some o
  live : ∀ b o, s.heap.get? b = some o → b ∉ W → ∃ o', s'.heap.get? b = some o'
  gens : s'.gens = s.gens
  drawn : s'.drawn = s.drawn
  os : s'.os = s.os
noncomputable def VarAt (env : Env) (m : Str → Option Value) (h : Heap) (nm : Str) (v : Value) : Prop :=
  (env.kindOf nm = some .local ∧ m nm = some v) ∨
  ((env.kindOf nm = some .cell ∨ env.kindOf nm = some .free) ∧ ∃ a, env.cells.lookup nm = some a ∧ h.IsCell a (some v))
structure FrameRel (c : Cfg) (env : Env) (tb : List Str) (loc : List V) (ρ : Pl) (h : Heap) (m : Str → Option Value) : Prop where
  ns : h.Ns env.locals m
  vars : ∀ (i : Nat) (nm : Str), tb[i]? = some nm → getL' loc i ≠ .und → ∃ v, VRel c ρ h (getL' loc i) v ∧ VarAt env m h nm v
  apart : (∀ p ∈ ρ, env.locals ≠ p.1 ∧ env.locals ≠ p.2) ∧ env.locals ≠ c.tab ∧ c.h0.get? env.locals = none
  len : loc.length ≤ tb.length
structure EnvOk (env : Env) (sc : Scope) : Prop where
  scope : env.scope = sc
  kind : sc.kind = .function
  globals : env.globals = mainGlobals
  builtins : env.builtins = builtinsNs
  cells : ∀ nm, (sc.names.lookup nm = some .cell ∨ sc.names.lookup nm = some .free) → ∃ a, env.cells.lookup nm = some a
inductive PE (c : Cfg) (ρ : Pl) (s : Shared) (Q : V → Hp → Prop) (v : Value) (s' : Shared) : Prop
  | mk (ρ' : Pl) (x : V) (H' : Hp) : RH c ρ' H' s' → Ext c [] ρ s ρ' s' → VRel c ρ' s'.heap x v → Q x H' → PE c ρ s Q v s'
inductive PEs (c : Cfg) (ρ : Pl) (s : Shared) (Q : List V → Hp → Prop) (vs : List Value) (s' : Shared) : Prop
  | mk (ρ' : Pl) (xs : List V) (H' : Hp) : RH c ρ' H' s' → Ext c [] ρ s ρ' s' → VRels c ρ' s'.heap xs vs → Q xs H' → PEs c ρ s Q vs s'
abbrev NoE : Value → Shared → Prop := fun _ _ => False
section
variable {c : Cfg} {ρ τ ρ' : Pl} {h h' : Heap} {s s' s'' : Shared} {W : List Addr} {H : Hp}
theorem imm_tup {xs : Array Value} {n : Nat} : Imm { cls := .type "tuple", data := .seq xs n } := .inl ⟨rfl, _, _, rfl⟩
mutual
theorem VRel.mono (k : ∀ b o, h.get? b = some o → Imm o → h'.get? b = some o) : ∀ (x : V) (v : Value), VRel c ρ h x v → VRel c (ρ ++ τ) h' x v
  | .und, _, r => by simp only [VRel] at r
  | .none, _, r => by simpa only [VRel] using r
  | .bool _, _, r => by simpa only [VRel] using r
  | .int _, _, r => by simpa only [VRel] using r
  | .str _, _, r => by simpa only [VRel] using r
  | .scr, _, r => by simpa only [VRel] using r
  | .obj i, v, r => by
    simp only [VRel] at r ⊢
    obtain ⟨p, e, q⟩ := r
    refine ⟨p, ?_, q⟩
    have hl := (List.getElem?_eq_some_iff.mp e).1
    rw [List.getElem?_append_left hl]; exact e
  | .tup vs, v, r => by
    simp only [VRel] at r ⊢
    obtain ⟨a, xs, n, e, ho, rs⟩ := r
    exact ⟨a, xs, n, e, k _ _ ho imm_tup, VRels.mono k vs xs rs⟩
theorem VRels.mono (k : ∀ b o, h.get? b = some o → Imm o → h'.get? b = some o) : ∀ (xs : List V) (vs : List Value), VRels c ρ h xs vs → VRels c (ρ ++ τ) h' xs vs
  | [], _, r => by simpa only [VRels] using r
  | x :: xs, _, r => by
    simp only [VRels] at r ⊢
    obtain ⟨y, ys, e, r1, r2⟩ := r
    exact ⟨y, ys, e, VRel.mono k x y r1, VRels.mono k xs ys r2⟩
end
theorem FRel.mono (k : ∀ b o, h.get? b = some o → Imm o → h'.get? b = some o) {fs : List (At × V)} {es : List DictEntry} (r : FRel c ρ h fs es) : FRel c (ρ ++ τ) h' fs es := by
  induction r with
  | nil => exact .nil
  | cons a b _ ih => exact .cons a (VRel.mono k _ _ b) ih
theorem CloAt.mono (k : ∀ b o, h.get? b = some o → Imm o → h'.get? b = some o) {a : Addr} {x y : V} (r : CloAt c ρ h a x y) : CloAt c (ρ ++ τ) h' a x y := by
  obtain ⟨o, fd, c1, c2, v1, v2, e1, e2, e3, e4, ⟨cc, co, cv, ct, f1, f2, f3, f4⟩, e6, e7, ⟨o1, g1, g2⟩, ⟨o2, g3, g4⟩, e8, e9⟩ := r
  exact ⟨o, fd, c1, c2, v1, v2, k _ _ e1 (.inr (.inl ⟨_, e3⟩)), e2, e3, e4, ⟨cc, co, cv, ct, f1, k _ _ f2 (.inr (.inr (.inr ⟨_, _, _, f3, f4⟩))), f3, f4⟩, e6, e7,
    ⟨o1, k _ _ g1 (.inr (.inr (.inl ⟨_, g2⟩))), g2⟩, ⟨o2, k _ _ g3 (.inr (.inr (.inl ⟨_, g4⟩))), g4⟩, VRel.mono k _ _ e8, VRel.mono k _ _ e9⟩
theorem ORel.mono (k : ∀ b o, h.get? b = some o → Imm o → h'.get? b = some o) {p : Addr × Addr} {o : CO}
    (k1 : ∀ o, h.get? p.1 = some o → h'.get? p.1 = some o) (k2 : ∀ o, h.get? p.2 = some o → h'.get? p.2 = some o) (r : ORel c ρ h p o) : ORel c (ρ ++ τ) h' p o := by
  cases o with
  | list vs => obtain ⟨e, xs, n, e1, e2⟩ := r; exact ⟨e, xs, n, k1 _ e1, VRels.mono k _ _ e2⟩
  | inst kk fs => obtain ⟨e, es, n, e1, e2⟩ := r; exact ⟨k1 _ e, es, n, k2 _ e1, FRel.mono k e2⟩
  | clo a b => exact ⟨r.1, r.2.mono k⟩
  | dict0 => obtain ⟨e, o, e1, e2⟩ := r; exact ⟨e, o, k1 _ e1, e2⟩
theorem VRel.mono0 (k : ∀ b o, h.get? b = some o → Imm o → h'.get? b = some o) {x : V} {v : Value} (r : VRel c ρ h x v) : VRel c ρ h' x v := by
  have := VRel.mono (τ := []) k x v r; rwa [List.append_nil] at this
theorem VRels.mono0 (k : ∀ b o, h.get? b = some o → Imm o → h'.get? b = some o) {x : List V} {v : List Value} (r : VRels c ρ h x v) : VRels c ρ h' x v := by
  have := VRels.mono (τ := []) k x v r; rwa [List.append_nil] at this
theorem Ext.refl : Ext c W ρ s ρ s := ⟨⟨[], by rw [List.append_nil], fun _ h => nomatch h⟩, fun _ _ e _ _ _ => e, fun _ _ e _ => e, fun _ o e _ => ⟨o, e⟩, rfl, rfl, rfl⟩
theorem Ext.vrel {x : V} {v : Value} (X : Ext c W ρ s ρ' s') (r : VRel c ρ s.heap x v) : VRel c ρ' s'.heap x v := by
  obtain ⟨τ, rfl, _⟩ := X.pre
  exact VRel.mono X.imm _ _ r
theorem Ext.vrels {x : List V} {v : List Value} (X : Ext c W ρ s ρ' s') (r : VRels c ρ s.heap x v) : VRels c ρ' s'.heap x v := by
  obtain ⟨τ, rfl, _⟩ := X.pre
  exact VRels.mono X.imm _ _ r
theorem get_none_of_le {b : Addr} (hb : s.heap.objs.size ≤ b) : s.heap.get? b = none := by
  cases q : s.heap.get? b with
  | none => rfl
  | some o => exact absurd (Heap.lt_size q) (Nat.not_lt.mpr hb)
theorem Ext.trans {ρ'' : Pl} (X : Ext c W ρ s ρ' s') (Y : Ext c W ρ' s' ρ'' s'') : Ext c W ρ s ρ'' s'' := by
  obtain ⟨⟨τ, rfl, n1⟩, k1, i1, z1, g1, d1, o1⟩ := X
  obtain ⟨⟨τ', rfl, n2⟩, k2, i2, z2, g2, d2, o2⟩ := Y
  refine ⟨⟨τ ++ τ', by rw [List.append_assoc], fun p hp => ?_⟩, fun b o e a b' c' => ?_, fun b o e i => i2 b o (i1 b o e i) i, fun b o e nb => let ⟨o', e'⟩ := z1 b o e nb; z2 b o' e' nb, g2.trans g1, d2.trans d1, o2.trans o1⟩
  · rcases List.mem_append.mp hp with hp | hp
    · exact n1 p hp
    · have back : ∀ b, b ∉ W → s'.heap.get? b = none → s.heap.get? b = none := fun b nb hb => by
        cases q : s.heap.get? b with
        | none => rfl
        | some o => obtain ⟨o', e'⟩ := z1 b o q nb; rw [hb] at e'; cases e'
      obtain ⟨⟨m1, m2⟩, m3, m4⟩ := n2 p hp
      exact ⟨⟨back _ m3 m1, back _ m4 m2⟩, m3, m4⟩
  · refine k2 b o (k1 b o e a b' c') (fun p hp => ?_) b' c'
    rcases List.mem_append.mp hp with hp | hp
    · exact a p hp
    · constructor
      · rintro rfl; rw [(n1 p hp).1.1] at e; cases e
      · rintro rfl; rw [(n1 p hp).1.2] at e; cases e
theorem Ext.more {a : Addr} (X : Ext c W ρ s ρ' s') (ha : ∀ p ∈ ρ', a ≠ p.1 ∧ a ≠ p.2) : Ext c (a :: W) ρ s ρ' s' := by
  obtain ⟨⟨τ, rfl, n1⟩, k1, i1, z1, g1, d1, o1⟩ := X
  refine ⟨⟨τ, rfl, fun p hp => ?_⟩, fun b o e q n => k1 b o e q fun h => n (List.mem_cons_of_mem _ h), i1, fun b o e n => z1 b o e fun h => n (List.mem_cons_of_mem _ h), g1, d1, o1⟩
  obtain ⟨m1, m2, m3⟩ := n1 p hp
  have ha' := ha p (List.mem_append_right _ hp)
  refine ⟨m1, ?_, ?_⟩
  · rw [List.mem_cons]; rintro (q | q); exact ha'.1 q.symm; exact m2 q
  · rw [List.mem_cons]; rintro (q | q); exact ha'.2 q.symm; exact m3 q
structure Still (c : Cfg) (W : List Addr) (ρ : Pl) (s s' : Shared) : Prop where
  keep : ∀ b o, s.heap.get? b = some o → b ∉ W → s'.heap.get? b = some o
  off : ∀ b ∈ W, (∀ p ∈ ρ, b ≠ p.1 ∧ b ≠ p.2) ∧ c.h0.get? b = none ∧ b ≠ c.tab ∧ ∀ o, s.heap.get? b = some o → ¬ Imm o
  live : ∀ b o, s.heap.get? b = some o → b ∉ W → ∃ o', s'.heap.get? b = some o'
  gens : s'.gens = s.gens
  drawn : s'.drawn = s.drawn
  os : s'.os = s.os
theorem Still.imm (X : Still c W ρ s s') : ∀ b o, s.heap.get? b = some o → Imm o → s'.heap.get? b = some o := fun b o e i =>
  X.keep b o e fun q => (X.off b q).2.2.2 o e i
theorem Still.ext (X : Still c W ρ s s') : Ext c W ρ s ρ s' :=
  ⟨⟨[], by rw [List.append_nil], fun _ h => nomatch h⟩, fun b o e _ n _ => X.keep b o e n, X.imm, X.live, X.gens, X.drawn, X.os⟩
theorem CodeRec.imm {cd : Value} {q : Str} (k : ∀ b o, h.get? b = some o → Imm o → h'.get? b = some o) (r : h.CodeRec cd q) : h'.CodeRec cd q := by
  obtain ⟨cc, co, cv, ct, f1, f2, f3, f4⟩ := r
  exact ⟨cc, co, cv, ct, f1, k _ _ f2 (.inr (.inr (.inr ⟨_, _, _, f3, f4⟩))), f3, f4⟩
theorem Still.rh (X : Still c W ρ s s') (R : RH c ρ H s) : RH c ρ H s' where
  base b o e := X.keep b o (R.base b o e) fun q => by rw [(X.off b q).2.1] at e; cases e
  len := R.len
  objs i o p e1 e2 := by
    have hp : p ∈ ρ := List.mem_of_getElem? e2
    have := ORel.mono (τ := []) X.imm (fun o e => X.keep _ o e fun q => ((X.off _ q).1 p hp).1 rfl) (fun o e => X.keep _ o e fun q => ((X.off _ q).1 p hp).2 rfl) (R.objs i o p e1 e2)
    rwa [List.append_nil] at this
  fresh := R.fresh
  inj := R.inj
  tabs := by
    obtain ⟨ps, e1, e2, e3⟩ := R.tabs
    refine ⟨ps, X.keep _ _ e1 fun q => (X.off _ q).2.2.1 rfl, e2, e3.imp id fun ⟨k, e4, e5⟩ => ⟨k, e4, CodeRec.imm X.imm e5⟩⟩
theorem Still.grown (k : ∀ b o, s.heap.get? b = some o → s'.heap.get? b = some o) (g : s'.gens = s.gens) (d : s'.drawn = s.drawn) (o : s'.os = s.os) : Still c [] ρ s s' :=
  ⟨fun b o e _ => k b o e, fun _ h => (nomatch h), fun b o e _ => ⟨o, k b o e⟩, g, d, o⟩
theorem Still.push (s : Shared) (o : Obj) (tk : Tok) : Still c [] ρ s { s with heap := s.heap.push o, toks := tk } :=
  Still.grown (fun b o' e => Heap.get?_push_of_some _ e) rfl rfl rfl
theorem Still.toks (s : Shared) (tk : Tok) : Still c [] ρ s { s with toks := tk } := Still.grown (fun b o' e => e) rfl rfl rfl
theorem RH.at_ {p : Addr × Addr} (R : RH c ρ H s) (hp : p ∈ ρ) : (∃ o, s.heap.get? p.1 = some o) ∧ ∃ o, s.heap.get? p.2 = some o := by
  obtain ⟨i, hi⟩ := List.getElem?_of_mem hp
  have hl : i < H.length := by rw [← R.len]; exact (List.getElem?_eq_some_iff.mp hi).1
  have := R.objs i _ p (List.getElem?_eq_getElem hl) hi
  cases ho' : H[i] with
  | list vs => rw [ho'] at this; obtain ⟨e, xs, n, e1, e2⟩ := this; exact ⟨⟨_, e1⟩, ⟨_, e ▸ e1⟩⟩
  | inst kk fs => rw [ho'] at this; obtain ⟨e, es, n, e1, e2⟩ := this; exact ⟨⟨_, e⟩, ⟨_, e1⟩⟩
  | clo a b => rw [ho'] at this; obtain ⟨e, o, fd, c1, c2, v1, v2, e1, _⟩ := this; exact ⟨⟨_, e1⟩, ⟨_, e ▸ e1⟩⟩
  | dict0 => rw [ho'] at this; obtain ⟨e, o, e1, e2⟩ := this; exact ⟨⟨_, e1⟩, ⟨_, e ▸ e1⟩⟩
theorem RH.add {o : CO} {p : Addr × Addr} (R : RH c ρ H s) (X : Still c [] ρ s s') (n1 : s.heap.get? p.1 = none) (n2 : s.heap.get? p.2 = none) (ho : ORel c (ρ ++ [p]) s'.heap p o) : RH c (ρ ++ [p]) (H ++ [o]) s' := by
  have R' := X.rh R
  have ne : ∀ {a b : Addr}, s.heap.get? b = none → (∃ o, s.heap.get? a = some o) → a ≠ b := fun h1 ⟨o, h2⟩ e => by rw [e, h1] at h2; cases h2
  have lo : ∀ q ∈ ρ, q.1 ≠ p.1 ∧ q.1 ≠ p.2 ∧ q.2 ≠ p.1 ∧ q.2 ≠ p.2 := fun q hq => by
    obtain ⟨a, b⟩ := R.at_ hq
    exact ⟨ne n1 a, ne n2 a, ne n1 b, ne n2 b⟩
  have h0 : ∀ b, s.heap.get? b = none → c.h0.get? b = none := fun b hb => by
    cases q : c.h0.get? b with
    | none => rfl
    | some o => rw [R.base b o q] at hb; cases hb
  have ht : ∃ o, s.heap.get? c.tab = some o := by obtain ⟨ps, e1, _⟩ := R.tabs; exact ⟨_, e1⟩
  refine ⟨R'.base, by rw [List.length_append, List.length_append, R.len]; rfl, fun i o' q e1 e2 => ?_, fun q hq => ?_, fun i j q r e1 e2 hne => ?_, R'.tabs⟩
  · by_cases hi : i < H.length
    · rw [List.getElem?_append_left hi] at e1
      rw [List.getElem?_append_left (by rw [R.len]; exact hi)] at e2
      exact ORel.mono (fun _ _ e _ => e) (fun _ e => e) (fun _ e => e) (R'.objs i o' q e1 e2)
    · rw [List.getElem?_append_right (Nat.not_lt.mp hi)] at e1
      rw [List.getElem?_append_right (by rw [R.len]; exact Nat.not_lt.mp hi), R.len] at e2
      cases hk : i - H.length with
      | zero => rw [hk] at e1 e2; cases e1; cases e2; exact ho
      | succ k => rw [hk] at e1; simp at e1
  · rcases List.mem_append.mp hq with hq | hq
    · exact R.fresh q hq
    · rw [List.mem_singleton.mp hq]
      exact ⟨h0 _ n1, h0 _ n2, (ne n1 ht).symm, (ne n2 ht).symm⟩
  · by_cases hi : i < ρ.length
    · rw [List.getElem?_append_left hi] at e1
      by_cases hj : j < ρ.length
      · rw [List.getElem?_append_left hj] at e2
        exact R.inj i j q r e1 e2 hne
      · rw [List.getElem?_append_right (Nat.not_lt.mp hj)] at e2
        cases hk : j - ρ.length with
        | zero =>
          rw [hk] at e2; cases e2
          exact lo q (List.mem_of_getElem? e1)
        | succ k => rw [hk] at e2; simp at e2
    · rw [List.getElem?_append_right (Nat.not_lt.mp hi)] at e1
      cases hk : i - ρ.length with
      | zero =>
        rw [hk] at e1; cases e1
        by_cases hj : j < ρ.length
        · rw [List.getElem?_append_left hj] at e2
          obtain ⟨l1, l2, l3, l4⟩ := lo r (List.mem_of_getElem? e2)
          exact ⟨l1.symm, l3.symm, l2.symm, l4.symm⟩
        · have h1 : ρ.length ≤ i := Nat.not_lt.mp hi
          have h2 : ρ.length ≤ j := Nat.not_lt.mp hj
          rw [List.getElem?_append_right h2] at e2
          have h3 := (List.getElem?_eq_some_iff.mp e2).1
          simp only [List.length_singleton] at h3
          exact absurd (by (first | lia | omega)) hne
      | succ k => rw [hk] at e1; simp at e1
theorem Ext.add {p : Addr × Addr} (X : Still c [] ρ s s') (n1 : s.heap.get? p.1 = none) (n2 : s.heap.get? p.2 = none) : Ext c [] ρ s (ρ ++ [p]) s' :=
  ⟨⟨[p], rfl, fun q hq => by rw [List.mem_singleton.mp hq]; exact ⟨⟨n1, n2⟩, by simp, by simp⟩⟩, fun b o e _ _ _ => X.keep b o e (fun h => nomatch h), X.imm, X.live, X.gens, X.drawn, X.os⟩
theorem RH.turn {o o' : CO} {i : Nat} {p : Addr × Addr} {a : Addr} (R : RH c ρ H s) (hi : H[i]? = some o) (hp : ρ[i]? = some p) (ha : a = p.1 ∨ a = p.2) (hs : Heap.SameBut a s.heap s'.heap)
    (ni : ∀ x, s.heap.get? a = some x → ¬ Imm x) (ho : ORel c ρ s'.heap p o') : RH c ρ (H.set i o') s' := by
  have hm : p ∈ ρ := List.mem_of_getElem? hp
  have f := R.fresh p hm
  have fa : c.h0.get? a = none ∧ a ≠ c.tab := by rcases ha with rfl | rfl; exact ⟨f.1, f.2.2.1⟩; exact ⟨f.2.1, f.2.2.2⟩
  have imm : ∀ b o, s.heap.get? b = some o → Imm o → s'.heap.get? b = some o := fun b o e im => (hs.2 b (by rintro rfl; exact ni _ e im)).trans e
  refine ⟨fun b x e => (hs.2 b (by rintro rfl; rw [fa.1] at e; cases e)).trans (R.base b x e), by rw [List.length_set]; exact R.len, fun j x q e1 e2 => ?_, R.fresh, R.inj, ?_⟩
  · by_cases hij : i = j
    · subst hij
      rw [hp] at e2; cases e2
      have hl := (List.getElem?_eq_some_iff.mp hi).1
      rw [List.getElem?_set_self hl] at e1; cases e1
      exact ho
    · rw [List.getElem?_set_ne hij] at e1
      obtain ⟨n1, n2, n3, n4⟩ := R.inj i j p q hp e2 hij
      have d1 : q.1 ≠ a := by rcases ha with rfl | rfl; exact n1.symm; exact n3.symm
      have d2 : q.2 ≠ a := by rcases ha with rfl | rfl; exact n2.symm; exact n4.symm
      have := ORel.mono (τ := []) imm (fun o e => (hs.2 _ d1).trans e) (fun o e => (hs.2 _ d2).trans e) (R.objs j x q e1 e2)
      rwa [List.append_nil] at this
  · obtain ⟨ps, e1, e2, e3⟩ := R.tabs
    exact ⟨ps, (hs.2 _ fa.2.symm).trans e1, e2, e3.imp id fun ⟨k, e4, e5⟩ => ⟨k, e4, CodeRec.imm imm e5⟩⟩
theorem Ext.turn {i : Nat} {p : Addr × Addr} {a : Addr} (hp : ρ[i]? = some p) (ha : a = p.1 ∨ a = p.2) (hs : Heap.SameBut a s.heap s'.heap)
    (ni : ∀ x, s.heap.get? a = some x → ¬ Imm x) (hl : ∃ o, s'.heap.get? a = some o) (g : s'.gens = s.gens) (d : s'.drawn = s.drawn) (o : s'.os = s.os) : Ext c W ρ s ρ s' :=
  ⟨⟨[], by rw [List.append_nil], fun _ h => nomatch h⟩, fun b x e n _ _ => (hs.2 b (by have := n p (List.mem_of_getElem? hp); rintro rfl; rcases ha with rfl | rfl; exact this.1 rfl; exact this.2 rfl)).trans e,
    fun b x e im => (hs.2 b (by rintro rfl; exact ni _ e im)).trans e, fun b x e _ => by
      by_cases q : b = a
      · subst q; exact hl
      · exact ⟨x, (hs.2 b q).trans e⟩, g, d, o⟩
theorem VarAt.ext {env : Env} {m : Str → Option Value} {nm : Str} {v : Value} (k : ∀ b o, h.get? b = some o → Imm o → h'.get? b = some o) (r : VarAt env m h nm v) : VarAt env m h' nm v :=
  r.imp id fun ⟨a, b, e, o, g1, g2⟩ => ⟨a, b, e, o, k _ _ g1 (.inr (.inr (.inl ⟨_, g2⟩))), g2⟩
theorem FrameRel.ext {env : Env} {tb : List Str} {loc : List V} {m : Str → Option Value} (F : FrameRel c env tb loc ρ s.heap m) (X : Ext c [] ρ s ρ' s') : FrameRel c env tb loc ρ' s'.heap m := by
  obtain ⟨⟨o, es, ep, ho, hd, hk, hf⟩, fv, ⟨fa, ft, fb⟩, fl⟩ := F
  have hL := X.keep _ _ ho fa (fun h => nomatch h) ft
  refine ⟨⟨o, es, ep, hL, hd, hk, hf⟩, fun i nm e n => ?_, ⟨fun p hp => ?_, ft, fb⟩, fl⟩
  · obtain ⟨v, r, va⟩ := fv i nm e n
    exact ⟨v, X.vrel r, va.ext X.imm⟩
  · obtain ⟨τ, rfl, n⟩ := X.pre
    rcases List.mem_append.mp hp with hp | hp
    · exact fa p hp
    · constructor
      · intro e; rw [e, (n p hp).1.1] at ho; cases ho
      · intro e; rw [e, (n p hp).1.2] at ho; cases ho
end
end Mine
namespace Mine
open PySem PySem.W PySem.Calls PyProof.Rows
section
variable {c : Cfg} {ρ : Pl} {H : Hp} {s : Shared} {A : Around} {Q : V → Hp → Prop}
theorem VRels.length : ∀ {xs : List V} {vs : List Value} {h : Heap}, VRels c ρ h xs vs → vs.length = xs.length
  | [], _, _, r => by simp only [VRels] at r; subst r; rfl
  | x :: xs, _, _, r => by
    simp only [VRels] at r
    obtain ⟨y, ys, rfl, _, r2⟩ := r
    rw [List.length_cons, List.length_cons, VRels.length r2]
theorem VRels.get : ∀ {xs : List V} {vs : List Value} {h : Heap} {i : Nat} {x : V}, VRels c ρ h xs vs → xs[i]? = some x → ∃ v, vs[i]? = some v ∧ VRel c ρ h x v := by
  intro xs
  induction xs with
  | nil =>
    intro _ _ _ _ _ e
    simp at e
  | cons x xs ih0 =>
    intro _ _ i y r e
    simp only [VRels] at r
    obtain ⟨v, vs, rfl, r1, r2⟩ := r
    cases i with
    | zero => simp only [List.getElem?_cons_zero, Option.some.injEq] at e; subst e; exact ⟨v, rfl, r1⟩
    | succ i => rw [List.getElem?_cons_succ] at e ⊢; exact ih0 r2 e
theorem VRels.append : ∀ {xs ys : List V} {vs ws : List Value} {h : Heap}, VRels c ρ h xs vs → VRels c ρ h ys ws → VRels c ρ h (xs ++ ys) (vs ++ ws) := by
  intro xs
  induction xs with
  | nil =>
    intro _ _ _ _ r q
    simp only [VRels] at r; subst r; exact q
  | cons x xs ih0 =>
    intro _ _ _ _ r q
    simp only [VRels] at r
    obtain ⟨v, vs, rfl, r1, r2⟩ := r
    simp only [List.cons_append, VRels]
    exact ⟨v, _, rfl, r1, ih0 r2 q⟩
theorem VRels.take : ∀ {xs : List V} {vs : List Value} {h : Heap} (n : Nat), VRels c ρ h xs vs → VRels c ρ h (xs.take n) (vs.take n) := by
  intro xs
  induction xs with
  | nil =>
    intro _ _ n r
    simp only [VRels] at r; subst r; simp [VRels]
  | cons x xs ih0 =>
    intro _ _ n r
    simp only [VRels] at r
    obtain ⟨v, vs, rfl, r1, r2⟩ := r
    cases n with
    | zero => simp [VRels]
    | succ n => simp only [List.take_succ_cons, VRels]; exact ⟨v, _, rfl, r1, ih0 n r2⟩
theorem VRels.set : ∀ {xs : List V} {vs : List Value} {h : Heap} (i : Nat) {x : V} {v : Value}, VRels c ρ h xs vs → VRel c ρ h x v → VRels c ρ h (xs.set i x) (vs.set i v) := by
  intro xs
  induction xs with
  | nil =>
    intro _ _ i _ _ r _
    simp only [VRels] at r; subst r; simp [VRels]
  | cons x xs ih0 =>
    intro _ _ i y w r q
    simp only [VRels] at r
    obtain ⟨v, vs, rfl, r1, r2⟩ := r
    cases i with
    | zero => simp only [List.set_cons_zero, VRels]; exact ⟨w, _, rfl, q, r2⟩
    | succ i => simp only [List.set_cons_succ, VRels]; exact ⟨v, _, rfl, r1, ih0 i r2 q⟩
theorem VRels.replicate {h : Heap} {x : V} {v : Value} (r : VRel c ρ h x v) : ∀ n, VRels c ρ h (List.replicate n x) (List.replicate n v)
  | 0 => by simp [VRels]
  | n + 1 => by simp only [List.replicate_succ, VRels]; exact ⟨v, _, rfl, r, VRels.replicate r n⟩
theorem VRels.one {h : Heap} {x : V} {v : Value} (r : VRel c ρ h x v) : VRels c ρ h [x] [v] := by simp only [VRels]; exact ⟨v, [], rfl, r, rfl⟩
theorem PE.same {x : V} {v : Value} (R : RH c ρ H s) (r : VRel c ρ s.heap x v) (q : Q x H) : PE c ρ s Q v s := ⟨ρ, x, H, R, .refl, r, q⟩
theorem PE.still {s' : Shared} {x : V} {v : Value} (R : RH c ρ H s) (X : Still c [] ρ s s') (r : VRel c ρ s'.heap x v) (q : Q x H) : PE c ρ s Q v s' := ⟨ρ, x, H, X.rh R, X.ext, r, q⟩
theorem PE.int {i : Int} (R : RH c ρ H s) (q : Q (.int i) H) : PE c ρ s Q (.int i s.toks) { s with toks := s.toks + 1 } := .still R (.toks s _) (by simp only [VRel]; exact ⟨_, rfl⟩) q
theorem PE.bool {b : Bool} (R : RH c ρ H s) (q : Q (.bool b) H) : PE c ρ s Q (.bool b) s := .same R (by simp only [VRel]) q
theorem PE.none (R : RH c ρ H s) (q : Q .none H) : PE c ρ s Q .none s := .same R (by simp only [VRel]) q
theorem PE.trans {s' : Shared} {ρ' : Pl} {v : Value} {s'' : Shared} (X : Ext c [] ρ s ρ' s') (p : PE c ρ' s' Q v s'') : PE c ρ s Q v s'' := by
  obtain ⟨ρ'', x, H', R, Y, r, q⟩ := p
  exact ⟨ρ'', x, H', R, X.trans Y, r, q⟩
theorem newList_pe {xs : List V} {vs : List Value} {tk : Tok} (R : RH c ρ H s) (r : VRels c ρ s.heap xs vs) (q : Q (.obj H.length) (H ++ [.list xs])) :
    PE c ρ s Q (.ref s.heap.objs.size) { s with heap := s.heap.push { cls := .type "list", data := .seq vs.toArray }, toks := tk } := by
  have X : Still c [] ρ s { s with heap := s.heap.push { cls := .type "list", data := .seq vs.toArray }, toks := tk } := .push s _ _
  refine ⟨ρ ++ [(s.heap.objs.size, s.heap.objs.size)], .obj H.length, H ++ [.list xs], R.add (o := .list xs) X (get_none_of_le (Nat.le_refl _)) (get_none_of_le (Nat.le_refl _)) ⟨rfl, vs, 0, Heap.get?_push_size _ rfl, VRels.mono X.imm _ _ r⟩, .add X (get_none_of_le (Nat.le_refl _)) (get_none_of_le (Nat.le_refl _)), ?_, q⟩
  simp only [VRel]
  exact ⟨_, by rw [← R.len, List.getElem?_append_right (Nat.le_refl _), Nat.sub_self]; rfl, rfl⟩
theorem newTuple_pe {xs : List V} {vs : List Value} {tk : Tok} (R : RH c ρ H s) (r : VRels c ρ s.heap xs vs) (q : Q (.tup xs) H) :
    PE c ρ s Q (.ref s.heap.objs.size) { s with heap := s.heap.push { cls := .type "tuple", data := .seq vs.toArray }, toks := tk } := by
  have X : Still c [] ρ s { s with heap := s.heap.push { cls := .type "tuple", data := .seq vs.toArray }, toks := tk } := .push s _ _
  refine .still R X ?_ q
  simp only [VRel]
  exact ⟨_, vs, 0, rfl, Heap.get?_push_size _ rfl, VRels.mono0 X.imm r⟩
theorem RH.isL {i : Nat} {xs : List V} {p : Addr × Addr} (R : RH c ρ H s) (hi : H[i]? = some (.list xs)) (hp : ρ[i]? = some p) :
    p.2 = p.1 ∧ ∃ vs n, IsL s.heap p.1 (List.toArray vs) n ∧ VRels c ρ s.heap xs vs := R.objs i _ p hi hp
theorem le_size {n : Nat} (h : n ≤ 100000) : n ≤ sizeLine := by rw [sizeLine_eq]; (first | lia | omega)
theorem small_lt {a : Int} (h : small a = true) : a.natAbs < 2 ^ 40 := by unfold small at h; simpa using h
theorem bits_le {a : Int} (h : small a = true) : Builtin.Int.intBits a ≤ 64 := by
  have := small_lt h
  exact intBits_le_64 (by (first | lia | omega)) (by (first | lia | omega))
theorem mul_list_at {l : Addr} {items : Array Value} {k : Nat} {x : Int} {u : Tok} {prog : Program} {w : World} {E : Value → Shared → Prop} {Q : Value → Shared → Prop} (hl : IsL s.heap l items k)
    (hlo : -(2 ^ 63 : Int) ≤ x) (hhi : x < 2 ^ 63) (hsz : items.size * x.toNat ≤ 2 ^ 24)
    (h : Q (.ref s.heap.objs.size) { s with heap := s.heap.push { cls := .type "list", data := .seq (List.foldl (fun x1 x2 => x1 ++ x2) #[] (List.replicate (if items.isEmpty = true then 0 else x.toNat) items)) } }) :
    wpAny (model prog w) A (binaryOp .Mult (.ref l) (.int x u)) Q E s :=
  wpAny_binaryOp_repeat_ref (T := "list") (U := "int") (by decide) ⟨_, hl, rfl⟩ (fun s' => typeIs_int s' x u) noFill_list_mul PySem.F.fills_int_mul PySem.F.slot_int_rmul repeat_list PySem.F.slot_int_index.lookup
    (call_meets PySem.F.slot_int_rmul (typeIs_int s x u) PySem.F.entry_int_rmul (PySem.F.args_int_rmul_2 _ _) (int___rmul___int_list x u l items k)
      ⟨hl, rfl, ⟨_, hl, rfl⟩, call_meets PySem.F.slot_list_mul ⟨_, hl, rfl⟩ PySem.F.entry_list_mul (PySem.F.args_list_mul_2 _ _)
        (AutoListH.list___mul___list_int_3 l items k x u (by simp [Builtin.List.listFitsIndex]; (first | lia | omega)) (by (first | lia | omega)) (by simp [Builtin.List.listTooLong, sizeLine]; (first | lia | omega)))
        ⟨hl, h⟩⟩)
theorem rep_flat (v : Value) : ∀ n, List.foldl (fun x1 x2 : Array Value => x1 ++ x2) #[] (List.replicate n #[v]) = (List.replicate n v).toArray := by
  have gen : ∀ n (a : Array Value), List.foldl (fun x1 x2 : Array Value => x1 ++ x2) a (List.replicate n #[v]) = a ++ (List.replicate n v).toArray := by
    intro n
    induction n with
    | zero => intro a; simp
    | succ n ih => intro a; rw [List.replicate_succ, List.foldl_cons, ih]; apply Array.ext'; simp [List.replicate_succ]
  intro n
  rw [gen]; simp
theorem iteS {p : Prop} [Decidable p] {a b : Int} (e : (if p then some a else none) = some b) : p ∧ a = b := by
  by_cases h : p
  · rw [if_pos h] at e; cases e; exact ⟨h, rfl⟩
  · rw [if_neg h] at e; cases e
theorem binop_ok {op : BOp} {x y : V} {a b : Value} (R : RH c ρ H s) (rx : VRel c ρ s.heap x a) (ry : VRel c ρ s.heap y b) (w : binW op x y H Q) :
    wpAny (model c.prog c.w) A (binaryOp op.op a b) (PE c ρ s Q) NoE s := by
  cases x <;> first | exact False.elim w | skip
  · rename_i i
    cases y <;> first | exact False.elim w | skip
    rename_i j
    simp only [VRel] at rx ry
    obtain ⟨t, rfl⟩ := rx
    obtain ⟨u, rfl⟩ := ry
    · obtain ⟨r, e, w⟩ := optF w
      cases op
      · obtain rfl := Option.some.inj e; exact PyProof.Rows.add_int (PE.int R w)
      · obtain rfl := Option.some.inj e; exact PyProof.Rows.sub_int (PE.int R w)
      · obtain ⟨hs, rfl⟩ := iteS e
        refine PyProof.Rows.mul_int (PE.int R w) ?_
        rcases Bool.or_eq_true_iff.mp hs with h | h
        · exact .of_left (bits_le h)
        · exact .of_right (bits_le h)
      · obtain ⟨h, rfl⟩ := iteS e; exact PyProof.Rows.floordiv_int h.1 (PE.int R w) (.inl (PyProof.noPylong_small (by (first | lia | omega))))
      · obtain ⟨h, rfl⟩ := iteS e; exact PyProof.Rows.mod_int' h.1 (PE.int R w)
      · obtain ⟨h, rfl⟩ := iteS e
        refine PyProof.Rows.lshift_int_small h.1 (by (first | lia | omega)) (Nat.lt_of_lt_of_le (small_lt h.2.2) (by decide)) (PE.int R w)
      · obtain ⟨h, rfl⟩ := iteS e; exact PyProof.Rows.rshift_int h (PE.int R w)
      · obtain rfl := Option.some.inj e; exact PyProof.Rows.and_int (PE.int R w)
      · obtain rfl := Option.some.inj e; exact PyProof.Rows.or_int (PE.int R w)
      · obtain rfl := Option.some.inj e; exact PyProof.Rows.xor_int (PE.int R w)
  · rename_i as
    cases y <;> first | exact False.elim w | skip
    rename_i bs
    obtain ⟨rfl, na, nb, hl, q⟩ := w
    simp only [VRel] at rx ry
    obtain ⟨l, xs, n, rfl, hx, rxs⟩ := rx
    obtain ⟨l2, ys, n2, rfl, hy, rys⟩ := ry
    have e1 := VRels.length rxs
    have e2 := VRels.length rys
    have nx : ¬ (List.toArray xs).isEmpty = true := by
      intro h; have h' : xs = [] := by simpa using h
      subst h'; exact na (List.length_eq_zero_iff.mp (by simpa using e1.symm))
    have ny : ¬ (List.toArray ys).isEmpty = true := by
      intro h; have h' : ys = [] := by simpa using h
      subst h'; exact nb (List.length_eq_zero_iff.mp (by simpa using e2.symm))
    refine P.add_tuple hx hy nx ny ?_ (by simp only [List.size_toArray]; exact le_size (by (first | lia | omega)))
    have := newTuple_pe (tk := s.toks) R (VRels.append rxs rys) q
    simpa using this
  · rename_i i
    cases y <;> first | exact False.elim w | skip
    · rename_i n
      obtain ⟨rfl, w⟩ := w
      simp only [VRel] at rx ry
      obtain ⟨p, hp, rfl⟩ := rx
      obtain ⟨u, rfl⟩ := ry
      · obtain ⟨l, ha, w⟩ := lisF w
        rcases l with - | ⟨a, - | ⟨b, l⟩⟩ <;> first | exact False.elim w | skip
        obtain ⟨h0, h1, q⟩ := w
        obtain ⟨-, xs, k, hx, rxs⟩ := R.isL ha hp
        simp only [VRels] at rxs
        obtain ⟨v, ys, rfl, rv, rfl⟩ := rxs
        refine mul_list_at hx (by (first | lia | omega)) (by (first | lia | omega)) (by simp; (first | lia | omega)) ?_
        have e : (if (List.toArray [v]).isEmpty = true then 0 else n.toNat) = n.toNat := by simp
        rw [e]
        have := newList_pe (tk := s.toks) R (VRels.replicate rv n.toNat) q
        rw [← rep_flat] at this
        exact this
    · rename_i j
      obtain ⟨rfl, w⟩ := w
      simp only [VRel] at rx ry
      obtain ⟨p, hp, rfl⟩ := rx
      obtain ⟨p2, hp2, rfl⟩ := ry
      · obtain ⟨as, ha, w⟩ := lisF w
        obtain ⟨bs, hb, hl, q⟩ := lisF w
        obtain ⟨-, xs, n, hx, rxs⟩ := R.isL ha hp
        obtain ⟨-, ys, n2, hy, rys⟩ := R.isL hb hp2
        have e1 := VRels.length rxs
        have e2 := VRels.length rys
        refine P.add_list hx hy ?_ (by simp only [List.size_toArray]; exact le_size (by (first | lia | omega)))
        have := newList_pe (tk := s.toks) R (VRels.append rxs rys) q
        simpa using this
theorem tg_ok (t : Tg) : (PyData.str t.str).canLay0 = true := by cases t <;> decide +kernel
noncomputable def allTg : List Tg := [.kVar, .kConst, .kBelow, .kSet, .kCase, .kCasez, .kCasex, .kIf, .kFor, .kWhile, .kRepeat, .kBlock, .kForever, .kJump, .kUnless, .kMatch, .kTimes, .kAgain, .kEnter, .kSave, .kLocal, .kEnd, .kKept, .kHost, .kTop, .kNba, .kFork, .kDelay, .kAwait, .kWait, .kLeave]
noncomputable def tgOf (s : Str) : Option Tg := allTg.find? fun t => t.str == s
theorem tgOf_str (a : Tg) : tgOf a.str = some a := by cases a <;> decide +kernel
theorem tg_inj {a b : Tg} (h : a.str = b.str) : a = b := by
  have h1 := tgOf_str a
  rw [h, tgOf_str] at h1
  exact (Option.some.inj h1).symm
theorem tg_beq (a b : Tg) : (a.str == b.str) = decide (a = b) := by
  by_cases h : a = b
  · subst h; simp
  · have : a.str ≠ b.str := fun e => h (tg_inj e)
    rw [decide_eq_false h]; exact beq_eq_false_iff_ne.mpr this
theorem Dat.reads (R : RH c ρ H s) {x : V} {d : PyData} {v : Value} (h : Dat H x d) (r : VRel c ρ s.heap x v) : ∃ as, Reads s.heap v d as := by
  refine Dat.rec (motive_1 := fun x d _ => ∀ v, VRel c ρ s.heap x v → ∃ as, Reads s.heap v d as) (motive_2 := fun xs ds _ => ∀ vs, VRels c ρ s.heap xs vs → ∃ as, ReadsAll s.heap vs ds as) ?_ ?_ ?_ ?_ ?_ ?_ ?_ ?_ h v r
  · intro v r; cases r; exact ⟨_, .none⟩
  · intro b v r; cases r; exact ⟨_, .bool b⟩
  · intro i v r; obtain ⟨t, rfl⟩ := r; exact ⟨_, .int i t⟩
  · intro t v r; obtain ⟨k, rfl⟩ := r; exact ⟨_, .str _ k⟩
  · intro vs ds _ ih v r
    simp only [VRel] at r
    obtain ⟨a, xs, n, rfl, ht, rs⟩ := r
    obtain ⟨as, q⟩ := ih _ rs
    exact ⟨_, reads_tuple_at ht rfl rfl q⟩
  · intro i vs ds hi _ ih v r
    simp only [VRel] at r
    obtain ⟨p, hp, rfl⟩ := r
    obtain ⟨_, xs, n, hl, rs⟩ := R.isL hi hp
    obtain ⟨as, q⟩ := ih _ rs
    exact ⟨_, reads_list_at hl rfl rfl q⟩
  · intro vs r; cases r; exact ⟨_, .nil⟩
  · intro v d vs ds _ _ ih1 ih2 ws r
    simp only [VRels] at r
    obtain ⟨y, ys, rfl, r1, r2⟩ := r
    obtain ⟨as, q⟩ := ih1 _ r1
    obtain ⟨bs, qs⟩ := ih2 _ r2
    exact ⟨_, .cons q qs⟩
theorem Dat.can {x : V} {d : PyData} (h : Dat H x d) : d.canLay0 = true :=
  Dat.rec (motive_1 := fun _ d _ => d.canLay0 = true) (motive_2 := fun _ ds _ => PyData.canLayAll0 ds = true) rfl (fun _ => rfl) (fun _ => rfl) tg_ok (fun _ ih => by rw [PyData.canLay0]; exact ih) (fun _ _ ih => by rw [PyData.canLay0]; exact ih) rfl
    (fun _ _ ih1 ih2 => by rw [PyData.canLayAll0, ih1, ih2]; rfl) h
theorem Room.units {n : Nat} (r : Room A n) : A.units + 200 < cLine := by obtain ⟨_, _, h⟩ := r; unfold cLine; (first | lia | omega)
theorem eq_ok {n : Nat} {pos : Bool} {x y : V} {a b : Value} (A0 : Room A n) (R : RH c ρ H s) (rx : VRel c ρ s.heap x a) (ry : VRel c ρ s.heap y b) (w : eqW pos x y H Q) :
    wpAny (model c.prog c.w) A (compareOp (if pos then .Eq else .NotEq) a b) (PE c ρ s Q) NoE s := by
  cases x <;> first | exact False.elim w | skip
  · rename_i i
    cases y <;> first | exact False.elim w | skip
    rename_i j
    simp only [VRel] at rx ry
    subst rx ry
    cases pos
    · refine PyProof.Rows.ne_bool (PE.bool R ?_)
      have : (i != j) = (decide (i = j) == false) := by cases i <;> cases j <;> rfl
      rw [this]; exact w
    · refine PyProof.Rows.eq_bool (PE.bool R ?_)
      have : (i == j) = (decide (i = j) == true) := by cases i <;> cases j <;> rfl
      rw [this]; exact w
  · rename_i i
    cases y <;> first | exact False.elim w | skip
    rename_i j
    simp only [VRel] at rx ry
    obtain ⟨t, rfl⟩ := rx
    obtain ⟨u, rfl⟩ := ry
    cases pos
    · refine PyProof.Rows.ne_int (PE.bool R ?_)
      have : (i != j) = (decide (i = j) == false) := by by_cases h : i = j <;> simp [h]
      rw [this]; exact w
    · refine PyProof.Rows.eq_int (PE.bool R ?_)
      have : (i == j) = (decide (i = j) == true) := by by_cases h : i = j <;> simp [h]
      rw [this]; exact w
  · rename_i i
    cases y <;> first | exact False.elim w | skip
    rename_i j
    simp only [VRel] at rx ry
    obtain ⟨t, rfl⟩ := rx
    obtain ⟨u, rfl⟩ := ry
    cases pos
    · refine PyProof.Rows.ne_str (PE.bool R ?_)
      have : (i.str != j.str) = (decide (i = j) == false) := by rw [bne, tg_beq]; by_cases h : i = j <;> simp [h]
      rw [this]; exact w
    · refine PyProof.Rows.eq_str (PE.bool R ?_)
      have : (i.str == j.str) = (decide (i = j) == true) := by rw [tg_beq]; by_cases h : i = j <;> simp [h]
      rw [this]; exact w
  · rename_i i
    cases y <;> first | exact False.elim w | skip
    rename_i j
    obtain ⟨⟨d, d1, d2, hd⟩, q⟩ := w
    obtain ⟨as, r1⟩ := d1.reads R rx
    obtain ⟨bs, r2⟩ := d2.reads R ry
    have sh : SeqAt.shaped d = true := by unfold SeqAt.shaped; rw [d1.can]; simpa using hd
    have hu := A0.units
    have e : PyData.eqv d d = true := SeqAt.eqv_refl d d1.can
    cases pos
    · refine ne_dataH r1 r2 sh sh (by (first | lia | omega)) ?_
      rw [e]; exact PE.bool R q
    · refine eq_dataH r1 r2 sh sh (by (first | lia | omega)) ?_
      rw [e]; exact PE.bool R q
theorem any_ints {l : List V} : ∀ {xs : List Value} {i : Int} {b : Bool} {h : Heap}, amongI i l = some b → VRels c ρ h l xs →
    (∀ y ∈ xs, ∃ k t, y = .int k t) ∧ xs.any (fun y => match y with | .int k _ => k == i | _ => false) = b := by
  induction l with
  | nil => intro xs i b h e r; cases e; cases r; exact ⟨fun y hy => (nomatch hy), rfl⟩
  | cons x l ih0 =>
    intro xs i b h e r
    cases x <;> first | (have z : (none : Option Bool) = some b := e; cases z; done) | skip
    rename_i a
    simp only [VRels, VRel] at r
    obtain ⟨y, ys, rfl, ⟨t, rfl⟩, r2⟩ := r
    obtain ⟨b', e1, rfl⟩ := Option.map_eq_some_iff.mp (show (amongI i l).map (fun b => decide (i = a) || b) = some b from e)
    obtain ⟨h1, h2⟩ := ih0 e1 r2
    refine ⟨fun y hy => ?_, ?_⟩
    · rcases List.mem_cons.mp hy with rfl | hy
      · exact ⟨_, _, rfl⟩
      · exact h1 y hy
    · rw [List.any_cons, h2]
      congr 1
      by_cases q : i = a
      · simp [q]
      · have : ¬ a = i := fun e => q e.symm
        simp [q, this]
theorem any_strs {l : List V} : ∀ {xs : List Value} {i : Tg} {b : Bool} {h : Heap}, amongS i l = some b → VRels c ρ h l xs →
    (∀ y ∈ xs, ∃ (k : Tg) (t : Tok), y = .str k.str t) ∧ xs.any (fun y => match y with | .str k _ => k.cps.toList == i.str.cps.toList | _ => false) = b := by
  induction l with
  | nil => intro xs i b h e r; cases e; cases r; exact ⟨fun y hy => (nomatch hy), rfl⟩
  | cons x l ih0 =>
    intro xs i b h e r
    cases x <;> first | (have z : (none : Option Bool) = some b := e; cases z; done) | skip
    rename_i a
    simp only [VRels, VRel] at r
    obtain ⟨y, ys, rfl, ⟨t, rfl⟩, r2⟩ := r
    obtain ⟨b', e1, rfl⟩ := Option.map_eq_some_iff.mp (show (amongS i l).map (fun b => decide (i = a) || b) = some b from e)
    obtain ⟨h1, h2⟩ := ih0 e1 r2
    refine ⟨fun y hy => ?_, ?_⟩
    · rcases List.mem_cons.mp hy with rfl | hy
      · exact ⟨_, _, rfl⟩
      · exact h1 y hy
    · rw [List.any_cons, h2]
      congr 1
      by_cases q : i = a
      · simp [q]
      · have n : ¬ a.str.cps.toList = i.str.cps.toList := fun e => q (by
          refine (tg_inj ?_).symm
          have := Array.toList_inj.mp e
          cases ha : a.str; cases hi : i.str; rw [ha, hi] at this; exact congrArg _ this)
        rw [decide_eq_false q]
        exact beq_eq_false_iff_ne.mpr n
theorem in_ok {x y : V} {a b : Value} (R : RH c ρ H s) (rx : VRel c ρ s.heap x a) (ry : VRel c ρ s.heap y b) (w : inW x y H Q) :
    wpAny (model c.prog c.w) A (compareOp .In a b) (PE c ρ s Q) NoE s := by
  have insI : ∀ {xs : List Value} {i : Int} {t : Tok}, (∀ y ∈ xs, ∃ k t, y = .int k t) → ∀ y, y ∈ xs.toArray → MeetsSeq.EqGives y (.int i t) ((fun y => match y with | .int k _ => k == i | _ => false) y) := fun h y hy => by
    obtain ⟨k, t, rfl⟩ := h y (by simpa using hy)
    exact MeetsSeq.EqGives.int _ _ _ _
  cases x <;> first | exact False.elim w | skip
  · rename_i i
    cases y <;> first | exact False.elim w | skip
    · rename_i l
      obtain ⟨r, e, w⟩ := optF w
      simp only [VRel] at rx ry
      obtain ⟨t, rfl⟩ := rx
      obtain ⟨p, xs, n, rfl, ht, rs⟩ := ry
      obtain ⟨h1, h2⟩ := any_ints e rs
      refine SeqRoads2.in_tuple _ (insI h1) ht (PE.bool R ?_)
      rw [List.any_toArray, h2]; exact w
    · rename_i j
      obtain ⟨l, hl, w⟩ := lisF w
      obtain ⟨r, e, w⟩ := optF w
      simp only [VRel] at rx ry
      obtain ⟨t, rfl⟩ := rx
      obtain ⟨p, hp, rfl⟩ := ry
      obtain ⟨_, xs, n, ht, rs⟩ := R.isL hl hp
      obtain ⟨h1, h2⟩ := any_ints e rs
      refine SeqRoads2.in_list _ (insI h1) ht (PE.bool R ?_)
      rw [List.any_toArray, h2]; exact w
  · rename_i i
    cases y <;> first | exact False.elim w | skip
    rename_i l
    obtain ⟨r, e, w⟩ := optF w
    simp only [VRel] at rx ry
    obtain ⟨t, rfl⟩ := rx
    obtain ⟨p, xs, n, rfl, ht, rs⟩ := ry
    obtain ⟨h1, h2⟩ := any_strs e rs
    refine SeqRoads2.in_tuple (fun y => match y with | .str k _ => k.cps.toList == i.str.cps.toList | _ => false) (fun y hy => ?_) ht (PE.bool R ?_)
    · obtain ⟨k, t, rfl⟩ := h1 y (by simpa using hy)
      exact SeqRoads2.EqGives.str _ _ _ _
    · rw [List.any_toArray, h2]; exact w
theorem vrel_none {x : V} {v : Value} {h : Heap} (r : VRel c ρ h x v) (hx : x ≠ .und) : (v == Value.none) = x.isNone := by
  cases x <;> simp only [VRel] at r <;> try (first | (subst r; rfl) | (obtain ⟨t, rfl⟩ := r; rfl))
  · obtain ⟨_, _, _, rfl, _⟩ := r; rfl
  · obtain ⟨_, _, rfl⟩ := r; rfl
theorem cmp_ok {n : Nat} {op : COp} {x y : V} {a b : Value} (A0 : Room A n) (R : RH c ρ H s) (rx : VRel c ρ s.heap x a) (ry : VRel c ρ s.heap y b) (w : cmpW op x y H Q) :
    wpAny (model c.prog c.w) A (compareOp op.op a b) (PE c ρ s Q) NoE s := by
  cases op
  · exact eq_ok (pos := true) A0 R rx ry w
  · exact eq_ok (pos := false) A0 R rx ry w
  · obtain ⟨i, rfl, w⟩ := intF w
    obtain ⟨j, rfl, w⟩ := intF w
    simp only [VRel] at rx ry
    obtain ⟨t, rfl⟩ := rx
    obtain ⟨u, rfl⟩ := ry
    exact PyProof.Rows.lt_int (PE.bool R w)
  · obtain ⟨i, rfl, w⟩ := intF w
    obtain ⟨j, rfl, w⟩ := intF w
    simp only [VRel] at rx ry
    obtain ⟨t, rfl⟩ := rx
    obtain ⟨u, rfl⟩ := ry
    exact PyProof.Rows.le_int (PE.bool R w)
  · obtain ⟨i, rfl, w⟩ := intF w
    obtain ⟨j, rfl, w⟩ := intF w
    simp only [VRel] at rx ry
    obtain ⟨t, rfl⟩ := rx
    obtain ⟨u, rfl⟩ := ry
    exact PyProof.Rows.gt_int (PE.bool R w)
  · obtain ⟨i, rfl, w⟩ := intF w
    obtain ⟨j, rfl, w⟩ := intF w
    simp only [VRel] at rx ry
    obtain ⟨t, rfl⟩ := rx
    obtain ⟨u, rfl⟩ := ry
    exact PyProof.Rows.ge_int (PE.bool R w)
  · cases y <;> first | exact False.elim w | skip
    simp only [VRel] at ry
    subst ry
    have hx : x ≠ .und := fun e => by subst e; exact w
    refine is_none (PE.bool R ?_)
    rw [vrel_none rx hx]; cases x <;> first | exact w | exact (hx rfl).elim
  · cases y <;> first | exact False.elim w | skip
    simp only [VRel] at ry
    subst ry
    have hx : x ≠ .und := fun e => by subst e; exact w
    refine isNot_none (PE.bool R ?_)
    rw [vrel_none rx hx]; cases x <;> first | exact w | exact (hx rfl).elim
  · exact in_ok R rx ry w
theorem small_int {k : Int} (h : small k = true) : -(2 ^ 40 : Int) < k ∧ k < 2 ^ 40 := by have := small_lt h; (first | lia | omega)
theorem pyGet_seq {vs : List V} {k : Int} {x : V} (e : pyGet vs k = some x) : ∃ j, seqIndex? k vs.length = some j ∧ vs[j]? = some x := by
  unfold pyGet at e
  split at e
  · rename_i h0
    have hl := (List.getElem?_eq_some_iff.mp e).1
    exact ⟨_, PySem.seqIndex_of h0 (by (first | lia | omega)), e⟩
  · rename_i h0
    split at e
    · rename_i h1
      exact ⟨_, PySem.seqIndex_neg (by (first | lia | omega)) (by (first | lia | omega)), e⟩
    · cases e
theorem idx_ok {o i : V} {a b : Value} (R : RH c ρ H s) (rx : VRel c ρ s.heap o a) (ry : VRel c ρ s.heap i b) (w : idxW o i H Q) :
    wpAny (model c.prog c.w) A (getItem a b) (PE c ρ s Q) NoE s := by
  cases o <;> first | exact False.elim w | skip
  · rename_i vs
    obtain ⟨k, rfl, w⟩ := intF w
    obtain ⟨x, e, hs, q⟩ := optF w
    simp only [VRel] at rx ry
    obtain ⟨p, xs, n, rfl, ht, rs⟩ := rx
    obtain ⟨u, rfl⟩ := ry
    obtain ⟨j, e1, e2⟩ := pyGet_seq e
    obtain ⟨v, e3, rv⟩ := VRels.get rs e2
    have := small_int hs
    refine P.getItem_tuple ht (by (first | lia | omega)) (by (first | lia | omega)) (k := j) (by rw [List.size_toArray, VRels.length rs]; exact e1) (y := v) (by simpa using e3) (PE.same R rv q)
  · rename_i j
    obtain ⟨k, rfl, w⟩ := intF w
    obtain ⟨vs, hl, w⟩ := lisF w
    obtain ⟨x, e, h0, hs, q⟩ := optF w
    simp only [VRel] at rx ry
    obtain ⟨p, hp, rfl⟩ := rx
    obtain ⟨u, rfl⟩ := ry
    obtain ⟨_, xs, n, ht, rs⟩ := R.isL hl hp
    unfold pyGet at e
    rw [if_pos h0] at e
    obtain ⟨v, e3, rv⟩ := VRels.get rs e
    have := small_int hs
    exact wpAny_getItem_list ht.isList h0 (by (first | lia | omega)) (by simpa using e3) (PE.same R rv q)
end
end Mine
namespace Mine
open PySem PySem.W PySem.Calls PyProof.Rows
set_option genCtorIdx true
inductive Bn where
  | len | range | list | int | tuple | max | sum | isinstance | bool
set_option genCtorIdx false
noncomputable def Bn.str : Bn → Str
  | .len => Str.ofString "len" | .range => Str.ofString "range" | .list => Str.ofString "list" | .int => Str.ofString "int" | .tuple => Str.ofString "tuple"
  | .max => Str.ofString "max" | .sum => Str.ofString "sum" | .isinstance => Str.ofString "isinstance" | .bool => Str.ofString "bool"
noncomputable def Bn.val : Bn → Value
  | .len => .builtin "len" | .range => .type "range" | .list => .type "list" | .int => .type "int" | .tuple => .type "tuple"
  | .max => .builtin "max" | .sum => .builtin "sum" | .isinstance => .builtin "isinstance" | .bool => .type "bool"
structure Stat (c : Cfg) : Prop where
  X : c.K.In c.h0
  nolimit : c.h0.NoLimit
  glob : ∃ mg mb, c.h0.Ns mainGlobals mg ∧ c.h0.Ns builtinsNs mb ∧ (∀ f : Fn, mg f.str = some (.ref (c.fnA f))) ∧ (∀ k : Cls, mg k.str = some (.ref (c.clsA k))) ∧
    (∀ b : Bn, mg b.str = none ∧ mb b.str = some b.val) ∧ c.h0.BuiltinsAt mg c.tab
  fn : ∀ f : Fn, ∃ o fd, c.h0.get? (c.fnA f) = some o ∧ o.data = .func fd ∧ DefOk f.st fd ∧ fd.closure = [] ∧ c.h0.CodeRec fd.code fd.qualname
  mt : ∀ m : Mt, ∃ o fd, c.h0.get? (c.mtA m) = some o ∧ o.data = .func fd ∧ DefOk m.st fd ∧ fd.closure = [] ∧ c.h0.CodeRec fd.code fd.qualname
  folCode : ∀ o fd, c.h0.get? (c.fnA .follow) = some o → o.data = .func fd → fd.code = .ref c.cod ∧ fd.qualname = Fn.follow.str
  codeHd : CodeHd c.h0 c.cod c.tab
  get : ∀ k : Cls, findIn c.K (.ref (c.clsA k)) (Str.ofString "__getattribute__") = some (some (.builtin "object.__getattribute__")) ∧ findIn c.K (.ref (c.clsA k)) (Str.ofString "__getattr__") = some none
  hasDict : ∀ k : Cls, hasDictIn c.K (c.clsA k) = true
  attr : ∀ (k : Cls) (a : At), findIn c.K (.ref (c.clsA k)) a.str = some none
  meth : ∀ m : Mt, findIn c.K (.ref (c.clsA m.cls)) m.str = some (some (.ref (c.mtA m))) ∧ isFn c.K (.ref (c.mtA m)) = true
  sets : ∀ k : Cls, findIn c.K (.ref (c.clsA k)) (Str.ofString "__setattr__") = some (some (.builtin "object.__setattr__")) ∧ plainOver c.K (c.clsA k) = true
  makes : ∀ k : Cls, makesIn c.K (c.clsA k) = true
  keepC : ∀ k : Cls, keepIn c.K (.ref (c.clsA k)) = true
  scrAt : ∃ vs, c.h0.IsList c.scrA (List.toArray vs) ∧ IntsAre vs c.scr ∧ c.scr.length ≤ 63
noncomputable def allAt : List At := [.slots, .code, .number, .pc, .frame, .path, .calls, .scopes, .parent, .children, .done, .wait, .stamp, .looking, .again, .evaluateIn]
noncomputable def atOf (s : Str) : Option At := allAt.find? fun t => t.str == s
theorem atOf_str (a : At) : atOf a.str = some a := by cases a <;> decide +kernel
theorem at_inj {a b : At} (h : a.str = b.str) : a = b := by
  have h1 := atOf_str a
  rw [h, atOf_str] at h1
  exact (Option.some.inj h1).symm
theorem at_beq (a b : At) : (a.str == b.str) = decide (b = a) := by
  by_cases h : b = a
  · subst h; simp
  · rw [decide_eq_false h]; exact beq_eq_false_iff_ne.mpr fun e => h (at_inj e).symm
theorem at_mt (a : At) (m : Mt) : a.str ≠ m.str := by
  have h : atOf m.str = none := by cases m <;> decide +kernel
  intro e
  rw [← e, atOf_str] at h
  cases h
section
variable {c : Cfg} {ρ : Pl} {H : Hp} {s : Shared} {A : Around} {Q : V → Hp → Prop}
theorem RH.K (S : Stat c) (R : RH c ρ H s) : c.K.In s.heap := fun a o e => R.base _ _ (S.X a o e)
theorem FRel.look {h : Heap} {fs : List (At × V)} {es : List DictEntry} (r : FRel c ρ h fs es) {a : At} {x : V} (e : lookF a fs = some x) : ∃ v, getL a.str es = some (some v) ∧ VRel c ρ h x v := by
  induction r with
  | nil => cases e
  | @cons b y fs d es hk hv _ ih =>
    obtain ⟨t, hk⟩ := hk
    unfold lookF at e
    have hb : d.key.isStr a.str = decide (a = b) := by rw [hk]; exact at_beq b a
    unfold getL
    rw [List.find?_cons, hb]
    split at e
    · rename_i q; subst q; cases e; exact ⟨_, by simp, hv⟩
    · rename_i q
      rw [decide_eq_false q]
      obtain ⟨v, e1, e2⟩ := ih e
      refine ⟨v, ?_, e2⟩
      unfold getL at e1
      dsimp only
      cases hf : es.find? (·.key.isStr a.str) with
      | some z => rw [hf] at e1; exact e1
      | none =>
        rw [hf] at e1
        dsimp only at e1
        split at e1 <;> cases e1
theorem FRel.keys {h : Heap} {fs : List (At × V)} {es : List DictEntry} (r : FRel c ρ h fs es) : es.any (·.refKey) = false := by
  induction r with
  | nil => rfl
  | cons hk _ _ ih => obtain ⟨t, hk⟩ := hk; rw [List.any_cons, ih]; unfold DictEntry.refKey; rw [hk]; rfl
theorem FRel.noMeth {h : Heap} {fs : List (At × V)} {es : List DictEntry} (r : FRel c ρ h fs es) (m : Mt) : getL m.str es = some none := by
  have k := r.keys
  have n : es.find? (·.key.isStr m.str) = none := by
    clear k
    induction r with
    | nil => rfl
    | @cons b _ _ d _ hk _ _ ih =>
      obtain ⟨t, hk⟩ := hk
      have hb : d.key.isStr m.str = false := by rw [hk]; exact beq_eq_false_iff_ne.mpr (at_mt b m)
      rw [List.find?_cons, hb]; exact ih
  unfold getL
  rw [n, k]; rfl
theorem FRel.len {h : Heap} {fs : List (At × V)} {es : List DictEntry} (r : FRel c ρ h fs es) : es.length = fs.length := by
  induction r with
  | nil => rfl
  | cons _ _ _ ih => rw [List.length_cons, List.length_cons, ih]
theorem FRel.put {h : Heap} {fs : List (At × V)} {es : List DictEntry} (r : FRel c ρ h fs es) {a : At} {x : V} {v : Value} (rv : VRel c ρ h x v) (hsh : Int) (t : Tok) :
    FRel c ρ h (putF a x fs) (putL a.str hsh (.str a.str t) v es) := by
  induction r with
  | nil => exact .cons ⟨t, rfl⟩ rv .nil
  | @cons b y fs d es hk hv hr ih =>
    obtain ⟨u, hk⟩ := hk
    have hb : d.key.isStr a.str = decide (a = b) := by rw [hk]; exact at_beq b a
    unfold putF putL
    rw [hb]
    by_cases q : a = b
    · subst q
      rw [decide_eq_true rfl, if_pos rfl, if_pos rfl]
      exact .cons ⟨u, hk⟩ rv hr
    · rw [decide_eq_false q, if_neg q, if_neg (by decide)]
      exact .cons ⟨u, hk⟩ hv ih
theorem putF_len (a : At) (x : V) : ∀ fs : List (At × V), (putF a x fs).length ≤ fs.length + 1
  | [] => Nat.le_refl _
  | (b, y) :: r => by
    unfold putF
    split
    · simp
    · simp only [List.length_cons]; have := putF_len a x r; (first | lia | omega)
theorem vrel_handed {x : V} {v : Value} {h : Heap} (r : VRel c ρ h x v) : handedIn v = true := by
  cases x <;> simp only [VRel] at r <;> try (first | exact r.elim | (subst r; rfl) | (obtain ⟨t, rfl⟩ := r; rfl))
  · obtain ⟨_, _, _, rfl, _⟩ := r; rfl
  · obtain ⟨_, _, rfl⟩ := r; rfl
theorem ORel.inst {k : Cls} {fs : List (At × V)} {p : Addr × Addr} {h : Heap} (o : ORel c ρ h p (.inst k fs)) : ∃ es n, InstAt h p.1 (instObj (c.clsA k) p.2) (c.clsA k) (some (dictOf es n)) ∧ FRel c ρ h fs es ∧ h.get? p.2 = some (dictOf es n) := by
  obtain ⟨e, es, n, e1, r⟩ := o
  exact ⟨es, n, ⟨e, rfl, rfl, e1⟩, r, e1⟩
theorem att_ok (S : Stat c) {o : V} {a : At} {v : Value} {ex : Bool} (R : RH c ρ H s) (rx : VRel c ρ s.heap o v) (w : attW o a H Q) :
    wpAny (model c.prog c.w) A (getAttr v a.str ex) (PE c ρ s Q) NoE s := by
  obtain ⟨i, rfl, w⟩ := objF w
  obtain ⟨k, fs, hi, w⟩ := insF w
  obtain ⟨x, e, w⟩ := optF w
  simp only [VRel] at rx
  obtain ⟨p, hp, rfl⟩ := rx
  obtain ⟨es, n, I, r, _⟩ := ORel.inst (R.objs _ _ _ hi hp)
  obtain ⟨y, e1, ry⟩ := r.look e
  refine get_value (R.K S) I (S.get k).1 (findObj_own (S.hasDict k) (S.attr k a) rfl (by rw [lookIn_dict]; exact e1)) (vrel_handed ry) ?_
  exact PE.still R (.toks s _) ry w
theorem not_imm_dict {es : List DictEntry} {n : Nat} : ¬ Imm (dictOf es n) := by simp [Imm]
theorem not_imm_list {xs : Array Value} {n : Nat} : ¬ Imm { cls := .type "list", data := .seq xs n } := by simp [Imm]
theorem setA_ok (S : Stat c) {o x : V} {a : At} {ov v : Value} {Qh : Hp → Prop} (R : RH c ρ H s) (rx : VRel c ρ s.heap o ov) (rv : VRel c ρ s.heap x v) (w : asgAW o a x H Qh) :
    wpAny (model c.prog c.w) A (setAttr ov a.str v) (fun _ s' => ∃ ρ' H', RH c ρ' H' s' ∧ Ext c [] ρ s ρ' s' ∧ Qh H') NoE s := by
  obtain ⟨i, rfl, w⟩ := objF w
  obtain ⟨k, fs, hi, hl, q⟩ := insF w
  simp only [VRel] at rx
  obtain ⟨p, hp, rfl⟩ := rx
  obtain ⟨es, n, I, r, hd⟩ := ORel.inst (R.objs _ _ _ hi hp)
  have X := R.K S
  refine set_plain X I (S.sets k).1 ?_
  have X1 : c.K.In ({ s with toks := s.toks + 1 } : Shared).heap := X
  refine osa_open (s := { s with toks := s.toks + 1 }) X1 I (S.sets k).2 (r := none) (by unfold takerIn; rw [S.attr k a]; rfl) fun b => ?_
  obtain ⟨cd, hc, hd'⟩ := any_some (S.hasDict k)
  refine wpAny_bind (wpAny_pure (wpAny_bind (wpAny_bind (wpAny_loadPart I.at_ (wpAny_bind ((looks_clsIn X1 hc).here ?_))))))
  rw [hd']
  refine wpAny_pure (a := some p.2) (wpAny_bind (wpAny_pure (wpAny_bind ?_)))
  unfold nsSet
  refine wpAny_bind (wpAny_bind (wpAny_askSetting (wpAny_pure (wpAny_bind (wpAny_mkText (wpAny_bind (wpAny_loadPart hd ?_)))))))
  have ck : (!(List.toArray es).any (·.key.isStr a.str) && (List.toArray es).any (·.refKey)) = false := by
    rw [List.any_toArray, List.any_toArray, r.keys, Bool.and_false]
  dsimp only
  rw [aRefKeyMayBeTheName_at, ck]
  refine wpAny_updatePart hd ?_
  have hput := putName_dict a.str (PyData.keyHash c.w.params a.str) (.str a.str (s.toks + 1)) v es n
  have D' : (s.heap.update p.2 (Obj.putName a.str (PyData.keyHash c.w.params a.str) (.str a.str (s.toks + 1)) v)).get? p.2 = some (dictOf (putL a.str (PyData.keyHash c.w.params a.str) (.str a.str (s.toks + 1)) v es) (putN a.str es n)) := by
    rw [← hput]; exact Heap.get?_update_self _ hd (by rw [hput]; rfl)
  have r' := r.put (a := a) rv (PyData.keyHash c.w.params a.str) (s.toks + 1)
  have hlen := r'.len
  have hl2 := putF_len a x fs
  refine wpAny_bind (wpAny_lookBehind D' (pastItsLine_dict (by rw [List.size_toArray, sizeLine_eq]; (first | lia | omega))) ?_)
  refine wpAny_pure ?_
  have sb := Heap.SameBut.update s.heap p.2 (Obj.putName a.str (PyData.keyHash c.w.params a.str) (.str a.str (s.toks + 1)) v)
  have ni : ∀ y, s.heap.get? p.2 = some y → ¬ Imm y := fun y e => by rw [hd] at e; cases e; exact not_imm_dict
  have np : p.1 ≠ p.2 := fun e => by have := I.at_; rw [e, hd] at this; cases this
  have imm : ∀ b o, s.heap.get? b = some o → Imm o → (s.heap.update p.2 (Obj.putName a.str (PyData.keyHash c.w.params a.str) (.str a.str (s.toks + 1)) v)).get? b = some o := fun b o e im =>
    (sb.2 b (by rintro rfl; exact ni _ e im)).trans e
  refine ⟨ρ, H.set i (.inst k (putF a x fs)), R.turn (s' := { s with heap := s.heap.update p.2 _, toks := s.toks + 2 }) hi hp (.inr rfl) sb ni ⟨(sb.2 _ np).trans I.at_, _, _, D', ?_⟩, Ext.turn hp (.inr rfl) sb ni ⟨_, D'⟩ rfl rfl rfl, q⟩
  have := FRel.mono (τ := []) imm r'
  rwa [List.append_nil] at this
theorem setItem_at {prog : Program} {w : World} {E : Value → Shared → Prop} {l : Addr} {items : Array Value} {m : Nat} {k : Int} {t : Tok} {v : Value} {Q : Unit → Shared → Prop} (hl : IsL s.heap l items m)
(h0 : 0 ≤ k) (hfit : k < 2 ^ 63) (hn : k < items.size)
(hQ : ∀ h' m', IsL h' l (items.setIfInBounds k.toNat v) m' → Heap.SameBut l s.heap h' → Q () { s with heap := h' }) :
wpAny (model prog w) A (setItem (.ref l) (.int k t) v) Q E s := by
  have hl' := hl.isList
  unfold setItem
  refine wpAny_holding ?_
  refine wpAny_bind (wpAny_sequenceKey hl'.typeIs (by decide) ?_)
  refine wpAny_bind (wpAny_callSpecial?_slot (name := Str.ofString "__setitem__") hl'.typeIs slot_list_setitem
(wpAny_call_entry slot_list_setitem hl'.typeIs entry_list_setitem ?_ (args_list_setitem _ _ _)))
  show wpAny _ _ (Builtin.List.listSubscript? (.int k t) >>= _) _ _ s
  refine wpAny_bind (wpAny_listSubscript_int (fitsIndex_of h0 hfit) ?_)
  clear hfit
  obtain ⟨j, rfl⟩ := Int.eq_ofNat_of_zero_le h0
  have hj : j < items.size := by (first | lia | omega)
  have hx' : items[j]? = some items[j] := Array.getElem?_eq_getElem hj
  show wpAny _ _ ((seqItemAt l j >>= fun r => pure (r.map (j, ·))) >>= _) _ _ s
  refine wpAny_bind (wpAny_bind (wpAny_seqItemAt hl rfl (wpAny_pure ?_)))
  rw [hx']
  show wpAny _ _ (setSeqItemAt l j v >>= _) _ _ s
  refine wpAny_bind (wpAny_setSeqItemAt hl rfl ?_)
  exact wpAny_pure ⟨.none, rfl, wpAny_pure (hQ _ _ (hl.update (·.setIfInBounds j v)) (Heap.SameBut.update ..))⟩
theorem setI_ok {o i x : V} {ov iv v : Value} {Qh : Hp → Prop} (R : RH c ρ H s) (rx : VRel c ρ s.heap o ov) (ri : VRel c ρ s.heap i iv) (rv : VRel c ρ s.heap x v) (w : asgIW o i x H Qh) :
    wpAny (model c.prog c.w) A (setItem ov iv v) (fun _ s' => ∃ ρ' H', RH c ρ' H' s' ∧ Ext c [] ρ s ρ' s' ∧ Qh H') NoE s := by
  obtain ⟨j, rfl, w⟩ := objF w
  obtain ⟨k, rfl, w⟩ := intF w
  obtain ⟨vs, hi, h0, hl, hs, q⟩ := lisF w
  simp only [VRel] at rx ri
  obtain ⟨p, hp, rfl⟩ := rx
  obtain ⟨u, rfl⟩ := ri
  obtain ⟨e2, xs, n, ht, rs⟩ := R.isL hi hp
  have := small_int hs
  have len := VRels.length rs
  refine setItem_at ht h0 (by (first | lia | omega)) (by rw [List.size_toArray]; (first | lia | omega)) fun h' m' hl' sb => ?_
  have ni : ∀ y, s.heap.get? p.1 = some y → ¬ Imm y := fun y e => by rw [ht] at e; cases e; exact not_imm_list
  have imm : ∀ b o, s.heap.get? b = some o → Imm o → h'.get? b = some o := fun b o e im => (sb.2 b (by rintro rfl; exact ni _ e im)).trans e
  refine ⟨ρ, H.set j (.list (vs.set k.toNat x)), R.turn (s' := { s with heap := h' }) hi hp (.inl rfl) sb ni ⟨e2, xs.set k.toNat v, m', ?_, ?_⟩, Ext.turn hp (.inl rfl) sb ni ⟨_, hl'⟩ rfl rfl rfl, q⟩
  · have : (List.toArray xs).setIfInBounds k.toNat v = (xs.set k.toNat v).toArray := by simp
    rw [← this]; exact hl'
  · exact VRels.mono0 imm (VRels.set _ rs rv)
end
end Mine
namespace Mine
open PySem PySem.W PySem.Calls PyProof.Rows
section
variable {c : Cfg} {ρ : Pl} {H : Hp} {s : Shared} {A : Around} {Q : V → Hp → Prop}
theorem list_turn {i : Nat} {xs ys : List V} {p : Addr × Addr} {vs ws : List Value} {n m : Nat} {s' : Shared} {v : Value} {x : V} (R : RH c ρ H s) (hi : H[i]? = some (.list xs)) (hp : ρ[i]? = some p)
    (ht : IsL s.heap p.1 (List.toArray vs) n) (e2 : p.2 = p.1) (sb : Heap.SameBut p.1 s.heap s'.heap) (ho : IsL s'.heap p.1 (List.toArray ws) m) (rs : VRels c ρ s.heap ys ws)
    (g : s'.gens = s.gens) (d : s'.drawn = s.drawn) (o : s'.os = s.os) (rx : VRel c ρ s.heap x v) (q : Q x (H.set i (.list ys))) : PE c ρ s Q v s' := by
  have ni : ∀ y, s.heap.get? p.1 = some y → ¬ Imm y := fun y e => by rw [ht] at e; cases e; exact not_imm_list
  have imm : ∀ b o, s.heap.get? b = some o → Imm o → s'.heap.get? b = some o := fun b o e im => (sb.2 b (by rintro rfl; exact ni _ e im)).trans e
  exact ⟨ρ, x, H.set i (.list ys), R.turn hi hp (.inl rfl) sb ni ⟨e2, ws, m, ho, VRels.mono0 imm rs⟩, Ext.turn hp (.inl rfl) sb ni ⟨_, ho⟩ g d o, VRel.mono0 imm rx, q⟩
theorem append_ok {i : Nat} {x : V} {xs : List V} {p : Addr × Addr} {v : Value} (R : RH c ρ H s) (hi : H[i]? = some (.list xs)) (hp : ρ[i]? = some p) (rv : VRel c ρ s.heap x v) (hl : xs.length ≤ 100000)
    (q : Q .none (H.set i (.list (xs ++ [x])))) : wpAny (model c.prog c.w) A (call (.builtin "list.append") [.ref p.1, v]) (PE c ρ s Q) NoE s := by
  obtain ⟨e2, vs, n, ht, rs⟩ := R.isL hi hp
  have len := VRels.length rs
  refine append_at ht (fun h' sb ho => ?_) (by rw [List.size_toArray, len]; exact le_size hl)
  refine list_turn (s' := { s with heap := h' }) R hi hp ht e2 sb (ws := vs ++ [v]) (m := n + 1) ?_ (VRels.append rs (VRels.one rv)) rfl rfl rfl (by simp only [VRel]) q
  have : (List.toArray vs).push v = (vs ++ [v]).toArray := by simp
  rw [← this]; exact ho
theorem pop_ok {i : Nat} {a b x : V} {xs : List V} {p : Addr × Addr} {u : Tok} (R : RH c ρ H s) (hi : H[i]? = some (.list (a :: b :: x :: xs))) (hp : ρ[i]? = some p) (hl : xs.length ≤ 100000)
    (q : Q x (H.set i (.list (a :: b :: xs)))) : wpAny (model c.prog c.w) A (call (.builtin "list.pop") [.ref p.1, .int 2 u]) (PE c ρ s Q) NoE s := by
  obtain ⟨e2, vs, n, ht, rs⟩ := R.isL hi hp
  have len := VRels.length rs
  simp only [VRels] at rs
  obtain ⟨v1, _, rfl, r1, v2, _, rfl, r2, v3, ys, rfl, r3, r4⟩ := rs
  simp only [List.length_cons] at len
  have ht' := ht.update (fun xs => xs.eraseIdxIfInBounds 2)
  refine call_meets PySem.F.slot_list_pop ⟨_, ht, rfl⟩ PySem.F.entry_list_pop (PySem.F.args_list_pop_2 _ _) (MeetsSeq.list_pop_at p.1 _ n 2 u 2 v3 (by decide) (PySem.seqIndex_of (k := 2) (by decide) (by rw [List.size_toArray]; simp only [List.length_cons]; omega)) (by simp) (by rw [List.size_toArray]; simp only [List.length_cons]; rw [sizeLine_eq]; omega)) ⟨ht, ?_⟩
  show PE c ρ s Q v3 _
  have e : (List.toArray (v1 :: v2 :: v3 :: ys)).eraseIdxIfInBounds 2 = (v1 :: v2 :: ys).toArray := by simp [Array.eraseIdxIfInBounds]
  rw [e] at ht'
  exact list_turn R hi hp ht e2 (Heap.SameBut.update ..) (ws := v1 :: v2 :: ys) ht' (by simp only [VRels]; exact ⟨_, _, rfl, r1, _, _, rfl, r2, r4⟩) rfl rfl rfl r3 q
theorem len_ok {x : V} {xs : List V} {v : Value} (R : RH c ρ H s) (rx : VRel c ρ s.heap x v) (hx : itemsOf x H = some xs) (hl : xs.length ≤ 1000000) (q : Q (.int xs.length) H) :
    wpAny (model c.prog c.w) A (call (.builtin "len") [v]) (PE c ρ s Q) NoE s := by
  rcases itemsF hx with rfl | ⟨i, rfl, hi⟩
  · simp only [VRel] at rx
    obtain ⟨a, vs, n, rfl, ht, rs⟩ := rx
    have len := VRels.length rs
    refine PyProof.Rows.len_tuple ⟨_, ht, rfl, _, rfl⟩ (by rw [List.size_toArray]; omega) ?_
    refine PE.still R (.toks s _) ?_ q
    simp only [VRel]; exact ⟨_, by rw [List.size_toArray, len]⟩
  · simp only [VRel] at rx
    obtain ⟨p, hp, rfl⟩ := rx
    obtain ⟨e2, vs, n, ht, rs⟩ := R.isL hi hp
    have len := VRels.length rs
    refine PyProof.Rows.len_list ht.isList (by rw [List.size_toArray]; omega) ?_
    refine PE.still R (.toks s _) ?_ q
    simp only [VRel]; exact ⟨_, by rw [List.size_toArray, len]⟩
theorem listOf_ok {x : V} {xs : List V} {vs : List Value} {a : Addr} (R : RH c ρ H s) (hl : s.heap.IsList a (List.toArray vs)) (rs : VRels c ρ s.heap xs vs) (hz : xs.length ≤ 100000) (q : Q (.obj H.length) (H ++ [.list xs])) :
    wpAny (model c.prog c.w) A (call (.type "list") [.ref a]) (PE c ρ s Q) NoE s := by
  obtain ⟨o, ho, hc, n, hd⟩ := hl
  refine call_list_seq a (.inl rfl) ho hc hd (fun h' c' k hn => ?_) (by rw [List.size_toArray, VRels.length rs]; exact le_size hz)
  have X : Still c [] ρ s { s with heap := h' } := .grown k rfl rfl rfl
  have n0 : s.heap.get? s.heap.objs.size = none := get_none_of_le (Nat.le_refl _)
  refine ⟨ρ ++ [(s.heap.objs.size, s.heap.objs.size)], .obj H.length, H ++ [.list xs], R.add (o := .list xs) X n0 n0 ⟨rfl, vs, c', hn, VRels.mono X.imm _ _ rs⟩, .add X n0 n0, ?_, q⟩
  simp only [VRel]
  exact ⟨_, by rw [← R.len, List.getElem?_append_right (Nat.le_refl _), Nat.sub_self]; rfl, rfl⟩
theorem ints_vrels {h : Heap} : ∀ {vs : List Value} {ns : List Int}, IntsAre vs ns → VRels c ρ h (ns.map V.int) vs
  | _, _, .nil => by simp only [List.map_nil, VRels]
  | _, _, .cons n t r => by simp only [List.map_cons, VRels, VRel]; exact ⟨_, _, rfl, ⟨_, rfl⟩, ints_vrels r⟩
theorem list_ok (S : Stat c) {x : V} {v : Value} (R : RH c ρ H s) (rx : VRel c ρ s.heap x v)
    (w : match (generalizing := false) x with
      | .scr => Q (.obj H.length) (H ++ [.list (c.scr.map V.int)])
      | .obj i => lisK H[i]? fun vs => vs.length ≤ 100000 ∧ Q (.obj H.length) (H ++ [.list vs])
      | _ => False) :
    wpAny (model c.prog c.w) A (call (.type "list") [v]) (PE c ρ s Q) NoE s := by
  cases x with
  | scr =>
    simp only [VRel] at rx
    subst rx
    obtain ⟨vs, ⟨o, ho, r⟩, hi, hl⟩ := S.scrAt
    exact listOf_ok (x := .scr) R ⟨o, R.base _ _ ho, r⟩ (ints_vrels hi) (by rw [List.length_map]; omega) w
  | obj i =>
    simp only [VRel] at rx
    obtain ⟨p, hp, rfl⟩ := rx
    obtain ⟨_, hi, w⟩ := lisF w
    obtain ⟨e2, vs, n, ht, rs⟩ := R.isL hi hp
    exact listOf_ok (x := .scr) R ht.isList rs w.1 w.2
  | _ => exact w.elim
theorem tuple_ok {i : Nat} {xs : List V} {p : Addr × Addr} (R : RH c ρ H s) (hi : H[i]? = some (.list xs)) (hp : ρ[i]? = some p) (hz : xs.length ≤ 100000) (q : Q (.tup xs) H) :
    wpAny (model c.prog c.w) A (call (.type "tuple") [.ref p.1]) (PE c ρ s Q) NoE s := by
  obtain ⟨e2, vs, n, ht, rs⟩ := R.isL hi hp
  refine call_tuple_list ht.isList (fun h' k => ?_) (by rw [List.size_toArray, VRels.length rs]; exact le_size hz)
  have X : Still c [] ρ s { s with heap := h'.push { cls := .type "tuple", data := .seq vs.toArray } } := .grown (fun b o e => Heap.get?_push_of_some _ (k b o e)) rfl rfl rfl
  refine .still R X ?_ q
  simp only [VRel]
  exact ⟨_, vs, 0, rfl, Heap.get?_push_size _ rfl, VRels.mono0 X.imm rs⟩
theorem int_ok {i : Int} {t : Tok} (R : RH c ρ H s) (q : Q (.int i) H) : wpAny (model c.prog c.w) A (call (.type "int") [.int i t]) (PE c ρ s Q) NoE s :=
  call_int_int (PE.same R (by simp only [VRel]; exact ⟨_, rfl⟩) q)
theorem isBool_ok {b : Bool} (R : RH c ρ H s) (q : Q (.bool true) H) : wpAny (model c.prog c.w) A (call (.builtin "isinstance") [.bool b, .type "bool"]) (PE c ρ s Q) NoE s :=
  PyProof.Rows.call_isinstance_yes (Tx := "bool") (T := "bool") (PySem.typeIs_bool s b) PySem.F.isi_meta_bool PySem.F.isi_self_bool (PE.bool R q)
theorem max2_ok {n : Nat} {i j : Int} {t u : Tok} (A0 : Room A n) (R : RH c ρ H s) (q : Q (.int (max i j)) H) : wpAny (model c.prog c.w) A (call (.builtin "max") [.int i t, .int j u]) (PE c ρ s Q) NoE s := by
  refine max_two_ints A0.1 fun h' tk k => ?_
  have X : Still c [] ρ s { s with heap := h', toks := tk } := .grown k rfl rfl rfl
  refine .still R X ?_ q
  simp only [VRel]
  by_cases g : j > i
  · rw [if_pos g]; exact ⟨u, by rw [Int.max_eq_right (by omega)]⟩
  · rw [if_neg g]; exact ⟨t, by rw [Int.max_eq_left (by omega)]⟩
noncomputable def vNum (xs : List V) (i : Nat) : Int := match xs[i]? with | some (.int a) => a | _ => 0
theorem max_ints {xs : List V} : ∀ {m : Int}, maxI xs = some m → 0 < xs.length ∧ (∀ (i : Nat) (x : V), xs[i]? = some x → x = V.int (vNum xs i)) ∧ (∃ i, i < xs.length ∧ vNum xs i = m) ∧ ∀ i, i < xs.length → vNum xs i ≤ m := by
  induction xs with
  | nil => intro m e; exact nomatch e
  | cons x r ih =>
    intro m e
    cases x <;> first | (have z : (none : Option Int) = some m := e; cases z; done) | skip
    rename_i a
    cases r with
    | nil =>
      cases e
      refine ⟨by simp, fun i x h => ?_, ⟨0, by simp, rfl⟩, fun i h => ?_⟩
      · cases i with
        | zero => simp at h; subst h; rfl
        | succ i => simp at h
      · cases i with
        | zero => exact Int.le_refl _
        | succ i => simp at h
    | cons y r =>
      obtain ⟨b, e1, rfl⟩ := Option.map_eq_some_iff.mp (show (maxI (y :: r)).map (fun b => max a b) = some m from e)
      obtain ⟨h1, h2, ⟨i, h3, h4⟩, h5⟩ := ih e1
      refine ⟨by simp, fun i x h => ?_, ?_, fun i h => ?_⟩
      · cases i with
        | zero => simp at h; subst h; rfl
        | succ i => rw [List.getElem?_cons_succ] at h; exact h2 i x h
      · by_cases q : a ≤ b
        · exact ⟨i + 1, by simpa using h3, by show vNum (y :: r) i = _; rw [h4]; omega⟩
        · exact ⟨0, by simp, by show a = _; omega⟩
      · cases i with
        | zero => show a ≤ _; omega
        | succ i => have := h5 i (by simpa using h); show vNum (y :: r) i ≤ _; omega
theorem iteM {p : Prop} [Decidable p] {a : Option Int} {b : Int} (e : (if p then a else none) = some b) : p ∧ a = some b := by
  by_cases h : p
  · rw [if_pos h] at e; exact ⟨h, e⟩
  · rw [if_neg h] at e; cases e
theorem sum_nums {xs : List V} : ∀ {m : Int}, sumI xs = some m → (∀ (i : Nat) (x : V), xs[i]? = some x → x = V.int (vNum xs i)) ∧ (∀ i, i < xs.length → (vNum xs i).natAbs < 1000000000) ∧ ∀ a, preSum (fun i => vNum xs i) xs.length + a = m + a := by
  induction xs with
  | nil => intro m e; cases e; exact ⟨fun i x h => (nomatch h), fun i h => absurd h (Nat.not_lt_zero _), fun a => rfl⟩
  | cons x r ih0 =>
    intro m e
    cases x <;> first | (have z : (none : Option Int) = some m := e; cases z; done) | skip
    rename_i a
    obtain ⟨ha, e⟩ := iteM (show (if a.natAbs < 1000000000 then (sumI r).map fun b => a + b else none) = some m from e)
    obtain ⟨b, e1, rfl⟩ := Option.map_eq_some_iff.mp e
    obtain ⟨h1, h2, h3⟩ := ih0 e1
    refine ⟨fun i x h => ?_, fun i h => ?_, fun z => ?_⟩
    · cases i with
      | zero => simp at h; subst h; rfl
      | succ i => rw [List.getElem?_cons_succ] at h; exact h1 i x h
    · cases i with
      | zero => exact ha
      | succ i => exact h2 i (by simpa using h)
    · have sh : ∀ n, preSum (fun i => vNum (V.int a :: r) i) (n + 1) = a + preSum (fun i => vNum r i) n := by
        intro n
        induction n with
        | zero => simp [preSum, vNum]
        | succ n ih => rw [preSum, ih, preSum]; show _ + vNum r n = _; omega
      have := h3 0
      rw [List.length_cons, sh]; omega
theorem preSum_le {val : Nat → Int} {n : Nat} (h : ∀ i, i < n → (val i).natAbs < 1000000000) : ∀ j, j ≤ n → (preSum val j).natAbs ≤ j * 1000000000 := by
  intro j
  induction j with
  | zero => intro _; exact Nat.zero_le _
  | succ j ih =>
    intro hj
    refine Nat.le_trans (Int.natAbs_add_le _ _) ?_
    rw [Nat.succ_mul]
    exact Nat.add_le_add (ih (Nat.le_of_succ_le hj)) (Nat.le_of_lt (h j hj))
theorem iter_walk {n : Nat} {x : V} {xs : List V} {v : Value} {Q' : Value → Shared → Prop} {E : Value → Shared → Prop} (hh : A.handled = none) (R : RH c ρ H s) (rx : VRel c ρ s.heap x v) (hx : itemsOf x H = some xs)
    (h : ∀ s₂ I fp (vs : List Value) P St, (∀ b o, s.heap.get? b = some o → s₂.heap.get? b = some o) → s₂.gens = s.gens → s₂.drawn = s.drawn → s₂.os = s.os → VRels c ρ s.heap xs vs → I = s.heap.objs.size →
      Walks c.prog c.w A I fp [I] vs.length P St → (∀ i v, P i v → vs[i]? = some v) → St 0 s₂.heap → (∀ b ∈ fp, b < s₂.heap.objs.size) → Q' (.ref I) s₂) :
    wpAny (model c.prog c.w) A (pyIter v) Q' E s := by
  rcases itemsF hx with rfl | ⟨i, rfl, hi⟩
  · simp only [VRel] at rx
    obtain ⟨a, vs, n, rfl, ht, rs⟩ := rx
    have hT : s.heap.IsTuple a (List.toArray vs) := ⟨_, ht, rfl, _, rfl⟩
    refine wpAny_pyIter_tuple hT ?_
    have hne : a ≠ s.heap.objs.size := Nat.ne_of_lt (Heap.lt_size ht)
    refine h _ s.heap.objs.size [s.heap.objs.size, a] vs (fun i v => (List.toArray vs)[i]? = some v) (fun i h => h.IsTupleIter s.heap.objs.size a i ∧ h.IsTuple a (List.toArray vs)) (fun b o e => Heap.get?_push_of_some _ e) rfl rfl rfl rs rfl (by have := Walks.tuple (prog := c.prog) (w := c.w) hh s.heap.objs.size a hne (List.toArray vs); rwa [List.size_toArray] at this) (fun i v e => by simpa using e) (And.intro ⟨_, Heap.get?_push_size _ rfl, rfl, rfl⟩ ⟨_, Heap.get?_push_of_some _ ht, rfl, _, rfl⟩) fun b hb => ?_
    show b < (s.heap.push _).objs.size
    rw [Heap.size_push]
    have := Heap.lt_size ht
    rcases List.mem_cons.mp hb with rfl | hb
    · exact Nat.lt_succ_self _
    · rw [List.mem_singleton.mp hb]; exact Nat.lt_succ_of_lt this
  · simp only [VRel] at rx
    obtain ⟨p, hp, rfl⟩ := rx
    obtain ⟨e2, vs, n, ht, rs⟩ := R.isL hi hp
    have hT := ht.isList
    refine wpAny_pyIter_list hT ?_
    have hne : p.1 ≠ s.heap.objs.size := Nat.ne_of_lt (Heap.lt_size ht)
    refine h _ s.heap.objs.size [s.heap.objs.size, p.1] vs (fun i v => (List.toArray vs)[i]? = some v) (fun i h => h.IsListIter s.heap.objs.size p.1 i ∧ h.IsList p.1 (List.toArray vs)) (fun b o e => Heap.get?_push_of_some _ e) rfl rfl rfl rs rfl (by have := Walks.list (prog := c.prog) (w := c.w) hh s.heap.objs.size p.1 hne (List.toArray vs); rwa [List.size_toArray] at this) (fun i v e => by simpa using e) (And.intro ⟨_, Heap.get?_push_size _ rfl, rfl, rfl⟩ (hT.push _)) fun b hb => ?_
    show b < (s.heap.push _).objs.size
    rw [Heap.size_push]
    have := Heap.lt_size ht
    rcases List.mem_cons.mp hb with rfl | hb
    · exact Nat.lt_succ_self _
    · rw [List.mem_singleton.mp hb]; exact Nat.lt_succ_of_lt this
theorem max1_ok {n : Nat} {x : V} {xs : List V} {v : Value} {m : Int} (A0 : Room A n) (R : RH c ρ H s) (rx : VRel c ρ s.heap x v) (hx : itemsOf x H = some xs) (hm : maxI xs = some m) (q : Q (.int m) H) :
    wpAny (model c.prog c.w) A (call (.builtin "max") [v]) (PE c ρ s Q) NoE s := by
  obtain ⟨h1, h2, ⟨i, h3, h4⟩, h5⟩ := max_ints hm
  refine call_max_walk (iter_walk (n := n) (A := A.in1) A0.1 R rx hx fun s₂ I fp vs P St k g d o rs eI W hP st hfp => ?_)
  have len := VRels.length rs
  have val : ∀ i v, P i v → ∃ t, v = .int (vNum xs i) t := fun i v hv => by
    have e := hP i v hv
    have hl := (List.getElem?_eq_some_iff.mp e).1
    obtain ⟨w, e1, r⟩ := VRels.get rs (List.getElem?_eq_getElem (by rw [← len]; exact hl))
    rw [e] at e1; cases e1
    rw [h2 i _ (List.getElem?_eq_getElem (by rw [← len]; exact hl))] at r
    simpa only [VRel] using r
  refine ⟨I, fp, [I], vs.length, P, St, fun i j => decide (vNum xs i > vNum xs j), rfl, W, st, hfp, by omega, fun i j vi vj s' Q' E' pi pj hq => ?_, fun v' h' tk hv hk => ?_⟩
  · obtain ⟨t, rfl⟩ := val i vi pi
    obtain ⟨u, rfl⟩ := val j vj pj
    exact PyProof.Rows.gt_int (Q := Q') hq
  · obtain ⟨b1, b2⟩ := argBest_gt (vNum xs) (vs.length - 1)
    obtain ⟨t, rfl⟩ := val _ _ hv
    have e : vNum xs (argBest (fun i j => decide (vNum xs i > vNum xs j)) (vs.length - 1)) = m := by
      have l1 := h5 (argBest (fun i j => decide (vNum xs i > vNum xs j)) (vs.length - 1)) (by omega)
      have l2 := b2 i (by omega)
      omega
    have X : Still c [] ρ s { s₂ with heap := h', toks := tk } := .grown (fun b o' e => hk b o' (fun q => by rw [List.mem_singleton.mp q, eI] at e; exact absurd (Heap.lt_size e) (Nat.lt_irrefl _)) (k b o' e)) g d o
    refine .still R X ?_ q
    simp only [VRel]
    exact ⟨t, by rw [e]⟩
theorem sum_ok {n : Nat} {x : V} {xs : List V} {v : Value} {m : Int} (A0 : Room A n) (R : RH c ρ H s) (rx : VRel c ρ s.heap x v) (hx : itemsOf x H = some xs) (hm : sumI xs = some m) (hl : xs.length ≤ 100000) (q : Q (.int m) H) :
    wpAny (model c.prog c.w) A (call (.builtin "sum") [v]) (PE c ρ s Q) NoE s := by
  obtain ⟨h2, h3, h4⟩ := sum_nums hm
  refine call_sum_walk (iter_walk (n := n) (A := A.in1) A0.1 R rx hx fun s₂ I fp vs P St k g d o rs eI W hP st hfp => ?_)
  have len := VRels.length rs
  have val : ∀ i v, P i v → ∃ t, v = .int (vNum xs i) t := fun i v hv => by
    have e := hP i v hv
    have hl := (List.getElem?_eq_some_iff.mp e).1
    obtain ⟨w, e1, r⟩ := VRels.get rs (List.getElem?_eq_getElem (by rw [← len]; exact hl))
    rw [e] at e1; cases e1
    rw [h2 i _ (List.getElem?_eq_getElem (by rw [← len]; exact hl))] at r
    simpa only [VRel] using r
  refine ⟨I, fp, [I], vs.length, P, St, vNum xs, rfl, W, st, hfp, val, fun j hj => ?_, fun h' tk t' hk => ?_⟩
  · have b1 := h3 j (by omega)
    have b2 := preSum_le h3 (j + 1) (by omega)
    unfold InLong
    omega
  · have X : Still c [] ρ s { s₂ with heap := h', toks := tk } := .grown (fun b o' e => hk b o' (fun q => by rw [List.mem_singleton.mp q, eI] at e; exact absurd (Heap.lt_size e) (Nat.lt_irrefl _)) (k b o' e)) g d o
    refine .still R X ?_ q
    have := h4 0
    rw [len, show preSum (vNum xs) xs.length = m by have := h4 0; simpa using this]
    simp only [VRel]; exact ⟨_, rfl⟩
end
end Mine
namespace Mine
open PySem PySem.W PySem.Calls PyProof.Rows
section
variable {c : Cfg} {ρ : Pl} {H : Hp} {s : Shared} {A : Around} {Q : V → Hp → Prop}
theorem adjust_last (n : Nat) (h : 1 ≤ n) : Builtin.Slice.sliceAdjust none (some (-1)) 1 (n : Int) = (0, ((n - 1 : Nat) : Int)) := by
  unfold Builtin.Slice.sliceAdjust
  simp only [show ¬ ((1 : Int) < 0) by (first | lia | omega), if_false, show ((-1 : Int) < 0) by (first | lia | omega), if_true]
  congr 1
  (first | lia | omega)
theorem places_last (n : Nat) : Builtin.Slice.slicePlaces 0 (n : Int) 1 = n := by
  unfold Builtin.Slice.slicePlaces
  simp only [show (1 : Int) > 0 by (first | lia | omega), if_true, Int.ediv_one]
  split <;> (first | lia | omega)
theorem sliceApplied_last {sl : Addr} {n : Nat} {u : Tok} {Q : Int × Int × Nat → Shared → Prop} {E : Value → Shared → Prop} (hs : s.heap.IsSliceOf sl .none (.int (-1) u) .none) (ha : 1 ≤ n) (h : Q (0, 1, n - 1) s) :
    wpAny (model c.prog c.w) A (Builtin.Slice.sliceApplied (.ref sl) (pure (n : Int))) Q E s := by
  obtain ⟨os, hos, hcs, hds⟩ := id hs
  unfold Builtin.Slice.sliceApplied Builtin.Slice.sliceFields
  refine wpAny_bind (wpAny_bind (wpAny_field hos hds (x := .none) rfl (wpAny_bind (wpAny_field hos hds (x := .int (-1) u) rfl (wpAny_bind (wpAny_field hos hds (x := .none) rfl (wpAny_pure ?_)))))))
  refine wpAny_bind (slicePart_none ?_)
  show wpAny _ _ (if ((1 : Int) == 0) = true then _ else _) _ _ s
  rw [if_neg (by decide)]
  refine wpAny_bind (slicePart_none (wpAny_bind (slicePart_int (wpAny_bind (wpAny_pure ?_)))))
  show wpAny _ _ (match Builtin.Slice.sliceAdjust none (some (-1)) 1 (n : Int) with | (lo, hi) => pure (lo, (1 : Int), Builtin.Slice.slicePlaces lo hi 1)) _ _ s
  rw [adjust_last n ha]
  show wpAny _ _ (pure ((0 : Int), (1 : Int), Builtin.Slice.slicePlaces 0 ((n - 1 : Nat) : Int) 1)) _ _ s
  rw [places_last]
  exact wpAny_pure h
theorem pick_upto (xs : Array Value) (b : Nat) : ((List.range b).filterMap fun (k : Nat) => xs[((0 : Int) + (k : Int) * 1).toNat]?).toArray = (xs.toList.take b).toArray := by
  have e : (fun (k : Nat) => xs[((0 : Int) + (k : Int) * 1).toNat]?) = fun k => xs[0 + k]? := by
    funext k
    have : ((0 : Int) + (k : Int) * 1).toNat = 0 + k := by (first | lia | omega)
    rw [this]
  rw [e]
  have := pick_run xs 0 b
  rw [List.filterMap_map] at this
  have e2 : ((fun x => xs[x]?) ∘ fun x => 0 + x) = fun k => xs[0 + k]? := rfl
  rw [e2] at this
  rw [this, List.drop_zero]
theorem getItem_tuple_last {t sl : Addr} {items : Array Value} {u : Tok} {Q : Value → Shared → Prop} {E : Value → Shared → Prop} (ht : IsTup s.heap t items) (hs : s.heap.IsSliceOf sl .none (.int (-1) u) .none) (ha : 2 ≤ items.size)
    (h : Q (.ref s.heap.objs.size) { s with heap := s.heap.push { cls := .type "tuple", data := .seq (items.toList.take (items.size - 1)).toArray } })
    (hsz : items.size ≤ sizeLine := by size_fits) : wpAny (model c.prog c.w) A (getItem (.ref t) (.ref sl)) Q E s := by
  have hdrop : sizeOk (.seq (items.toList.take (items.size - 1)).toArray) := by
    show (items.toList.take (items.size - 1)).toArray.size ≤ sizeLine
    rw [List.size_toArray, List.length_take, Array.length_toList]
    (first | lia | omega)
  obtain ⟨os, hos, hcs, hds⟩ := id hs
  have hTs : s.TypeIs (.ref sl) "slice" := ⟨os, hos, hcs⟩
  unfold getItem
  try with_reducible refine wpAny_holding ?_
  first | refine wpAny_bind (wpAny_pure ?_) | skip
  refine wpAny_bind (wpAny_sequenceKey ht.typeIs (by decide) ?_)
  refine wpAny_bind (wpAny_callSpecial?_slot (name := Str.ofString "__getitem__") ht.typeIs slot_tuple_getitem
    (wpAny_call_entry slot_tuple_getitem ht.typeIs entry_tuple_getitem ?_ (args_tuple_getitem _ _)))
  show wpAny _ _ (Builtin.Tuple.tupleItemsOf (.ref t) >>= _) _ _ s
  refine wpAny_bind (tupleItemsOf_ ht ?_)
  refine wpAny_bind (wpAny_typeOf hTs ?_)
  rw [if_pos (by decide)]
  refine wpAny_bind (sliceApplied_last hs (by (first | lia | omega)) ?_)
  have hno : ¬ (((0 : Int) == 0 && (1 : Int) == 1 && (items.size - 1) == items.size) = true) := by
    have : (items.size - 1 == items.size) = false := by rw [beq_eq_false_iff_ne]; (first | lia | omega)
    rw [this]; simp
  show wpAny _ _ (if ((0 : Int) == 0 && (1 : Int) == 1 && (items.size - 1) == items.size) = true then _ else _) _ _ s
  rw [if_neg hno, pick_upto items]
  first
    | exact wpAny_bind (m := Builtin.Tuple.tupleExact _) (wpAny_newObj_type (wpAny_pure ⟨_, rfl, wpAny_pure h⟩) hdrop)
    | exact wpAny_bind (m := Builtin.Tuple.tupleExact _) (wpAny_newObj_type (wpAny_bind (wpAny_pure (wpAny_pure ⟨_, rfl, wpAny_pure h⟩))) hdrop)
    | exact wpAny_bind (wpAny_bind (m := Builtin.Tuple.tupleExact _) (wpAny_newObj_type (wpAny_pure (wpAny_pure ⟨_, rfl, wpAny_pure h⟩)) hdrop))
    | exact wpAny_bind (wpAny_bind (m := Builtin.Tuple.tupleExact _) (wpAny_newObj_type (wpAny_pure ⟨_, rfl, wpAny_pure h⟩) hdrop))
theorem subT {value slice : Expr} {o i : Value} {ops : List Value} {T id : String} {Q E : Value → Shared → Prop} (hT : s.TypeIs o T)
    (hl : typeLookup (.type T) "__getitem__" = pure (some (.builtin id))) (hg : wpAny (model c.prog c.w) A (getItem o i) Q E s)
    (hs : subscripted slice false o i = operate ops (getItem o i)) : wpAny (model c.prog c.w) A (subscriptTail value slice o i) Q E s := tail_any hT hl hg hs
noncomputable def subKind : Expr → Bool | .Constant .. => true | .Name .. => true | .Attribute .. => true | .Subscript .. => true | .Call .. => true | .BinOp .. => true | .UnaryOp .. => true | _ => false
theorem sub_ok {value slice : Expr} {o i : V} {a b : Value} (hsl : subKind slice = true) (R : RH c ρ H s) (rx : VRel c ρ s.heap o a) (ri : VRel c ρ s.heap i b) (w : idxW o i H Q) :
    wpAny (model c.prog c.w) A (subscriptTail value slice a b) (PE c ρ s Q) NoE s := by
  have hg := idx_ok (A := A) R rx ri w
  have hs : subscripted slice false a b = operate [a, b] (getItem a b) := by
    cases slice <;> first | rfl | exact absurd hsl Bool.false_ne_true
  cases o <;> first | exact False.elim w | skip
  · rename_i vs
    simp only [VRel] at rx
    obtain ⟨x, xs, n, rfl, ht, _⟩ := rx
    have ht' : IsTup s.heap x (List.toArray xs) := ⟨_, ht, rfl, n, rfl⟩
    exact subT ht'.typeIs slot_tuple_getitem.lookup hg hs
  · rename_i j
    simp only [VRel] at rx
    obtain ⟨p, e, rfl⟩ := rx
    obtain ⟨k, -, w⟩ := intF w
    obtain ⟨vs, hj, -⟩ := lisF w
    obtain ⟨_, vs, n, ht, rs⟩ := R.isL hj e
    exact subT ht.isList.typeIs slot_list_getitem.lookup hg hs
theorem slc_ok {value : Expr} {hi : Expr} {ps : Pos} {o i : V} {a b : Value} (R : RH c ρ H s) (rx : VRel c ρ s.heap o a) (ri : VRel c ρ s.heap i b) (w : slcW o i H Q) :
    wpAny (model c.prog c.w) A (subscriptTail value (.Slice none (some hi) none ps) a (.ref s.heap.objs.size)) (PE c ρ s Q) NoE
      { s with heap := s.heap.push { cls := .type "slice", data := .fields #[.none, b, .none] } } := by
  have X1 : Still c [] ρ s { s with heap := s.heap.push { cls := .type "slice", data := .fields #[.none, b, .none] } } := .grown (fun b o e => Heap.get?_push_of_some _ e) rfl rfl rfl
  have hs : ∀ a' b' : Value, subscripted (.Slice none (some hi) none ps) false a' b' = operate [b', a'] (getItem a' b') := by intro a' b'; with_unfolding_all rfl
  cases o <;> first | exact False.elim w | skip
  · rename_i vs
    obtain ⟨k, rfl, w⟩ := intF w
    simp only [VRel] at rx ri
    obtain ⟨x, xs, n, rfl, ht, rs⟩ := rx
    obtain ⟨u, rfl⟩ := ri
    obtain ⟨rfl, h2, h3, q⟩ := w
    have len := VRels.length rs
    have ht' : IsTup (s.heap.push { cls := .type "slice", data := .fields #[.none, .int (-1) u, .none] }) x (List.toArray xs) := ⟨_, Heap.get?_push_of_some _ ht, rfl, n, rfl⟩
    refine subT (s := { s with heap := s.heap.push { cls := .type "slice", data := .fields #[.none, .int (-1) u, .none] } }) ht'.typeIs slot_tuple_getitem.lookup
      (getItem_tuple_last ht' (Heap.IsSliceOf.new ..) (by rw [List.size_toArray, len]; exact h2) ?_ (by rw [List.size_toArray, len]; exact le_size h3)) (hs _ _)
    have X2 : Still c [] ρ s { s with heap := (s.heap.push { cls := .type "slice", data := .fields #[.none, .int (-1) u, .none] }).push { cls := .type "tuple", data := .seq (List.toArray (xs.take (xs.length - 1))) } } :=
      .grown (fun b o e => Heap.get?_push_of_some _ (Heap.get?_push_of_some _ e)) rfl rfl rfl
    refine .still R ?_ ?_ q
    · simpa using X2
    · simp only [VRel]
      refine ⟨_, xs.dropLast, 0, rfl, ?_, ?_⟩
      · have e : (List.take ((List.toArray xs).size - 1) (List.toArray xs).toList).toArray = xs.dropLast.toArray := by rw [List.dropLast_eq_take]; simp
        rw [e]
        exact Heap.get?_push_size _ rfl
      · rw [List.dropLast_eq_take, List.dropLast_eq_take, len]
        exact VRels.take _ (VRels.mono0 (fun b o e _ => Heap.get?_push_of_some _ (Heap.get?_push_of_some _ e)) rs)
  · rename_i j
    obtain ⟨k, rfl, w⟩ := intF w
    simp only [VRel] at rx ri
    obtain ⟨p, e, rfl⟩ := rx
    obtain ⟨u, rfl⟩ := ri
    · obtain ⟨vs, hj, h0, h1, h2, q⟩ := lisF w
      obtain ⟨_, xs, n, ht, rs⟩ := R.isL hj e
      have ht' : (s.heap.push { cls := .type "slice", data := .fields #[.none, .int k u, .none] }).IsList p.1 (List.toArray xs) := ht.isList.push _
      have hk : (k.toNat : Int) = k := by (first | lia | omega)
      refine subT (s := { s with heap := s.heap.push { cls := .type "slice", data := .fields #[.none, .int k u, .none] } }) ht'.typeIs slot_list_getitem.lookup
        (wpAny_getItem_list_slice ht' (Heap.IsSliceOf.new ..) .none (.int k u) .none (by simp) ?_ (by rw [List.size_toArray]; rw [VRels.length rs]; exact le_size h2)) (hs _ _)
      have ep : slicePick (List.toArray xs) none (some k) none = (xs.take k.toNat).toArray := by
        have := slicePick_upto' (List.toArray xs) k.toNat
        rw [hk] at this
        exact this
      rw [ep]
      have R' := X1.rh R
      exact .trans X1.ext (newList_pe (tk := s.toks) R' (VRels.take _ (VRels.mono0 (fun b o e _ => Heap.get?_push_of_some _ e) rs)) q)
end
end Mine
namespace Mine
open PySem PySem.W PySem.Calls PyProof.Rows
noncomputable def okName (x : Str) : Bool := !(x == (Str.ofString "__debug__")) && !(x == (Str.ofString "__classdict__"))
noncomputable def notStar : Expr → Bool | .Starred .. => false | _ => true
noncomputable def isBase : Expr → Bool | .Name .. => true | .Attribute .. => true | _ => false
noncomputable def notSet : Expr → Bool | .Set .. => false | _ => true
noncomputable def glo (sc : Scope) (x : Str) : Bool := sc.names.lookup x == some .globalImplicit && okName x
noncomputable def pick (tb : List Str) (tb' : List Nat) : List Str := tb'.map fun i => tb.getD i Str.empty
noncomputable def relab (sc' sc : Scope) : Scope := { sc' with names := sc'.names.map fun (n, k) => if (k == .free && sc.kind == .function && sc.names.lookup n == some .cell) then (n, .cell) else (n, k) }
noncomputable def nodupB : List Str → Bool
  | [] => true
  | x :: r => !(r.any (· == x)) && nodupB r
theorem nodup_of : ∀ {l : List Str}, nodupB l = true → l.Nodup
  | [], _ => List.nodup_nil
  | x :: r, h => by
    simp only [nodupB, Bool.and_eq_true, Bool.not_eq_true', List.any_eq_false, beq_iff_eq] at h
    exact List.nodup_cons.mpr ⟨fun hm => h.1 x hm rfl, nodup_of h.2⟩
noncomputable def compScopeOk (sc : Scope) (tb : List Str) (tb' : List Nat) (x : Nat) (y : Str) (sc' : Scope) : Bool :=
  x == tb'.length && sc'.kind == .function && sc'.names.all (fun z => !(z.2 == .cell)) &&
  sc'.names.all (fun z => !(z.2 == .local) || sc'.names.lookup z.1 == some .local) && sc'.names.lookup y == some .local &&
  sc'.names.all (fun z => !(z.2 == .free) || sc.names.lookup z.1 == some .cell) &&
  tb'.all (fun i => (tb[i]?).isSome && sc'.names.lookup (tb.getD i Str.empty) == some .free && sc.names.lookup (tb.getD i Str.empty) == some .cell)
noncomputable def lc {α : Type} (k : α → List α → Bool) : List α → Bool | x :: r => k x r | [] => false
theorem lc_elim {α : Type} {P : List α → Prop} {k : α → List α → Bool} {l : List α} (h : lc k l = true) (f : ∀ x r, k x r = true → P (x :: r)) : P l := by
  cases l
  · exact absurd h Bool.false_ne_true
  · exact f _ _ h
noncomputable def ln {α : Type} : List α → Bool | [] => true | _ :: _ => false
theorem ln_elim {α : Type} {P : List α → Prop} {l : List α} (h : ln l = true) (f : P []) : P l := by
  cases l
  · exact f
  · exact absurd h Bool.false_ne_true
noncomputable def on {α : Type} : Option α → Bool | none => true | some _ => false
theorem on_elim {α : Type} {P : Option α → Prop} {l : Option α} (h : on l = true) (f : P none) : P l := by
  cases l
  · exact f
  · exact absurd h Bool.false_ne_true
noncomputable def os {α : Type} (k : α → Bool) : Option α → Bool | some x => k x | none => false
theorem os_elim {α : Type} {P : Option α → Prop} {k : α → Bool} {l : Option α} (h : os k l = true) (f : ∀ x, k x = true → P (some x)) : P l := by
  cases l
  · exact absurd h Bool.false_ne_true
  · exact f _ h
theorem bt {a b : Bool} {P : Prop} (h : (a && b) = true) (f : a = true → b = true → P) : P := by
  cases a
  · exact absurd h Bool.false_ne_true
  · exact f rfl h
theorem be {α : Type} [BEq α] [LawfulBEq α] {P : α → Prop} {a b : α} (h : (a == b) = true) (f : P b) : P a := eq_of_beq h ▸ f
theorem de {α : Type} [DecidableEq α] {P : α → Prop} {a b : α} (h : decide (a = b) = true) (f : P b) : P a := of_decide_eq_true h ▸ f
noncomputable def vConst (k : Const → Nat → Pos → Bool) (ex : Expr) : Bool := if h : ex.ctorIdx = 19 then Expr.Constant.elim (motive_1 := fun _ => Bool) ex h k else false
theorem vConst_elim {P : Expr → Prop} {k : Const → Nat → Pos → Bool} {ex : Expr} (h : vConst k ex = true) (f : ∀ x0 x1 x2, k x0 x1 x2 = true → P (.Constant x0 x1 x2)) : P ex :=
  if hc : ex.ctorIdx = 19 then Expr.Constant.elim (motive_1 := fun ex => vConst k ex = true → P ex) ex hc f h else absurd ((dif_neg hc).symm.trans h) Bool.false_ne_true
noncomputable def vBin (k : Expr → Operator → Expr → Pos → Bool) (ex : Expr) : Bool := if h : ex.ctorIdx = 2 then Expr.BinOp.elim (motive_1 := fun _ => Bool) ex h k else false
theorem vBin_elim {P : Expr → Prop} {k : Expr → Operator → Expr → Pos → Bool} {ex : Expr} (h : vBin k ex = true) (f : ∀ x0 x1 x2 x3, k x0 x1 x2 x3 = true → P (.BinOp x0 x1 x2 x3)) : P ex :=
  if hc : ex.ctorIdx = 2 then Expr.BinOp.elim (motive_1 := fun ex => vBin k ex = true → P ex) ex hc f h else absurd ((dif_neg hc).symm.trans h) Bool.false_ne_true
noncomputable def vUn (k : UnaryOp → Expr → Pos → Bool) (ex : Expr) : Bool := if h : ex.ctorIdx = 3 then Expr.UnaryOp.elim (motive_1 := fun _ => Bool) ex h k else false
theorem vUn_elim {P : Expr → Prop} {k : UnaryOp → Expr → Pos → Bool} {ex : Expr} (h : vUn k ex = true) (f : ∀ x0 x1 x2, k x0 x1 x2 = true → P (.UnaryOp x0 x1 x2)) : P ex :=
  if hc : ex.ctorIdx = 3 then Expr.UnaryOp.elim (motive_1 := fun ex => vUn k ex = true → P ex) ex hc f h else absurd ((dif_neg hc).symm.trans h) Bool.false_ne_true
noncomputable def vBool (k : BoolOp → List Expr → Pos → Bool) (ex : Expr) : Bool := if h : ex.ctorIdx = 0 then Expr.BoolOp.elim (motive_1 := fun _ => Bool) ex h k else false
theorem vBool_elim {P : Expr → Prop} {k : BoolOp → List Expr → Pos → Bool} {ex : Expr} (h : vBool k ex = true) (f : ∀ x0 x1 x2, k x0 x1 x2 = true → P (.BoolOp x0 x1 x2)) : P ex :=
  if hc : ex.ctorIdx = 0 then Expr.BoolOp.elim (motive_1 := fun ex => vBool k ex = true → P ex) ex hc f h else absurd ((dif_neg hc).symm.trans h) Bool.false_ne_true
noncomputable def vCmp (k : Expr → List CmpOp → List Expr → Pos → Bool) (ex : Expr) : Bool := if h : ex.ctorIdx = 15 then Expr.Compare.elim (motive_1 := fun _ => Bool) ex h k else false
theorem vCmp_elim {P : Expr → Prop} {k : Expr → List CmpOp → List Expr → Pos → Bool} {ex : Expr} (h : vCmp k ex = true) (f : ∀ x0 x1 x2 x3, k x0 x1 x2 x3 = true → P (.Compare x0 x1 x2 x3)) : P ex :=
  if hc : ex.ctorIdx = 15 then Expr.Compare.elim (motive_1 := fun ex => vCmp k ex = true → P ex) ex hc f h else absurd ((dif_neg hc).symm.trans h) Bool.false_ne_true
noncomputable def vIf (k : Expr → Expr → Expr → Pos → Bool) (ex : Expr) : Bool := if h : ex.ctorIdx = 5 then Expr.IfExp.elim (motive_1 := fun _ => Bool) ex h k else false
theorem vIf_elim {P : Expr → Prop} {k : Expr → Expr → Expr → Pos → Bool} {ex : Expr} (h : vIf k ex = true) (f : ∀ x0 x1 x2 x3, k x0 x1 x2 x3 = true → P (.IfExp x0 x1 x2 x3)) : P ex :=
  if hc : ex.ctorIdx = 5 then Expr.IfExp.elim (motive_1 := fun ex => vIf k ex = true → P ex) ex hc f h else absurd ((dif_neg hc).symm.trans h) Bool.false_ne_true
noncomputable def vTup (k : List Expr → Nat → Pos → Bool) (ex : Expr) : Bool := if h : ex.ctorIdx = 25 then Expr.Tuple.elim (motive_1 := fun _ => Bool) ex h k else false
theorem vTup_elim {P : Expr → Prop} {k : List Expr → Nat → Pos → Bool} {ex : Expr} (h : vTup k ex = true) (f : ∀ x0 x1 x2, k x0 x1 x2 = true → P (.Tuple x0 x1 x2)) : P ex :=
  if hc : ex.ctorIdx = 25 then Expr.Tuple.elim (motive_1 := fun ex => vTup k ex = true → P ex) ex hc f h else absurd ((dif_neg hc).symm.trans h) Bool.false_ne_true
noncomputable def vLst (k : List Expr → Pos → Bool) (ex : Expr) : Bool := if h : ex.ctorIdx = 24 then Expr.List.elim (motive_1 := fun _ => Bool) ex h k else false
theorem vLst_elim {P : Expr → Prop} {k : List Expr → Pos → Bool} {ex : Expr} (h : vLst k ex = true) (f : ∀ x0 x1, k x0 x1 = true → P (.List x0 x1)) : P ex :=
  if hc : ex.ctorIdx = 24 then Expr.List.elim (motive_1 := fun ex => vLst k ex = true → P ex) ex hc f h else absurd ((dif_neg hc).symm.trans h) Bool.false_ne_true
noncomputable def vAtt (k : Expr → Str → Pos → Bool) (ex : Expr) : Bool := if h : ex.ctorIdx = 20 then Expr.Attribute.elim (motive_1 := fun _ => Bool) ex h k else false
theorem vAtt_elim {P : Expr → Prop} {k : Expr → Str → Pos → Bool} {ex : Expr} (h : vAtt k ex = true) (f : ∀ x0 x1 x2, k x0 x1 x2 = true → P (.Attribute x0 x1 x2)) : P ex :=
  if hc : ex.ctorIdx = 20 then Expr.Attribute.elim (motive_1 := fun ex => vAtt k ex = true → P ex) ex hc f h else absurd ((dif_neg hc).symm.trans h) Bool.false_ne_true
noncomputable def vSub (k : Expr → Expr → Pos → Bool) (ex : Expr) : Bool := if h : ex.ctorIdx = 21 then Expr.Subscript.elim (motive_1 := fun _ => Bool) ex h k else false
theorem vSub_elim {P : Expr → Prop} {k : Expr → Expr → Pos → Bool} {ex : Expr} (h : vSub k ex = true) (f : ∀ x0 x1 x2, k x0 x1 x2 = true → P (.Subscript x0 x1 x2)) : P ex :=
  if hc : ex.ctorIdx = 21 then Expr.Subscript.elim (motive_1 := fun ex => vSub k ex = true → P ex) ex hc f h else absurd ((dif_neg hc).symm.trans h) Bool.false_ne_true
noncomputable def vSlc (k : Option Expr → Option Expr → Option Expr → Pos → Bool) (ex : Expr) : Bool := if h : ex.ctorIdx = 26 then Expr.Slice.elim (motive_1 := fun _ => Bool) ex h k else false
theorem vSlc_elim {P : Expr → Prop} {k : Option Expr → Option Expr → Option Expr → Pos → Bool} {ex : Expr} (h : vSlc k ex = true) (f : ∀ x0 x1 x2 x3, k x0 x1 x2 x3 = true → P (.Slice x0 x1 x2 x3)) : P ex :=
  if hc : ex.ctorIdx = 26 then Expr.Slice.elim (motive_1 := fun ex => vSlc k ex = true → P ex) ex hc f h else absurd ((dif_neg hc).symm.trans h) Bool.false_ne_true
noncomputable def vCall (k : Expr → List Expr → List Keyword → Pos → Bool) (ex : Expr) : Bool := if h : ex.ctorIdx = 16 then Expr.Call.elim (motive_1 := fun _ => Bool) ex h k else false
theorem vCall_elim {P : Expr → Prop} {k : Expr → List Expr → List Keyword → Pos → Bool} {ex : Expr} (h : vCall k ex = true) (f : ∀ x0 x1 x2 x3, k x0 x1 x2 x3 = true → P (.Call x0 x1 x2 x3)) : P ex :=
  if hc : ex.ctorIdx = 16 then Expr.Call.elim (motive_1 := fun ex => vCall k ex = true → P ex) ex hc f h else absurd ((dif_neg hc).symm.trans h) Bool.false_ne_true
noncomputable def vName (k : Str → Pos → Bool) (ex : Expr) : Bool := if h : ex.ctorIdx = 23 then Expr.Name.elim (motive_1 := fun _ => Bool) ex h k else false
theorem vName_elim {P : Expr → Prop} {k : Str → Pos → Bool} {ex : Expr} (h : vName k ex = true) (f : ∀ x0 x1, k x0 x1 = true → P (.Name x0 x1)) : P ex :=
  if hc : ex.ctorIdx = 23 then Expr.Name.elim (motive_1 := fun ex => vName k ex = true → P ex) ex hc f h else absurd ((dif_neg hc).symm.trans h) Bool.false_ne_true
noncomputable def isName : Expr → Bool := vName fun _ _ => true
noncomputable def isLocalName (tb : List Str) (i : Nat) : Expr → Bool := vName fun x _ => tb[i]? == some x && okName x
noncomputable def vComp (k : Expr → List Comprehension → Scope → Pos → Bool) (ex : Expr) : Bool := if h : ex.ctorIdx = 8 then Expr.ListComp.elim (motive_1 := fun _ => Bool) ex h k else false
theorem vComp_elim {P : Expr → Prop} {k : Expr → List Comprehension → Scope → Pos → Bool} {ex : Expr} (h : vComp k ex = true) (f : ∀ x0 x1 x2 x3, k x0 x1 x2 x3 = true → P (.ListComp x0 x1 x2 x3)) : P ex :=
  if hc : ex.ctorIdx = 8 then Expr.ListComp.elim (motive_1 := fun ex => vComp k ex = true → P ex) ex hc f h else absurd ((dif_neg hc).symm.trans h) Bool.false_ne_true
noncomputable def vDict (k : List (Option Expr) → List Expr → Pos → Bool) (ex : Expr) : Bool := if h : ex.ctorIdx = 6 then Expr.Dict.elim (motive_1 := fun _ => Bool) ex h k else false
theorem vDict_elim {P : Expr → Prop} {k : List (Option Expr) → List Expr → Pos → Bool} {ex : Expr} (h : vDict k ex = true) (f : ∀ x0 x1 x2, k x0 x1 x2 = true → P (.Dict x0 x1 x2)) : P ex :=
  if hc : ex.ctorIdx = 6 then Expr.Dict.elim (motive_1 := fun ex => vDict k ex = true → P ex) ex hc f h else absurd ((dif_neg hc).symm.trans h) Bool.false_ne_true
noncomputable def kNone (c : Const) : Bool := decide (c = .none)
noncomputable def kBool (b : Bool) (c : Const) : Bool := decide (c = .bool b)
noncomputable def kInK (b : Int) (c : Const) : Bool := decide (c = .int b)
noncomputable def kStr (b : Str) (c : Const) : Bool := decide (c = .str b)
noncomputable def vCallN (k : Str → List Expr → Bool) : Expr → Bool := vCall fun f args kws _ => ln kws && vName (fun x _ => k x args) f
theorem vCallN_elim {P : Expr → Prop} {k : Str → List Expr → Bool} {ex : Expr} (h : vCallN k ex = true) (f : ∀ x p args q, k x args = true → P (.Call (.Name x p) args [] q)) : P ex :=
  vCall_elim h fun fe args kws q h => bt h fun h1 h2 => ln_elim (P := fun kws => P (.Call fe args kws q)) h1 (vName_elim (P := fun fe => P (.Call fe args [] q)) h2 fun x p h3 => f x p args q h3)
noncomputable def vCallA (k : Expr → Str → Pos → List Expr → Pos → Bool) : Expr → Bool := vCall fun f args kws q => ln kws && vAtt (fun v x p => k v x p args q) f
theorem vCallA_elim {P : Expr → Prop} {k : Expr → Str → Pos → List Expr → Pos → Bool} {ex : Expr} (h : vCallA k ex = true) (f : ∀ v x p args q, k v x p args q = true → P (.Call (.Attribute v x p) args [] q)) : P ex :=
  vCall_elim h fun fe args kws q h => bt h fun h1 h2 => ln_elim (P := fun kws => P (.Call fe args kws q)) h1 (vAtt_elim (P := fun fe => P (.Call fe args [] q)) h2 fun v x p h3 => f v x p args q h3)
noncomputable def l1 {α : Type} (k : α → Bool) : List α → Bool := lc fun x r => ln r && k x
theorem l1_elim {α : Type} {P : List α → Prop} {k : α → Bool} {l : List α} (h : l1 k l = true) (f : ∀ x, k x = true → P [x]) : P l :=
  lc_elim h fun x r h => bt h fun h1 h2 => ln_elim (P := fun r => P (x :: r)) h1 (f x h2)
noncomputable def l2 {α : Type} (k : α → α → Bool) : List α → Bool := lc fun x r => l1 (k x) r
theorem l2_elim {α : Type} {P : List α → Prop} {k : α → α → Bool} {l : List α} (h : l2 k l = true) (f : ∀ x y, k x y = true → P [x, y]) : P l :=
  lc_elim h fun x r h => l1_elim (P := fun r => P (x :: r)) h (f x)
noncomputable def l3 {α : Type} (k : α → α → α → Bool) : List α → Bool := lc fun x r => l2 (k x) r
theorem l3_elim {α : Type} {P : List α → Prop} {k : α → α → α → Bool} {l : List α} (h : l3 k l = true) (f : ∀ x y z, k x y z = true → P [x, y, z]) : P l :=
  lc_elim h fun x r h => l2_elim (P := fun r => P (x :: r)) h (f x)
mutual
noncomputable def matchE (sc : Scope) (tb : List Str) : E → Expr → Bool
  | .cN, ex => vConst (fun c _ _ => kNone c) ex
  | .cB b, ex => vConst (fun c _ _ => kBool b c) ex
  | .cI i, ex => vConst (fun c _ _ => kInK i c) ex
  | .cS t, ex => vConst (fun c _ _ => kStr t.str c) ex
  | .loc i, ex => isLocalName tb i ex
  | .bin op a b, ex => vBin (fun l o r _ => o == op.op && (matchE sc tb a l && matchE sc tb b r)) ex
  | .neg a, ex => vUn (fun o x _ => decide (o = .USub) && matchE sc tb a x) ex
  | .and2 a b, ex => vBool (fun o l _ => decide (o = .And) && l2 (fun x y => matchE sc tb a x && matchE sc tb b y) l) ex
  | .and3 a b d, ex => vBool (fun o l _ => decide (o = .And) && l3 (fun x y z => matchE sc tb a x && (matchE sc tb b y && matchE sc tb d z)) l) ex
  | .or2 a b, ex => vBool (fun o l _ => decide (o = .Or) && l2 (fun x y => matchE sc tb a x && matchE sc tb b y) l) ex
  | .not_ a, ex => vUn (fun o x _ => decide (o = .Not) && matchE sc tb a x) ex
  | .cmp op a b, ex => vCmp (fun l os rs _ => l1 (fun o => o == op.op) os && l1 (fun r => notSet r && (matchE sc tb a l && matchE sc tb b r)) rs) ex
  | .cmp2 op1 op2 a b d, ex => vCmp (fun l os rs _ => l2 (fun o1 o2 => o1 == op1.op && o2 == op2.op) os && l2 (fun r q => notSet r && (notSet q && (matchE sc tb a l && (matchE sc tb b r && matchE sc tb d q)))) rs) ex
  | .ite d t e, ex => vIf (fun x y z _ => matchE sc tb d x && (matchE sc tb t y && matchE sc tb e z)) ex
  | .tup es, ex => vTup (fun elts _ _ => decide (elts.length < 1000) && matchEs sc tb es elts) ex
  | .lst es, ex => vLst (fun elts _ => decide (elts.length < 1000) && matchEs sc tb es elts) ex
  | .att o a, ex => vAtt (fun v x _ => x == a.str && (isBase v && matchE sc tb o v)) ex
  | .idx o i, ex => vSub (fun v sl _ => subKind sl && (matchE sc tb o v && matchE sc tb i sl)) ex
  | .slc o hi, ex => vSub (fun v sl _ => matchE sc tb o v && vSlc (fun a u b _ => on a && (on b && os (fun u => matchE sc tb hi u) u)) sl) ex
  | .call f es, ex => vCallN (fun x args => x == f.str && (glo sc x && matchEs sc tb es args)) ex
  | .mk k es, ex => vCallN (fun x args => x == k.str && (glo sc x && matchEs sc tb es args)) ex
  | .meth o m es, ex => vCallA (fun v x apos args pos => x == m.str && (isBase v && (apos.endLine == pos.line && (decide (args.length < 30) && (matchE sc tb o v && matchEs sc tb es args))))) ex
  | .clo o es, ex => vCallA (fun v x apos args pos => x == At.evaluateIn.str && (isBase v && (apos.endLine == pos.line && (decide (args.length < 30) && (matchE sc tb o v && matchEs sc tb es args))))) ex
  | .append o e, ex => vCallA (fun v x apos args pos => x == Str.ofString "append" && (isBase v && (apos.endLine == pos.line && (matchE sc tb o v && l1 (fun y => notStar y && matchE sc tb e y) args)))) ex
  | .pop o e, ex => vCallA (fun v x apos args pos => x == Str.ofString "pop" && (isBase v && (apos.endLine == pos.line && (matchE sc tb o v && l1 (fun y => notStar y && matchE sc tb e y) args)))) ex
  | .len e, ex => vCallN (fun x args => x == Bn.len.str && (glo sc x && l1 (fun y => notStar y && matchE sc tb e y) args)) ex
  | .int_ e, ex => vCallN (fun x args => x == Bn.int.str && (glo sc x && l1 (fun y => notStar y && matchE sc tb e y) args)) ex
  | .list_ e, ex => vCallN (fun x args => x == Bn.list.str && (glo sc x && l1 (fun y => notStar y && matchE sc tb e y) args)) ex
  | .tuple_ e, ex => vCallN (fun x args => x == Bn.tuple.str && (glo sc x && l1 (fun y => notStar y && matchE sc tb e y) args)) ex
  | .max1 e, ex => vCallN (fun x args => x == Bn.max.str && (glo sc x && l1 (fun y => notStar y && matchE sc tb e y) args)) ex
  | .sum_ e, ex => vCallN (fun x args => x == Bn.sum.str && (glo sc x && l1 (fun y => notStar y && matchE sc tb e y) args)) ex
  | .max2 a b, ex => vCallN (fun x args => x == Bn.max.str && (glo sc x && l2 (fun y z => notStar y && (notStar z && (matchE sc tb a y && matchE sc tb b z))) args)) ex
  | .isBool e, ex => vCallN (fun x args => x == Bn.isinstance.str && (glo sc x && l2 (fun y w => vName (fun z _ => z == Bn.bool.str && (glo sc z && (notStar y && matchE sc tb e y))) w) args)) ex
  | .dict0, ex => vDict (fun ks vs _ => ln ks && ln vs) ex
  | .callL i es, ex => vCallN (fun x args => tb[i]? == some x && (okName x && matchEs sc tb es args)) ex
  | .comp src tb' x elt, ex => vComp (fun e gs sc' _ => l1 (fun g => ln g.ifs && (decide (g.is_async = (0 : Int)) && vName (fun y _ => notSet g.iter && (matchE sc tb src g.iter && (compScopeOk sc tb tb' x y sc' && (nodupB (pick tb tb' ++ [y]) && matchE (relab sc' sc) (pick tb tb' ++ [y]) elt e)))) g.target)) gs) ex
  | .compR src tb' x elt, ex => vComp (fun e gs sc' _ => l1 (fun g => ln g.ifs && (decide (g.is_async = (0 : Int)) && vName (fun y _ => vCallN (fun r args => r == Bn.range.str && (glo sc r && l1 (fun n => notStar n && (matchE sc tb src n && (compScopeOk sc tb tb' x y sc' && (nodupB (pick tb tb' ++ [y]) && matchE (relab sc' sc) (pick tb tb' ++ [y]) elt e)))) args)) g.iter) g.target)) gs) ex
  | .any, _ => true
noncomputable def matchEs (sc : Scope) (tb : List Str) : Es → List Expr → Bool
  | .nil, ex => ln ex
  | .cons e es, ex => lc (fun y ys => notStar y && (matchE sc tb e y && matchEs sc tb es ys)) ex
end
noncomputable def CallAt (c : Cfg) (ρ : Pl) : Callee → Value → Prop
  | .fn f, v => v = .ref (c.fnA f)
  | .mt m, v => v = .ref (c.mtA m)
  | .clo i, v => ∃ p, ρ[i]? = some p ∧ v = .ref p.1
noncomputable def CallOk (c : Cfg) (n : Nat) (C : CallP) : Prop :=
  ∀ k vs H Q, C k vs H Q → ∀ (A : Around) (ρ : Pl) (s : Shared) (fv : Value) (xs : List Value), Room A n → RH c ρ H s → CallAt c ρ k fv → VRels c ρ s.heap vs xs →
    codeAny (model c.prog c.w) A (.call fv ⟨xs, []⟩) (fun r s' => ∃ v, r = .ok (.ret v) ∧ PE c ρ s Q v s') s
theorem CallOk.here {c : Cfg} {n : Nat} {C : CallP} (hC : CallOk c n C) {k : Callee} {vs : List V} {H : Hp} {Q : V → Hp → Prop} (w : C k vs H Q) {A : Around} {ρ : Pl} {s : Shared} {fv : Value} {xs : List Value}
    (A0 : Room A n) (R : RH c ρ H s) (ka : CallAt c ρ k fv) (rs : VRels c ρ s.heap vs xs) : wpAny (model c.prog c.w) A (call fv xs) (PE c ρ s Q) NoE s :=
  wpAny_call (codeAny_mono (hC k vs H Q w A ρ s fv xs A0 R ka rs) fun r s' ⟨v, e, p⟩ => by subst e; exact p)
theorem Room.down {A : Around} {n : Nat} (r : Room A (n + 1)) : Room A n := ⟨r.1, by have := r.2.1; (first | lia | omega), by have := r.2.2; (first | lia | omega)⟩
section
variable {c : Cfg} {ρ : Pl} {s : Shared} {A : Around}
theorem stp {t : Sem Value} {G : Value → Shared → Prop} {Q1 : V → Hp → Prop} (h : wpAny (model c.prog c.w) A t (PE c ρ s Q1) NoE s)
    (f : ∀ ρ' x H' s' v, RH c ρ' H' s' → Ext c [] ρ s ρ' s' → VRel c ρ' s'.heap x v → Q1 x H' → G v s') : wpAny (model c.prog c.w) A t G NoE s :=
  wpAny_mono h (fun v s' ⟨ρ', x, H', R', X, r, q⟩ => f ρ' x H' s' v R' X r q) fun _ _ e => e
theorem stps {t : Sem (List Value)} {G : List Value → Shared → Prop} {Q1 : List V → Hp → Prop} {k : Nat} (h : wpAny (model c.prog c.w) A t (fun vs s' => vs.length = k ∧ PEs c ρ s Q1 vs s') NoE s)
    (f : ∀ ρ' x H' s' v, v.length = k → RH c ρ' H' s' → Ext c [] ρ s ρ' s' → VRels c ρ' s'.heap x v → Q1 x H' → G v s') : wpAny (model c.prog c.w) A t G NoE s :=
  wpAny_mono h (fun v s' ⟨hk, ρ', x, H', R', X, r, q⟩ => f ρ' x H' s' v hk R' X r q) fun _ _ e => e
theorem leaf {t : Sem Value} {ρ' : Pl} {s' : Shared} {Q : V → Hp → Prop} (X : Ext c [] ρ s ρ' s') (h : wpAny (model c.prog c.w) A t (PE c ρ' s' Q) NoE s') : wpAny (model c.prog c.w) A t (PE c ρ s Q) NoE s' :=
  wpAny_mono h (fun _ _ p => p.trans X) fun _ _ e => e
inductive PB (c : Cfg) (ρ : Pl) (s : Shared) (Q : Bool → Hp → Prop) (b : Bool) (s' : Shared) : Prop
  | mk (ρ' : Pl) (H' : Hp) : RH c ρ' H' s' → Ext c [] ρ s ρ' s' → Q b H' → PB c ρ s Q b s'
theorem PB.trans {Q : Bool → Hp → Prop} {s' : Shared} {ρ' : Pl} {b : Bool} {s'' : Shared} (X : Ext c [] ρ s ρ' s') (p : PB c ρ' s' Q b s'') : PB c ρ s Q b s'' := by
  obtain ⟨ρ'', H', R, Y, q⟩ := p
  exact ⟨ρ'', H', R, X.trans Y, q⟩
noncomputable def onB (Q : Bool → Hp → Prop) (x : V) (H : Hp) : Prop := match x with | .bool b => Q b H | _ => False
noncomputable def SE (c : Cfg) (A : Around) (env : Env) (tb : List Str) (C : CallP) (e : E) (ex : Expr) : Prop :=
  ∀ (loc : List V) (m : Str → Option Value) (ρ : Pl) (H : Hp) (s : Shared) (Q : V → Hp → Prop), FrameRel c env tb loc ρ s.heap m → RH c ρ H s → wpE C c.scr e loc H Q →
    wpAny (model c.prog c.w) A (eval ex env) (PE c ρ s Q) NoE s
noncomputable def SB (c : Cfg) (A : Around) (env : Env) (tb : List Str) (C : CallP) (e : E) (ex : Expr) : Prop :=
  ∀ (loc : List V) (m : Str → Option Value) (ρ : Pl) (H : Hp) (s : Shared) (Q : Bool → Hp → Prop), FrameRel c env tb loc ρ s.heap m → RH c ρ H s → wpE C c.scr e loc H (onB Q) →
    wpAny (model c.prog c.w) A (isTrue ex env (eval ex env)) (PB c ρ s Q) NoE s
noncomputable def SEs (c : Cfg) (A : Around) (env : Env) (tb : List Str) (C : CallP) (es : Es) (exs : List Expr) : Prop :=
  ∀ (pos : Pos) (loc : List V) (m : Str → Option Value) (ρ : Pl) (H : Hp) (s : Shared) (Q : List V → Hp → Prop), FrameRel c env tb loc ρ s.heap m → RH c ρ H s → wpEs C c.scr es loc H Q →
    wpAny (model c.prog c.w) A (spliced (backTo pos (starEach exs env))) (fun vs s' => vs.length = exs.length ∧ PEs c ρ s Q vs s') NoE s
end
section
variable {c : Cfg} {A : Around} {env : Env} {tb : List Str} {C : CallP} {sc : Scope} {n : Nat}
theorem star_of {e : Expr} (h : notStar e = true) (r : List Expr) : starEach (e :: r) env = (false, eval e env) :: starEach r env := by
  cases e <;> first | rfl | exact absurd h Bool.false_ne_true
theorem isLocalName_of {i : Nat} {ex : Expr} (h : isLocalName tb i ex = true) : ∃ x p, ex = .Name x p ∧ tb[i]? = some x ∧ (x == ("__debug__" : Str)) = false ∧ (x == ("__classdict__" : Str)) = false := by
  apply vName_elim h; intro x p h
  simp only [okName, Bool.and_eq_true, Bool.not_eq_true', beq_iff_eq] at h
  exact ⟨x, p, rfl, h.1, h.2.1, h.2.2⟩
theorem se_loc {i : Nat} {ex : Expr} (eo : EnvOk env sc) (h : isLocalName tb i ex = true) : SE c A env tb C (.loc i) ex := by
  intro loc m ρ H s Q F R w
  obtain ⟨x, p, rfl, hx, hd, hn⟩ := isLocalName_of h
  obtain ⟨hne, q⟩ := w
  obtain ⟨v, rv, va⟩ := F.vars i x hx hne
  refine wpAny_Name ?_ hd
  have fin := PE.same R rv q
  have hk : env.scope.kind = .function := by rw [eo.scope]; exact eo.kind
  rcases va with ⟨h1, h2⟩ | ⟨h1, a, h2, h3⟩
  · exact wpAny_loadName_local hk h1 F.ns h2 fin
  · rcases h1 with h1 | h1
    · exact wpAny_loadName_cell hk h1 h2 h3 fin
    · exact wpAny_loadName_free hk h1 h2 h3 fin hn
theorem se_cN {k : Nat} {p : Pos} : SE c A env tb C .cN (.Constant .none k p) := fun loc m ρ H s Q F R w => wpAny_Constant_none (PE.none R w)
theorem se_cB {b : Bool} {k : Nat} {p : Pos} : SE c A env tb C (.cB b) (.Constant (.bool b) k p) := fun loc m ρ H s Q F R w => wpAny_Constant_bool (PE.bool R w)
theorem se_cI {i : Int} {k : Nat} {p : Pos} : SE c A env tb C (.cI i) (.Constant (.int i) k p) := fun loc m ρ H s Q F R w => wpAny_Constant_int (PE.int R w)
theorem se_cS {t : Tg} {k : Nat} {p : Pos} : SE c A env tb C (.cS t) (.Constant (.str t.str) k p) := fun loc m ρ H s Q F R w =>
  wpAny_Constant_str (PE.still R (.toks s _) (by simp only [VRel]; exact ⟨_, rfl⟩) w)
theorem se_bin {op : BOp} {a b : E} {l r : Expr} {p : Pos} (ha : SE c A env tb C a l) (hb : SE c A env tb C b r) : SE c A env tb C (.bin op a b) (.BinOp l op.op r p) := by
  intro loc m ρ H s Q F R w
  refine wpAny_BinOp (stp (ha _ _ _ _ _ _ F R w) fun ρ1 x H1 s1 v R1 X1 r1 w1 => ?_)
  refine stp (hb _ _ _ _ _ _ (F.ext X1) R1 w1) fun ρ2 y H2 s2 u R2 X2 r2 w2 => ?_
  exact leaf (X1.trans X2) <| binop_ok R2 (X2.vrel r1) r2 w2
theorem se_neg {a : E} {x : Expr} {p : Pos} (ha : SE c A env tb C a x) : SE c A env tb C (.neg a) (.UnaryOp .USub x p) := by
  intro loc m ρ H s Q F R w
  refine wpAny_UnaryOp (stp (ha _ _ _ _ _ _ F R w) fun ρ1 x H1 s1 v R1 X1 r1 w1 => ?_)
  cases x <;> first | exact False.elim w1 | skip
  simp only [VRel] at r1
  obtain ⟨t, rfl⟩ := r1
  exact leaf X1 <| PyProof.Rows.neg_int (PE.int R1 w1)
theorem vrel_bool {ρ : Pl} {h : Heap} {b : Bool} {v : Value} (r : VRel c ρ h (.bool b) v) : v = .bool b := by simpa only [VRel] using r
theorem se_not {a : E} {x : Expr} {p : Pos} (ha : SE c A env tb C a x) : SE c A env tb C (.not_ a) (.UnaryOp .Not x p) := by
  intro loc m ρ H s Q F R w
  refine wpAny_UnaryOp (stp (ha _ _ _ _ _ _ F R w) fun ρ1 x H1 s1 v R1 X1 r1 w1 => ?_)
  cases x <;> first | exact False.elim w1 | skip
  have := vrel_bool r1
  subst this
  unfold unaryOp
  refine wpAny_holding ?_
  rename_i t
  show wpAny _ _ (truthy (Value.bool t) >>= fun b => pure (Value.bool (!b))) _ _ _
  exact leaf X1 <| wpAny_bind (wpAny_truthy_bool (wpAny_pure (PE.bool R1 w1)))
theorem se_and2 {a b : E} {x y : Expr} {p : Pos} (ha : SE c A env tb C a x) (hb : SE c A env tb C b y) : SE c A env tb C (.and2 a b) (.BoolOp .And [x, y] p) := by
  intro loc m ρ H s Q F R w
  refine wpAny_And2 (wpAny_mono (ha _ _ _ _ _ _ F R w) (fun v s1 zz => ?_) fun _ _ e => e)
  obtain ⟨ρ1, x, H1, R1, X1, r1, w1⟩ := zz
  cases x <;> first | exact False.elim w1 | skip
  rename_i t
  have := vrel_bool r1
  subst this
  refine wpAny_truthy_bool ?_
  cases t
  · exact PE.trans X1 (PE.bool R1 w1)
  · exact wpAny_mono (hb _ _ _ _ _ _ (F.ext X1) R1 w1) (fun _ _ q => PE.trans X1 q) fun _ _ e => e
theorem se_or2 {a b : E} {x y : Expr} {p : Pos} (ha : SE c A env tb C a x) (hb : SE c A env tb C b y) : SE c A env tb C (.or2 a b) (.BoolOp .Or [x, y] p) := by
  intro loc m ρ H s Q F R w
  refine wpAny_Or2 (wpAny_mono (ha _ _ _ _ _ _ F R w) (fun v s1 zz => ?_) fun _ _ e => e)
  obtain ⟨ρ1, x, H1, R1, X1, r1, w1⟩ := zz
  cases x <;> first | exact False.elim w1 | skip
  rename_i t
  have := vrel_bool r1
  subst this
  refine wpAny_truthy_bool ?_
  cases t
  · exact wpAny_mono (hb _ _ _ _ _ _ (F.ext X1) R1 w1) (fun _ _ q => PE.trans X1 q) fun _ _ e => e
  · exact PE.trans X1 (PE.bool R1 w1)
theorem se_and3 {a b d : E} {x y z : Expr} {p : Pos} (ha : SE c A env tb C a x) (hb : SE c A env tb C b y) (hd : SE c A env tb C d z) : SE c A env tb C (.and3 a b d) (.BoolOp .And [x, y, z] p) := by
  intro loc m ρ H s Q F R w
  show wpAny _ _ (do
    let v ← eval x env
    standAt p
    let t ← holding [v] (truthy v)
    match BoolOp.And, t with
    | .And, false | .Or, true => pure v
    | _, _ => eval (.BoolOp .And [y, z] p) env) _ _ _
  refine wpAny_bind (wpAny_mono (ha _ _ _ _ _ _ F R w) (fun v s1 zz => wpAny_bind (wpAny_standAt (wpAny_bind (wpAny_holding ?_)))) fun _ _ e => e)
  obtain ⟨ρ1, x, H1, R1, X1, r1, w1⟩ := zz
  cases x <;> first | exact False.elim w1 | skip
  rename_i t
  have := vrel_bool r1
  subst this
  refine wpAny_truthy_bool ?_
  cases t
  · exact wpAny_pure (PE.trans X1 (PE.bool R1 w1))
  · exact wpAny_mono (se_and2 hb hd _ _ _ _ _ _ (F.ext X1) R1 w1) (fun _ _ q => PE.trans X1 q) fun _ _ e => e
theorem marks_of {o : CmpOp} {e : Expr} (h : notSet e = true) : behindInMarks o e = false := by
  cases e <;> first | rfl | exact absurd h Bool.false_ne_true
theorem se_cmp {op : COp} {a b : E} {l r : Expr} {p : Pos} (A0 : Room A n) (hr : notSet r = true) (ha : SE c A env tb C a l) (hb : SE c A env tb C b r) : SE c A env tb C (.cmp op a b) (.Compare l [op.op] [r] p) := by
  intro loc m ρ H s Q F R w
  refine wpAny_Compare1 (stp (ha _ _ _ _ _ _ F R w) fun ρ1 x H1 s1 v R1 X1 r1 w1 => ?_) (marks_of hr)
  refine stp (hb _ _ _ _ _ _ (F.ext X1) R1 w1) fun ρ2 y H2 s2 u R2 X2 r2 w2 => ?_
  exact leaf (X1.trans X2) <| cmp_ok A0 R2 (X2.vrel r1) r2 w2
end
end Mine
namespace Mine
open PySem PySem.W PySem.Calls PyProof.Rows
section
variable {c : Cfg} {A : Around} {env : Env} {tb : List Str} {C : CallP} {sc : Scope} {n : Nat}
theorem ses_nil : SEs c A env tb C .nil [] := fun pos loc m ρ H s Q F R w => wpAny_items_nil ⟨rfl, ρ, [], H, R, .refl, by simp only [VRels], w⟩
theorem ses_cons {e : E} {es : Es} {x : Expr} {xs : List Expr} (hx : notStar x = true) (h : SE c A env tb C e x) (hs : SEs c A env tb C es xs) : SEs c A env tb C (.cons e es) (x :: xs) := by
  intro pos loc m ρ H s Q F R w
  refine wpAny_items_cons (stp (h _ _ _ _ _ _ F R w) fun ρ1 x1 H1 s1 v R1 X1 r1 w1 => ?_) (star_of hx xs)
  refine stps (hs pos _ _ _ _ _ _ (F.ext X1) R1 w1) fun ρ2 xs2 H2 s2 vs hk R2 X2 r2 w2 => ?_
  exact ⟨by rw [List.length_cons, hk, List.length_cons], ρ2, x1 :: xs2, H2, R2, X1.trans X2, by simp only [VRels]; exact ⟨v, vs, rfl, X2.vrel r1, r2⟩, w2⟩
theorem se_tup {es : Es} {elts : List Expr} {k : Nat} {p : Pos} (h : SEs c A env tb C es elts) (hl : elts.length < 1000) : SE c A env tb C (.tup es) (.Tuple elts k p) := by
  intro loc m ρ H s Q F R w
  refine Tuple_ (stps (h p _ _ _ _ _ _ F R w) fun ρ1 xs H1 s1 vs hk R1 X1 r1 w1 => leaf X1 ?_)
  exact wpAny_newObj_type (newTuple_pe (tk := s1.toks) R1 r1 w1) (by show vs.toArray.size ≤ sizeLine; rw [List.size_toArray, sizeLine_eq]; (first | lia | omega))
theorem se_lst {es : Es} {elts : List Expr} {p : Pos} (h : SEs c A env tb C es elts) (hl : elts.length < 1000) : SE c A env tb C (.lst es) (.List elts p) := by
  intro loc m ρ H s Q F R w
  refine List_ (stps (h p _ _ _ _ _ _ F R w) fun ρ1 xs H1 s1 vs hk R1 X1 r1 w1 => leaf X1 ?_)
  exact wpAny_newObj_type (newList_pe (tk := s1.toks) R1 r1 w1) (by show vs.toArray.size ≤ sizeLine; rw [List.size_toArray, sizeLine_eq]; (first | lia | omega))
theorem se_dict0 {p : Pos} : SE c A env tb C .dict0 (.Dict [] [] p) := by
  intro loc m ρ H s Q F R w
  rw [eval_Dict_empty]
  refine wpAny_bind (wpAny_standAt (wpAny_newObj_type ?_ (by size_fits)))
  have X : Still c [] ρ s { s with heap := s.heap.push { cls := .type "dict", data := .dict #[] } } := .grown (fun b o e => Heap.get?_push_of_some _ e) rfl rfl rfl
  refine ⟨ρ ++ [(s.heap.objs.size, s.heap.objs.size)], .obj H.length, H ++ [CO.dict0], R.add (o := .dict0) X (get_none_of_le (Nat.le_refl _)) (get_none_of_le (Nat.le_refl _)) ⟨rfl, _, Heap.get?_push_size _ rfl, rfl, _, _, rfl⟩,
    .add X (get_none_of_le (Nat.le_refl _)) (get_none_of_le (Nat.le_refl _)), ?_, w⟩
  simp only [VRel]
  exact ⟨_, by rw [← R.len, List.getElem?_append_right (Nat.le_refl _), Nat.sub_self]; rfl, rfl⟩
theorem se_att (S : Stat c) {o : E} {a : At} {v : Expr} {p : Pos} (hv : isBase v = true) (h : SE c A env tb C o v) : SE c A env tb C (.att o a) (.Attribute v a.str p) := by
  intro loc m ρ H s Q F R w
  exact Attribute_any_ (stp (h _ _ _ _ _ _ F R w) fun ρ1 x H1 s1 v R1 X1 r1 w1 => leaf X1 <| att_ok S R1 r1 w1) (by cases v <;> first | (with_unfolding_all rfl) | exact absurd hv Bool.false_ne_true)
theorem se_idx {o i : E} {v sl : Expr} {p : Pos} (hk : subKind sl = true) (ho : SE c A env tb C o v) (hi : SE c A env tb C i sl) : SE c A env tb C (.idx o i) (.Subscript v sl p) := by
  intro loc m ρ H s Q F R w
  refine Subscript_ (stp (ho _ _ _ _ _ _ F R w) fun ρ1 x H1 s1 v R1 X1 r1 w1 => ?_)
  refine stp (hi _ _ _ _ _ _ (F.ext X1) R1 w1) fun ρ2 y H2 s2 u R2 X2 r2 w2 => leaf (X1.trans X2) <| sub_ok hk R2 (X2.vrel r1) r2 w2
theorem se_slc {o i : E} {v u : Expr} {p ps : Pos} (ho : SE c A env tb C o v) (hi : SE c A env tb C i u) : SE c A env tb C (.slc o i) (.Subscript v (.Slice none (some u) none ps) p) := by
  intro loc m ρ H s Q F R w
  refine Subscript_ (stp (ho _ _ _ _ _ _ F R w) fun ρ1 x H1 s1 v R1 X1 r1 w1 => ?_)
  refine wpAny_Slice ?_
  rw [evalPart_none]
  refine wpAny_pure ?_
  refine wpAny_evalPart_some (stp (hi _ _ _ _ _ _ (F.ext X1) R1 w1) fun ρ2 y H2 s2 u R2 X2 r2 w2 => ?_)
  exact wpAny_pure (wpAny_mono (slc_ok R2 (X2.vrel r1) r2 w2) (fun _ _ q => PE.trans (X1.trans X2) q) fun _ _ e => e)
theorem se_cmp2 {o1 o2 : COp} {a b d : E} {l r q : Expr} {p : Pos} (A0 : Room A n) (hr : notSet r = true) (hq : notSet q = true) (ha : SE c A env tb C a l) (hb : SE c A env tb C b r) (hd : SE c A env tb C d q) :
    SE c A env tb C (.cmp2 o1 o2 a b d) (.Compare l [o1.op, o2.op] [r, q] p) := by
  intro loc m ρ H s Q F R w
  refine Compare_chain (stp (ha _ _ _ _ _ _ F R w) fun ρ1 x H1 s1 v R1 X1 r1 w1 => ?_) (by show behindInMarks _ q = false; exact marks_of hq)
  refine chain_link (stp (hb _ _ _ _ _ _ (F.ext X1) R1 w1) fun ρ2 y H2 s2 u R2 X2 r2 w2 => ?_)
  refine stp (cmp_ok A0 R2 (X2.vrel r1) r2 w2) fun ρ3 z H3 s3 t R3 X3 r3 w3 => ?_
  cases z <;> first | exact False.elim w3 | skip
  rename_i t
  have := vrel_bool r3
  subst this
  refine wpAny_truthy_bool ?_
  have X := (X1.trans X2).trans X3
  cases t
  · exact PE.trans X (PE.bool R3 w3)
  · refine chain_last (stp (hd _ _ _ _ _ _ (F.ext X) R3 w3) fun ρ4 z H4 s4 t R4 X4 r4 w4 => ?_)
    exact leaf (X.trans X4) <| cmp_ok A0 R4 ((X3.trans X4).vrel r2) r4 w4
theorem lift_ns {ρ : Pl} {H : Hp} {s : Shared} (R : RH c ρ H s) {a : Addr} {m : Str → Option Value} (h : c.h0.Ns a m) : s.heap.Ns a m := h.keeps R.base
theorem glo_kind (eo : EnvOk env sc) {x : Str} (h : glo sc x = true) : env.scope.kind = .function ∧ env.kindOf x = some .globalImplicit ∧ (x == ("__debug__" : Str)) = false := by
  simp only [glo, okName, Bool.and_eq_true, Bool.not_eq_true', beq_iff_eq] at h
  refine ⟨by rw [eo.scope]; exact eo.kind, ?_, h.2.1⟩
  show env.scope.names.lookup x = _
  rw [eo.scope]; exact h.1
theorem name_fn (S : Stat c) (eo : EnvOk env sc) {f : Fn} {p : Pos} {ρ : Pl} {H : Hp} {s : Shared} {Q : Value → Shared → Prop} {E : Value → Shared → Prop} (hg : glo sc f.str = true) (R : RH c ρ H s) (h : Q (.ref (c.fnA f)) s) :
    wpAny (model c.prog c.w) A (eval (.Name f.str p) env) Q E s := by
  obtain ⟨k1, k2, k3⟩ := glo_kind eo hg
  obtain ⟨mg, mb, g1, g2, g3, g4, g5, g6⟩ := S.glob
  exact Name_function_global k1 k2 (loadGlobal_global (mg := mg) (by rw [eo.globals]; exact lift_ns R g1) (g3 f) h) k3
theorem name_cls (S : Stat c) (eo : EnvOk env sc) {f : Cls} {p : Pos} {ρ : Pl} {H : Hp} {s : Shared} {Q : Value → Shared → Prop} {E : Value → Shared → Prop} (hg : glo sc f.str = true) (R : RH c ρ H s) (h : Q (.ref (c.clsA f)) s) :
    wpAny (model c.prog c.w) A (eval (.Name f.str p) env) Q E s := by
  obtain ⟨k1, k2, k3⟩ := glo_kind eo hg
  obtain ⟨mg, mb, g1, g2, g3, g4, g5, g6⟩ := S.glob
  exact Name_function_global k1 k2 (loadGlobal_global (mg := mg) (by rw [eo.globals]; exact lift_ns R g1) (g4 f) h) k3
theorem name_bn (S : Stat c) (eo : EnvOk env sc) {f : Bn} {p : Pos} {ρ : Pl} {H : Hp} {s : Shared} {Q : Value → Shared → Prop} {E : Value → Shared → Prop} (hg : glo sc f.str = true) (R : RH c ρ H s) (h : Q f.val s) :
    wpAny (model c.prog c.w) A (eval (.Name f.str p) env) Q E s := by
  obtain ⟨k1, k2, k3⟩ := glo_kind eo hg
  obtain ⟨mg, mb, g1, g2, g3, g4, g5, g6⟩ := S.glob
  exact Name_function_global k1 k2 (loadGlobal_builtin (mg := mg) (mb := mb) (by rw [eo.globals]; exact lift_ns R g1) (g5 f).1 (by rw [eo.builtins]; exact lift_ns R g2) (g5 f).2 h) k3
theorem ev_plain {pos : Pos} : ∀ {exs : List Expr}, exs.all notStar = true → (backTo pos (starEach exs env)).any (·.1) = false
  | [], _ => rfl
  | e :: r, h => by
    rw [List.all_cons, Bool.and_eq_true] at h
    rw [star_of h.1]
    have := ev_plain (pos := pos) h.2
    unfold backTo at this ⊢
    rw [List.map_cons, List.any_cons, this]; rfl
theorem ev_args {f : Value} {pos : Pos} {es : Es} {exs : List Expr} {loc : List V} {m : Str → Option Value} {ρ : Pl} {H : Hp} {s : Shared} {Q : List V → Hp → Prop} (hp : exs.all notStar = true) (hn : es = .nil ↔ exs = []) (h : SEs c A env tb C es exs)
    (F : FrameRel c env tb loc ρ s.heap m) (R : RH c ρ H s) (w : wpEs C c.scr es loc H Q) :
    wpAny (model c.prog c.w) A (evalArgs f true (backTo pos (starEach exs env)) []) (fun a s' => ∃ vs, a = ⟨vs, []⟩ ∧ PEs c ρ s Q vs s') NoE s := by
  cases exs with
  | nil =>
    have := hn.mpr rfl
    subst this
    exact evalArgs_nil3 ⟨[], rfl, ρ, [], H, R, .refl, by simp only [VRels], by simpa only [wpEs] using w⟩
  | cons e r =>
    rw [List.all_cons, Bool.and_eq_true] at hp
    have h1 := h pos loc m ρ H s Q F R w
    rw [star_of hp.1] at h1 ⊢
    exact evalArgs_plain (wpAny_mono h1 (fun vs s' ⟨_, q⟩ => ⟨vs, rfl, q⟩) fun _ _ e => e)
noncomputable def Es.isNil : Es → Bool
  | .nil => true
  | .cons _ _ => false
structure ArgsOk (c : Cfg) (A : Around) (env : Env) (tb : List Str) (C : CallP) (es : Es) (exs : List Expr) : Prop where
  plain : exs.all notStar = true
  both : es = .nil ↔ exs = []
  ok : SEs c A env tb C es exs
theorem callW_ok {P : Heap → Prop} {f : Value} {first : List Value} {pos : Pos} {es : Es} {exs : List Expr} {loc : List V} {m : Str → Option Value} {ρ : Pl} {H : Hp} {s : Shared} {Qa : List V → Hp → Prop} {Q : V → Hp → Prop} (ao : ArgsOk c A env tb C es exs)
    (F : FrameRel c env tb loc ρ s.heap m) (R : RH c ρ H s) (w : wpEs C c.scr es loc H Qa)
    (hk : ∀ h, P h → ∃ k, (k = Keeper.frame ∨ k = Keeper.machine ∨ k = Keeper.boundFrame) ∧ Looks (model c.prog c.w) h (keeperOf f) k)
    (h : ∀ ρ' xs H' s' vs, RH c ρ' H' s' → Ext c [] ρ s ρ' s' → VRels c ρ' s'.heap xs vs → Qa xs H' → P s'.heap ∧ wpAny (model c.prog c.w) A (call f (first ++ vs)) (PE c ρ' s' Q) NoE s') :
    wpAny (model c.prog c.w) A (callWith pos f first (backTo pos (starEach exs env)) []) (PE c ρ s Q) NoE s := by
  refine callWith_of (P := P) (by rw [ev_plain ao.plain]; rfl) hk (wpAny_mono (ev_args ao.plain ao.both ao.ok F R w) (fun a s' ⟨vs, e, ρ', xs, H', R', X, r, q⟩ => ?_) fun _ _ e => e)
  subst e
  obtain ⟨hp, hc⟩ := h ρ' xs H' s' vs R' X r q
  exact ⟨hp, leaf X hc⟩
theorem fn_at {a : Addr} {o : Obj} {fd : FuncData} {ρ : Pl} {H : Hp} {s : Shared} (R : RH c ρ H s) (h : c.h0.get? a = some o) (hd : o.data = .func fd) : FnAt a s.heap := by
  obtain ⟨oc, od, dt, sl⟩ := o
  simp only at hd
  subst hd
  exact ⟨oc, od, fd, sl, R.base _ _ h⟩
theorem se_call (S : Stat c) (A0 : Room A n) (hC : CallOk c n C) (eo : EnvOk env sc) {f : Fn} {es : Es} {exs : List Expr} {p pos : Pos} (hg : glo sc f.str = true) (ao : ArgsOk c A env tb C es exs) :
    SE c A env tb C (.call f es) (.Call (.Name f.str p) exs [] pos) := by
  intro loc m ρ H s Q F R w
  refine Call_ (name_fn S eo hg R ?_)
  obtain ⟨o, fd, e1, e2, _⟩ := S.fn f
  refine callW_ok ao F R w keeps_F fun ρ' xs H' s' vs R' X r q => ⟨fn_at R' e1 e2, ?_⟩
  exact hC.here q A0 R' rfl r
theorem se_mk (S : Stat c) (A0 : Room A (n + 1)) (hC : CallOk c n C) (eo : EnvOk env sc) {k : Cls} {es : Es} {exs : List Expr} {p pos : Pos} (hg : glo sc k.str = true) (ao : ArgsOk c A env tb C es exs) :
    SE c A env tb C (.mk k es) (.Call (.Name k.str p) exs [] pos) := by
  intro loc m ρ H s Q F R w
  refine Call_ (name_cls S eo hg R ?_)
  refine callW_ok ao F R w (keeps_K (S.keepC k)) fun ρ' xs H' s' vs R' X r q => ⟨R'.K S, ?_⟩
  obtain ⟨mt, q, hcl, hst⟩ : ∃ mt, C (.mt mt) (.obj H'.length :: xs) (H' ++ [.inst k []]) (fun r H'' => r = .none ∧ Q (.obj H'.length) H'') ∧ mt.cls = k ∧ mt.str = Str.ofString "__init__" := by
    cases k
    · exact ⟨.makerInit, q, rfl, rfl⟩
    · exact ⟨.threadInit, q, rfl, rfl⟩
  have hme := S.meth mt
  rw [hcl, hst] at hme
  have X0 := R'.K S
  obtain ⟨hh, g, d, t, os⟩ := s'
  refine wpAny_call (make_core (makes_of X0 (S.makes k)) (looks_findIn X0 hme.1) (fun self => bind_fn X0 self (beq_iff_eq.mp hme.2)) (.inl rfl) ?_)
  have X1 : Still c [] ρ' ⟨hh, g, d, t, os⟩ ⟨(hh.push emptyDict).push (instObj (c.clsA k) hh.objs.size), g, d, t, os⟩ := .grown (fun b o e => Heap.get?_push_of_some _ (Heap.get?_push_of_some _ e)) rfl rfl rfl
  have n1 : hh.get? (hh.objs.size + 1) = none := get_none_of_le (s := ⟨hh, g, d, t, os⟩) (Nat.le_succ _)
  have n2 : hh.get? hh.objs.size = none := get_none_of_le (s := ⟨hh, g, d, t, os⟩) (Nat.le_refl _)
  have R1 : RH c (ρ' ++ [(hh.objs.size + 1, hh.objs.size)]) (H' ++ [.inst k []]) ⟨(hh.push emptyDict).push (instObj (c.clsA k) hh.objs.size), g, d, t, os⟩ :=
    R'.add (o := .inst k []) (p := (hh.objs.size + 1, hh.objs.size)) X1 n1 n2 ⟨by heap_get, [], 0, by show _ = some emptyDict; heap_get, .nil⟩
  have E1 : Ext c [] ρ' ⟨hh, g, d, t, os⟩ (ρ' ++ [(hh.objs.size + 1, hh.objs.size)]) ⟨(hh.push emptyDict).push (instObj (c.clsA k) hh.objs.size), g, d, t, os⟩ := .add X1 n1 n2
  have hob : VRel c (ρ' ++ [(hh.objs.size + 1, hh.objs.size)]) ((hh.push emptyDict).push (instObj (c.clsA k) hh.objs.size)) (.obj H'.length) (.ref (hh.objs.size + 1)) := by
    simp only [VRel]
    exact ⟨_, by rw [← R'.len, List.getElem?_append_right (Nat.le_refl _), Nat.sub_self]; rfl, rfl⟩
  refine codeAny_mono (hC _ _ _ _ q (A.under (.builtin "type.__call__" ⟨.ref (c.clsA k) :: vs, []⟩)) _ _ (.ref (c.mtA mt)) (.ref (hh.objs.size + 1) :: vs) ?_ R1 rfl ?_) fun r s'' ⟨v, e, p⟩ => ?_
  · obtain ⟨a1, a2, a3⟩ := A0
    refine ⟨a1, ?_, ?_⟩
    · rw [depth_under_make]; (first | lia | omega)
    · rw [units_under_make]; (first | lia | omega)
  · simp only [VRels]
    exact ⟨_, vs, rfl, hob, E1.vrels r⟩
  · subst e
    obtain ⟨ρ2, x, H2, R2, X2, r2, rfl, q2⟩ := p
    simp only [VRel] at r2
    refine ⟨r2, ρ2, .obj H'.length, H2, R2, E1.trans X2, X2.vrel hob, q2⟩
end
end Mine
namespace Mine
open PySem PySem.W PySem.Calls PyProof.Rows
section
variable {c : Cfg} {A : Around} {env : Env} {tb : List Str} {C : CallP} {sc : Scope} {n : Nat}
theorem ev_all {pos : Pos} : ∀ {exs : List Expr}, exs.all notStar = true → (backTo pos (starEach exs env)).all (!·.1) = true
  | [], _ => rfl
  | e :: r, h => by
    rw [List.all_cons, Bool.and_eq_true] at h
    rw [star_of h.1]
    have := ev_all (pos := pos) h.2
    unfold backTo at this ⊢
    rw [List.map_cons, List.all_cons, this]; rfl
theorem meth_form {v : Expr} {name : Str} {apos pos : Pos} {args : List Expr} {Q E : Value → Shared → Prop} {s : Shared} (hv : isBase v = true) (hp : args.all notStar = true) (hl : args.length < 30) (hpos : (apos.endLine == pos.line) = true)
    (h : ∀ pl : Sem Bool, wpAny (model c.prog c.w) A (eval v env) (fun ov s₁ => wpAny (model c.prog c.w) A (getMethod ov name pl) (fun fx s₂ => wpAny (model c.prog c.w) A (callWith pos fx.1 fx.2 (backTo pos (starEach args env)) []) Q E s₂) E s₁) E s) :
    wpAny (model c.prog c.w) A (eval (.Call (.Attribute v name apos) args [] pos) env) Q E s := by
  have hb : attributeBase v name env (eval v env) = eval v env := by cases v <;> first | rfl | exact absurd hv Bool.false_ne_true
  rw [arm_eval_Call, hb]
  have hform : methodCallForm (args.length + ([] : List Keyword).length) (backTo pos (starEach args env)) (backToKw pos (keywordEach [] env)) = true := by
    unfold methodCallForm
    rw [ev_all hp]
    simp only [Bool.true_and, Bool.and_eq_true, decide_eq_true_eq]
    exact ⟨rfl, by show args.length + 0 + 0 < 30; (first | lia | omega)⟩
  have hps : methodCallPos true v env apos pos = pure pos := by unfold methodCallPos; simp [hpos]
  refine wpAny_bind (wpAny_mono (h (do return (← importBound v env).getD true)) (fun ov s₁ h₁ => wpAny_bind (wpAny_standAt ?_)) fun _ _ e => e)
  unfold methodCall
  rw [hform]
  refine wpAny_bind (wpAny_holding ?_)
  unfold calleeOf
  rw [if_pos rfl]
  exact wpAny_mono h₁ (fun fx s₂ h₂ => wpAny_bind (wpAny_of_eq hps h₂)) fun _ _ e => e
theorem se_meth (S : Stat c) (A0 : Room A n) (hC : CallOk c n C) {o : E} {m : Mt} {es : Es} {v : Expr} {exs : List Expr} {apos pos : Pos} (hv : isBase v = true) (hl : exs.length < 30) (hpos : (apos.endLine == pos.line) = true)
    (ho : SE c A env tb C o v) (ao : ArgsOk c A env tb C es exs) : SE c A env tb C (.meth o m es) (.Call (.Attribute v m.str apos) exs [] pos) := by
  intro loc mm ρ H s Q F R w
  refine meth_form hv ao.plain hl hpos fun pl => stp (ho _ _ _ _ _ _ F R w) fun ρ1 x H1 s1 ov R1 X1 r1 w1 => ?_
  obtain ⟨i, rfl, w1⟩ := objF w1
  obtain ⟨k, fs, hi, rfl, hcl, w1⟩ := insF w1
  simp only [VRel] at r1
  obtain ⟨p, hp, rfl⟩ := r1
  obtain ⟨es', nn, I, fr, hd⟩ := ORel.inst (R1.objs _ _ _ hi hp)
  have X0 := R1.K S
  have hm := S.meth m
  rw [hcl] at hm
  refine method_fn X0 I (S.get .maker).1 (S.get .maker).2 hm.1 (beq_iff_eq.mp hm.2) (by unfold shadowIn; dsimp only; rw [lookIn_dict]; exact congrArg _ (fr.noMeth m)) ?_
  obtain ⟨of, fd, e1, e2, _⟩ := S.mt m
  refine wpAny_mono (callW_ok ao (F.ext X1) R1 w1 keeps_F fun ρ' xs H' s' vs R' X r q => ⟨fn_at R' e1 e2, ?_⟩) (fun _ _ q => PE.trans X1 q) fun _ _ e => e
  refine hC.here q A0 R' rfl ?_
  show VRels c ρ' s'.heap _ (.ref p.1 :: vs)
  simp only [VRels]
  refine ⟨_, vs, rfl, ?_, r⟩
  obtain ⟨τ, rfl, _⟩ := X.pre
  simp only [VRel]
  exact ⟨p, by rw [List.getElem?_append_left (List.getElem?_eq_some_iff.mp hp).1]; exact hp, rfl⟩
theorem clo_at {ρ : Pl} {H : Hp} {s : Shared} (R : RH c ρ H s) {j : Nat} {a b : V} {p : Addr × Addr} (hj : H[j]? = some (.clo a b)) (hp : ρ[j]? = some p) : FnAt p.1 s.heap := by
  obtain ⟨_, o, fd, c1, c2, v1, v2, e1, e2, e3, _⟩ := R.objs _ _ _ hj hp
  obtain ⟨oc, od, dt, sl⟩ := o
  simp only at e3
  subst e3
  exact ⟨oc, od, fd, sl, e1⟩
theorem se_clo (S : Stat c) (A0 : Room A n) (hC : CallOk c n C) {o : E} {es : Es} {v : Expr} {exs : List Expr} {apos pos : Pos} (hv : isBase v = true) (hl : exs.length < 30) (hpos : (apos.endLine == pos.line) = true)
    (ho : SE c A env tb C o v) (ao : ArgsOk c A env tb C es exs) : SE c A env tb C (.clo o es) (.Call (.Attribute v At.evaluateIn.str apos) exs [] pos) := by
  intro loc mm ρ H s Q F R w
  refine meth_form hv ao.plain hl hpos fun pl => stp (ho _ _ _ _ _ _ F R w) fun ρ1 x H1 s1 ov R1 X1 r1 w1 => ?_
  have hga := att_ok (A := A) (ex := false) S R1 r1 w1
  obtain ⟨i, rfl, w1⟩ := objF w1
  obtain ⟨k, fs, hi, w1⟩ := insF w1
  have r1' := r1
  simp only [VRel] at r1'
  obtain ⟨p, hp, rfl⟩ := r1'
  obtain ⟨es', nn, I, fr, hd⟩ := ORel.inst (R1.objs _ _ _ hi hp)
  refine method_usual (R1.K S) I (S.get k).1 (S.get k).2 (S.attr k .evaluateIn) rfl ?_
  refine stp hga fun ρ2 f H2 s2 fv R2 X2 r2 w2 => ?_
  obtain ⟨j, rfl, w2⟩ := objF w2
  · simp only [VRel] at r2
    obtain ⟨q, hq, rfl⟩ := r2
    refine wpAny_mono (callW_ok (P := FnAt q.1) (first := []) ao (F.ext (X1.trans X2)) R2 w2 keeps_F fun ρ' xs H' s' vs R' X r w3 => ?_) (fun _ _ z => PE.trans (X1.trans X2) z) fun _ _ e => e
    obtain ⟨_, _, hj, w3⟩ := cloF w3
    have hq' : ρ'[j]? = some q := by
      obtain ⟨τ, rfl, _⟩ := X.pre
      rw [List.getElem?_append_left (List.getElem?_eq_some_iff.mp hq).1]; exact hq
    exact ⟨clo_at R' hj hq', hC.here w3 A0 R' ⟨q, hq', rfl⟩ r⟩
theorem se_callL (S : Stat c) (A0 : Room A n) (hC : CallOk c n C) (eo : EnvOk env sc) {i : Nat} {es : Es} {x : Str} {p pos : Pos} {exs : List Expr} (hx : isLocalName tb i (.Name x p) = true) (ao : ArgsOk c A env tb C es exs) :
    SE c A env tb C (.callL i es) (.Call (.Name x p) exs [] pos) := by
  intro loc mm ρ H s Q F R w
  have hv := se_loc (A := A) (C := C) eo hx loc mm ρ H s (fun f H' => f = getL' loc i ∧ H' = H) F R
  refine Call_ ?_
  obtain ⟨j, hl, w⟩ := objF w
  refine stp (hv (by show getL' loc i ≠ .und ∧ _; rw [hl]; exact ⟨by simp, rfl, rfl⟩)) fun ρ1 f H1 s1 fv R1 X1 r1 ⟨e1, e2⟩ => ?_
  subst e2
  rw [hl] at e1
  subst e1
  simp only [VRel] at r1
  obtain ⟨q, hq, rfl⟩ := r1
  refine wpAny_mono (callW_ok (P := FnAt q.1) (first := []) ao (F.ext X1) R1 w keeps_F fun ρ' xs H' s' vs R' X r w3 => ?_) (fun _ _ z => PE.trans X1 z) fun _ _ e => e
  obtain ⟨_, _, hj, w3⟩ := cloF w3
  have hq' : ρ'[j]? = some q := by
    obtain ⟨τ, rfl, _⟩ := X.pre
    rw [List.getElem?_append_left (List.getElem?_eq_some_iff.mp hq).1]; exact hq
  exact ⟨clo_at R' hj hq', hC.here w3 A0 R' ⟨q, hq', rfl⟩ r⟩
theorem up_at {ρ ρ' : Pl} {s s' : Shared} {W : List Addr} (X : Ext c W ρ s ρ' s') {i : Nat} {p : Addr × Addr} (h : ρ[i]? = some p) : ρ'[i]? = some p := by
  obtain ⟨τ, rfl, _⟩ := X.pre
  rw [List.getElem?_append_left (List.getElem?_eq_some_iff.mp h).1]; exact h
theorem se_append {o e : E} {v y : Expr} {apos pos : Pos} (hv : isBase v = true) (hy : notStar y = true) (hpos : (apos.endLine == pos.line) = true)
    (ho : SE c A env tb C o v) (he : SE c A env tb C e y) : SE c A env tb C (.append o e) (.Call (.Attribute v (Str.ofString "append") apos) [y] [] pos) := by
  intro loc mm ρ H s Q F R w
  refine meth_form hv (by simp [hy]) (by simp) hpos fun pl => stp (ho _ _ _ _ _ _ F R w) fun ρ1 x H1 s1 ov R1 X1 r1 w1 => ?_
  obtain ⟨i, rfl, w1⟩ := objF w1
  obtain ⟨vs, hi, w1⟩ := lisF w1
  simp only [VRel] at r1
  obtain ⟨p, hp, rfl⟩ := r1
  obtain ⟨_, xs, m, ht, _⟩ := R1.isL hi hp
  refine getMethod_list_append ht rfl rfl ?_
  rw [star_of hy []]
  refine callWith_builtin rfl (evalArgs_plain (spliced_cons (stp (he _ _ _ _ _ _ (F.ext X1) R1 w1) fun ρ2 z H2 s2 u R2 X2 r2 w2 => spliced_nil ?_)))
  obtain ⟨vs2, hi2, w2⟩ := lisF w2
  exact leaf (X1.trans X2) <| append_ok R2 hi2 (up_at X2 hp) r2 w2.1 w2.2
theorem se_pop {o e : E} {v y : Expr} {apos pos : Pos} (hv : isBase v = true) (hy : notStar y = true) (hpos : (apos.endLine == pos.line) = true)
    (ho : SE c A env tb C o v) (he : SE c A env tb C e y) : SE c A env tb C (.pop o e) (.Call (.Attribute v (Str.ofString "pop") apos) [y] [] pos) := by
  intro loc mm ρ H s Q F R w
  refine meth_form hv (by simp [hy]) (by simp) hpos fun pl => stp (ho _ _ _ _ _ _ F R w) fun ρ1 x H1 s1 ov R1 X1 r1 w1 => ?_
  obtain ⟨i, rfl, w1⟩ := objF w1
  obtain ⟨vs, hi, w1⟩ := lisF w1
  simp only [VRel] at r1
  obtain ⟨p, hp, rfl⟩ := r1
  obtain ⟨_, xs, m, ht, _⟩ := R1.isL hi hp
  refine getMethod_builtin (T := "list") (id := "list.pop") ht.isList.typeIs PySem.F.plainAttrs_list PySem.F.slot_list_pop (by kernel_rfl) (fun a e => by cases e; exact ⟨_, ht, rfl⟩) ?_
  rw [star_of hy []]
  refine callWith_builtin rfl (evalArgs_plain (spliced_cons (stp (he _ _ _ _ _ _ (F.ext X1) R1 w1) fun ρ2 z H2 s2 u R2 X2 r2 w2 => spliced_nil ?_)))
  obtain ⟨z, rfl, w2⟩ := intF w2
  obtain ⟨hz, w2⟩ := bifF w2
  · rw [eq_of_beq hz] at r2
    obtain ⟨l0, hi2, w2⟩ := lisF w2
    obtain ⟨a0, l1, rfl, w3⟩ := consF w2
    obtain ⟨a1, l2, rfl, w4⟩ := consF w3
    obtain ⟨a2, l3, rfl, w2⟩ := consF w4
    obtain ⟨u', rfl⟩ := r2
    exact leaf (X1.trans X2) <| pop_ok R2 hi2 (up_at X2 hp) w2.1 w2.2
theorem bn_call (S : Stat c) (eo : EnvOk env sc) {b : Bn} {e : E} {y : Expr} {p pos : Pos} {loc : List V} {m : Str → Option Value} {ρ : Pl} {H : Hp} {s : Shared} {Q Q1 : V → Hp → Prop} (hg : glo sc b.str = true) (hy : notStar y = true)
    (F : FrameRel c env tb loc ρ s.heap m) (R : RH c ρ H s) (he : SE c A env tb C e y) (w : wpE C c.scr e loc H Q1)
    (h : ∀ ρ1 x H1 s1 v, RH c ρ1 H1 s1 → Ext c [] ρ s ρ1 s1 → VRel c ρ1 s1.heap x v → Q1 x H1 → wpAny (model c.prog c.w) A (call b.val [v]) (PE c ρ1 s1 Q) NoE s1) :
    wpAny (model c.prog c.w) A (eval (.Call (.Name b.str p) [y] [] pos) env) (PE c ρ s Q) NoE s := by
  refine Call_ (name_bn S eo hg R ?_)
  have hh := stp (he _ _ _ _ _ _ F R w) fun ρ1 x H1 s1 v R1 X1 r1 w1 => leaf X1 (h ρ1 x H1 s1 v R1 X1 r1 w1)
  rw [star_of hy []]
  have : ∀ f : Value, wpAny (model c.prog c.w) A (evalArgs f true (backTo pos [(false, eval y env)]) []) (fun a s₁ => wpAny (model c.prog c.w) A (call b.val ([] ++ a.pos) a.kw) (PE c ρ s Q) NoE s₁) NoE s :=
    fun f => evalArgs_plain (spliced_cons (wpAny_mono hh (fun v s1 h1 => spliced_nil h1) fun _ _ e => e))
  cases b <;> first | exact callWith_builtin rfl (this _) | exact PyProof.Rows.callWith_type rfl (this _)
theorem se_len (S : Stat c) (eo : EnvOk env sc) {e : E} {y : Expr} {p pos : Pos} (hg : glo sc Bn.len.str = true) (hy : notStar y = true) (he : SE c A env tb C e y) : SE c A env tb C (.len e) (.Call (.Name Bn.len.str p) [y] [] pos) := by
  intro loc mm ρ H s Q F R w
  refine bn_call S eo hg hy F R he w fun ρ1 x H1 s1 v R1 X1 r1 w1 => ?_
  obtain ⟨xs, hi, w1⟩ := itemsW_of w1
  exact len_ok R1 r1 hi w1.1 w1.2
theorem se_int (S : Stat c) (eo : EnvOk env sc) {e : E} {y : Expr} {p pos : Pos} (hg : glo sc Bn.int.str = true) (hy : notStar y = true) (he : SE c A env tb C e y) : SE c A env tb C (.int_ e) (.Call (.Name Bn.int.str p) [y] [] pos) := by
  intro loc mm ρ H s Q F R w
  refine bn_call S eo hg hy F R he w fun ρ1 x H1 s1 v R1 X1 r1 w1 => ?_
  cases x <;> first | exact False.elim w1 | skip
  simp only [VRel] at r1
  obtain ⟨t, rfl⟩ := r1
  exact int_ok R1 w1
theorem se_list (S : Stat c) (eo : EnvOk env sc) {e : E} {y : Expr} {p pos : Pos} (hg : glo sc Bn.list.str = true) (hy : notStar y = true) (he : SE c A env tb C e y) : SE c A env tb C (.list_ e) (.Call (.Name Bn.list.str p) [y] [] pos) := by
  intro loc mm ρ H s Q F R w
  exact bn_call S eo hg hy F R he w fun ρ1 x H1 s1 v R1 X1 r1 w1 => list_ok S R1 r1 w1
theorem se_tuple (S : Stat c) (eo : EnvOk env sc) {e : E} {y : Expr} {p pos : Pos} (hg : glo sc Bn.tuple.str = true) (hy : notStar y = true) (he : SE c A env tb C e y) : SE c A env tb C (.tuple_ e) (.Call (.Name Bn.tuple.str p) [y] [] pos) := by
  intro loc mm ρ H s Q F R w
  refine bn_call S eo hg hy F R he w fun ρ1 x H1 s1 v R1 X1 r1 w1 => ?_
  obtain ⟨i, rfl, w1⟩ := objF w1
  obtain ⟨vs, hi, w1⟩ := lisF w1
  simp only [VRel] at r1
  obtain ⟨q, hq, rfl⟩ := r1
  exact tuple_ok R1 hi hq w1.1 w1.2
theorem se_max1 (S : Stat c) (A0 : Room A n) (eo : EnvOk env sc) {e : E} {y : Expr} {p pos : Pos} (hg : glo sc Bn.max.str = true) (hy : notStar y = true) (he : SE c A env tb C e y) : SE c A env tb C (.max1 e) (.Call (.Name Bn.max.str p) [y] [] pos) := by
  intro loc mm ρ H s Q F R w
  refine bn_call S eo hg hy F R he w fun ρ1 x H1 s1 v R1 X1 r1 w1 => ?_
  obtain ⟨xs, hi, w1⟩ := itemsW_of w1
  obtain ⟨m, hm, w1⟩ := optF w1
  exact max1_ok A0 R1 r1 hi hm w1
theorem se_sum (S : Stat c) (A0 : Room A n) (eo : EnvOk env sc) {e : E} {y : Expr} {p pos : Pos} (hg : glo sc Bn.sum.str = true) (hy : notStar y = true) (he : SE c A env tb C e y) : SE c A env tb C (.sum_ e) (.Call (.Name Bn.sum.str p) [y] [] pos) := by
  intro loc mm ρ H s Q F R w
  refine bn_call S eo hg hy F R he w fun ρ1 x H1 s1 v R1 X1 r1 w1 => ?_
  obtain ⟨xs, hi, w1⟩ := itemsW_of w1
  obtain ⟨m, hm, w1⟩ := optF w1
  exact sum_ok A0 R1 r1 hi hm w1.1 w1.2
theorem se_max2 (S : Stat c) (A0 : Room A n) (eo : EnvOk env sc) {a b : E} {y z : Expr} {p pos : Pos} (hg : glo sc Bn.max.str = true) (hy : notStar y = true) (hz : notStar z = true) (ha : SE c A env tb C a y) (hb : SE c A env tb C b z) :
    SE c A env tb C (.max2 a b) (.Call (.Name Bn.max.str p) [y, z] [] pos) := by
  intro loc mm ρ H s Q F R w
  refine Call_ (name_bn S eo hg R ?_)
  rw [star_of hy [z], star_of hz []]
  refine callWith_builtin rfl (evalArgs_plain (spliced_cons (stp (ha _ _ _ _ _ _ F R w) fun ρ1 x H1 s1 v R1 X1 r1 w1 => ?_)))
  refine spliced_cons (stp (hb _ _ _ _ _ _ (F.ext X1) R1 w1) fun ρ2 y H2 s2 u R2 X2 r2 w2 => spliced_nil ?_)
  have r1' := X2.vrel r1
  cases x <;> cases y <;> try exact w2.elim
  simp only [VRel] at r1' r2
  obtain ⟨_, rfl⟩ := r1'
  obtain ⟨_, rfl⟩ := r2
  exact leaf (X1.trans X2) <| max2_ok A0 R2 w2
theorem se_isBool (S : Stat c) (eo : EnvOk env sc) {e : E} {y : Expr} {p pz pos : Pos} (hg : glo sc Bn.isinstance.str = true) (hz : glo sc Bn.bool.str = true) (hy : notStar y = true) (he : SE c A env tb C e y) :
    SE c A env tb C (.isBool e) (.Call (.Name Bn.isinstance.str p) [y, .Name Bn.bool.str pz] [] pos) := by
  intro loc mm ρ H s Q F R w
  refine Call_ (name_bn S eo hg R ?_)
  rw [star_of hy _]
  refine callWith_builtin rfl (evalArgs_plain (spliced_cons (stp (he _ _ _ _ _ _ F R w) fun ρ1 x H1 s1 v R1 X1 r1 w1 => ?_)))
  refine spliced_cons (name_bn S eo hz R1 (spliced_nil ?_))
  cases x <;> first | exact False.elim w1 | skip
  have := vrel_bool r1
  subst this
  exact leaf X1 <| isBool_ok R1 w1
end
end Mine
namespace Mine
open PySem PySem.W PySem.Calls PyProof.Rows
section
variable {c : Cfg} {ρ ρ' ρ'' : Pl} {s s' s'' : Shared} {H : Hp} {W : List Addr}
structure Off (c : Cfg) (ρ : Pl) (h : Heap) (a : Addr) : Prop where
  out : ∀ p ∈ ρ, a ≠ p.1 ∧ a ≠ p.2
  base : c.h0.get? a = none
  tab : a ≠ c.tab
  live : ∃ o, h.get? a = some o
theorem Off.ext {a : Addr} (o : Off c ρ s.heap a) (X : Ext c W ρ s ρ' s') (hl : ∃ x, s'.heap.get? a = some x) : Off c ρ' s'.heap a := by
  refine ⟨fun p hp => ?_, o.base, o.tab, hl⟩
  obtain ⟨τ, rfl, n⟩ := X.pre
  rcases List.mem_append.mp hp with hp | hp
  · exact o.out p hp
  · obtain ⟨x, e⟩ := o.live
    constructor
    · rintro rfl; rw [(n p hp).1.1] at e; cases e
    · rintro rfl; rw [(n p hp).1.2] at e; cases e
theorem Ext.shed {a : Addr} (X : Ext c W ρ s ρ' s') (Y : Ext c (a :: W) ρ' s' ρ'' s'') (h : s.heap.get? a = none) (ha : ∀ p ∈ ρ', a ≠ p.1 ∧ a ≠ p.2) : Ext c W ρ s ρ'' s'' := by
  have Z := (X.more ha).trans Y
  obtain ⟨τ, e, n⟩ := Z.pre
  refine ⟨⟨τ, e, fun p hp => ?_⟩, fun b o e n nw nt => Z.keep b o e n (by
    rw [List.mem_cons]
    rintro (rfl | q)
    · rw [h] at e; cases e
    · exact nw q) nt, Z.imm, fun b o e nw => Z.live b o e (by
    rw [List.mem_cons]
    rintro (rfl | q)
    · rw [h] at e; cases e
    · exact nw q), Z.gens, Z.drawn, Z.os⟩
  obtain ⟨m1, m2, m3⟩ := n p hp
  exact ⟨m1, fun q => m2 (List.mem_cons_of_mem _ q), fun q => m3 (List.mem_cons_of_mem _ q)⟩
theorem FrameRel.extW {env : Env} {tb : List Str} {loc : List V} {m : Str → Option Value} (F : FrameRel c env tb loc ρ s.heap m) (hW : env.locals ∉ W) (X : Ext c W ρ s ρ' s') : FrameRel c env tb loc ρ' s'.heap m := by
  obtain ⟨⟨o, es, ep, ho, hd, hk, hf⟩, fv, ⟨fa, ft, fb⟩, fl⟩ := F
  have hL := X.keep _ _ ho fa hW ft
  refine ⟨⟨o, es, ep, hL, hd, hk, hf⟩, fun i nm e n => ?_, ⟨fun p hp => ?_, ft, fb⟩, fl⟩
  · obtain ⟨v, r, va⟩ := fv i nm e n
    exact ⟨v, X.vrel r, va.ext X.imm⟩
  · obtain ⟨τ, rfl, n⟩ := X.pre
    rcases List.mem_append.mp hp with hp | hp
    · exact fa p hp
    · constructor
      · intro e; rw [e, (n p hp).1.1] at ho; cases ho
      · intro e; rw [e, (n p hp).1.2] at ho; cases ho
theorem RH.join {o : CO} {p : Addr × Addr} (R : RH c ρ H s) (f1 : c.h0.get? p.1 = none ∧ c.h0.get? p.2 = none ∧ p.1 ≠ c.tab ∧ p.2 ≠ c.tab) (lo : ∀ q ∈ ρ, q.1 ≠ p.1 ∧ q.1 ≠ p.2 ∧ q.2 ≠ p.1 ∧ q.2 ≠ p.2)
    (ho : ORel c (ρ ++ [p]) s.heap p o) : RH c (ρ ++ [p]) (H ++ [o]) s := by
  refine ⟨R.base, by rw [List.length_append, List.length_append, R.len]; rfl, fun i o' q e1 e2 => ?_, fun q hq => ?_, fun i j q r e1 e2 hne => ?_, R.tabs⟩
  · by_cases hi : i < H.length
    · rw [List.getElem?_append_left hi] at e1
      rw [List.getElem?_append_left (by rw [R.len]; exact hi)] at e2
      exact ORel.mono (fun _ _ e _ => e) (fun _ e => e) (fun _ e => e) (R.objs i o' q e1 e2)
    · rw [List.getElem?_append_right (Nat.not_lt.mp hi)] at e1
      rw [List.getElem?_append_right (by rw [R.len]; exact Nat.not_lt.mp hi), R.len] at e2
      cases hk : i - H.length with
      | zero => rw [hk] at e1 e2; cases e1; cases e2; exact ho
      | succ k => rw [hk] at e1; simp at e1
  · rcases List.mem_append.mp hq with hq | hq
    · exact R.fresh q hq
    · rw [List.mem_singleton.mp hq]
      exact f1
  · by_cases hi : i < ρ.length
    · rw [List.getElem?_append_left hi] at e1
      by_cases hj : j < ρ.length
      · rw [List.getElem?_append_left hj] at e2
        exact R.inj i j q r e1 e2 hne
      · rw [List.getElem?_append_right (Nat.not_lt.mp hj)] at e2
        cases hk : j - ρ.length with
        | zero =>
          rw [hk] at e2; cases e2
          exact lo q (List.mem_of_getElem? e1)
        | succ k => rw [hk] at e2; simp at e2
    · rw [List.getElem?_append_right (Nat.not_lt.mp hi)] at e1
      cases hk : i - ρ.length with
      | zero =>
        rw [hk] at e1; cases e1
        by_cases hj : j < ρ.length
        · rw [List.getElem?_append_left hj] at e2
          obtain ⟨l1, l2, l3, l4⟩ := lo r (List.mem_of_getElem? e2)
          exact ⟨l1.symm, l3.symm, l2.symm, l4.symm⟩
        · have h1 : ρ.length ≤ i := Nat.not_lt.mp hi
          have h2 : ρ.length ≤ j := Nat.not_lt.mp hj
          rw [List.getElem?_append_right h2] at e2
          have h3 := (List.getElem?_eq_some_iff.mp e2).1
          simp only [List.length_singleton] at h3
          exact absurd (by (first | lia | omega)) hne
      | succ k => rw [hk] at e1; simp at e1
inductive ISrc where
  | list (j : Nat)
  | tup (vs : List V)
  | range (n : Nat)
noncomputable def ISrc.has (src : ISrc) (items : List V) (H : Hp) : Prop := match src with
  | .list j => H[j]? = some (.list items)
  | .tup vs => vs = items
  | .range n => items = upTo n ∧ n ≤ 100000
noncomputable def ItAt (c : Cfg) (ρ : Pl) (src : ISrc) (I : Addr) (i : Nat) (h : Heap) : Prop := match src with
  | .list j => ∃ p, ρ[j]? = some p ∧ p.1 ≠ I ∧ h.IsListIter I p.1 i
  | .tup vs => ∃ a xs n, IsT h a (List.toArray xs) n ∧ VRels c ρ h vs xs ∧ a ≠ I ∧ h.IsTupleIter I a i
  | .range n => IsRangeIter h I i ((n : Int) - i) 1
theorem not_imm_fields {vs : Array Value} {o : Obj} (hd : o.data = .fields vs) (h1 : ∀ q t, vs[1]? ≠ some (.str q t)) : ¬ Imm o := by
  rintro (⟨_, xs, n, h⟩ | ⟨fd, h⟩ | ⟨v, h⟩ | ⟨ws, q, t, h, h2⟩)
  · rw [hd] at h; cases h
  · rw [hd] at h; cases h
  · rw [hd] at h; cases h
  · rw [hd] at h; cases h; exact h1 q t h2
theorem not_imm_ns {h : Heap} {a : Addr} {m : Str → Option Value} (n : h.Ns a m) : ∀ o, h.get? a = some o → ¬ Imm o := by
  intro o e
  obtain ⟨o', es, ep, ho, hd, _⟩ := n
  rw [ho] at e; cases e
  rintro (⟨_, xs, n, h⟩ | ⟨fd, h⟩ | ⟨v, h⟩ | ⟨ws, q, t, h, h2⟩) <;> (rw [hd] at h; cases h)
theorem ItAt.notImm {src : ISrc} {I : Addr} {i : Nat} (t : ItAt c ρ src I i s.heap) : ∀ o, s.heap.get? I = some o → ¬ Imm o := by
  intro o e
  cases src with
  | list j =>
    obtain ⟨p, _, _, o', e', h1, h2⟩ := t
    rw [e'] at e; cases e
    exact not_imm_fields h2 (by intro q t h; simp at h)
  | tup vs =>
    obtain ⟨a, xs, n, _, _, _, o', e', h1, h2⟩ := t
    rw [e'] at e; cases e
    exact not_imm_fields h2 (by intro q t h; simp at h)
  | range n =>
    have e' : s.heap.get? I = _ := t
    rw [e'] at e; cases e
    exact not_imm_fields rfl (by intro q t h; simp [rawInt] at h)
theorem ItAt.live {src : ISrc} {I : Addr} {i : Nat} {h : Heap} (t : ItAt c ρ src I i h) : ∃ o, h.get? I = some o := by
  cases src with
  | list j => obtain ⟨p, _, _, o', e', _⟩ := t; exact ⟨_, e'⟩
  | tup vs => obtain ⟨a, xs, n, _, _, _, o', e', _⟩ := t; exact ⟨_, e'⟩
  | range n => exact ⟨_, t⟩
theorem ItAt.ext {src : ISrc} {I : Addr} {i : Nat} (t : ItAt c ρ src I i s.heap) (X : Ext c W ρ s ρ' s') (k : ∀ o, s.heap.get? I = some o → s'.heap.get? I = some o) : ItAt c ρ' src I i s'.heap := by
  cases src with
  | list j => obtain ⟨p, h1, h2, o', e', h3⟩ := t; exact ⟨p, up_at X h1, h2, o', k _ e', h3⟩
  | tup vs => obtain ⟨a, xs, n, h1, h2, h3, o', e', h4⟩ := t; exact ⟨a, xs, n, X.imm _ _ h1 imm_tup, X.vrels h2, h3, o', k _ e', h4⟩
  | range n => exact k _ t
theorem ints_get {n i : Nat} (h : i < n) : (upTo n)[i]? = some (.int i) := by
  unfold upTo
  rw [List.getElem?_map, List.getElem?_range h]; rfl
theorem ints_len (n : Nat) : (upTo n).length = n := by unfold upTo; simp
theorem still_of {I : Addr} {h' : Heap} {tk : Tok} (o : Off c ρ s.heap I) (ni : ∀ x, s.heap.get? I = some x → ¬ Imm x) (hs : Heap.SameBut I s.heap h') : Still c [I] ρ s { s with heap := h', toks := tk } :=
  ⟨fun b x e n => (hs.2 b (fun q => n (by rw [q]; exact List.mem_singleton.mpr rfl))).trans e, fun b hb => by rw [List.mem_singleton.mp hb]; exact ⟨o.out, o.base, o.tab, ni⟩,
    fun b x e n => ⟨x, (hs.2 b (fun q => n (by rw [q]; exact List.mem_singleton.mpr rfl))).trans e⟩, rfl, rfl, rfl⟩
theorem next_item {A : Around} {E : Value → Shared → Prop} {src : ISrc} {I : Addr} {i : Nat} {items : List V} {x : V} {Q : Option Value → Shared → Prop} (R : RH c ρ H s) (t : ItAt c ρ src I i s.heap) (o : Off c ρ s.heap I) (hs : src.has items H) (hx : items[i]? = some x)
    (h : ∀ v s', Still c [I] ρ s s' → VRel c ρ s'.heap x v → ItAt c ρ src I (i + 1) s'.heap → Q (some v) s') : wpAny (model c.prog c.w) A (pyNext (.ref I)) Q E s := by
  have ni := t.notImm
  cases src with
  | list j =>
    obtain ⟨p, h1, h2, h3⟩ := t
    have hs : H[j]? = some (.list items) := hs
    obtain ⟨_, xs, n, ht, rs⟩ := R.isL hs h1
    obtain ⟨v, e1, e2⟩ := VRels.get rs hx
    refine wpAny_pyNext_list_item h3 ht.isList (x := v) (by simpa using e1) fun h' hit' hs' => ?_
    have X := still_of (tk := s.toks) o ni hs'
    exact h v _ X (VRel.mono0 X.imm e2) ⟨p, h1, h2, hit'⟩
  | tup vs =>
    obtain ⟨a, xs, n, h1, h2, h3, h4⟩ := t
    have hs : vs = items := hs
    subst hs
    obtain ⟨v, e1, e2⟩ := VRels.get h2 hx
    refine wpAny_pyNext_tuple_item h4 (items := List.toArray xs) ⟨_, h1, rfl, n, rfl⟩ (x := v) (by simpa using e1) fun h' hit' hs' => ?_
    have X := still_of (tk := s.toks) o ni hs'
    exact h v _ X (VRel.mono0 X.imm e2) ⟨a, xs, n, X.imm _ _ h1 imm_tup, VRels.mono0 X.imm h2, h3, hit'⟩
  | range n =>
    obtain ⟨rfl, hn⟩ := hs
    have hi : i < n := by
      have := (List.getElem?_eq_some_iff.mp hx).1
      rwa [ints_len] at this
    rw [ints_get hi] at hx
    cases hx
    refine wpAny_pyNext_range_item (x := i) (left := (n : Int) - i) (step := 1) t (by (first | lia | omega)) fun h' hit' hs' => ?_
    have X := still_of (tk := s.toks + 1) o ni hs'
    refine h _ _ X (by simp only [VRel]; exact ⟨_, rfl⟩) ?_
    show IsRangeIter h' I ((i + 1 : Nat) : Int) ((n : Int) - ((i + 1 : Nat) : Int)) 1
    have e1 : ((i : Int) + 1) = ((i + 1 : Nat) : Int) := by (first | lia | omega)
    have e3 : (n : Int) - ((i : Int) + 1) = (n : Int) - i - 1 := by (first | lia | omega)
    rw [← e1, e3]
    exact hit'
theorem next_end {A : Around} {E : Value → Shared → Prop} {src : ISrc} {I : Addr} {items : List V} {Q : Option Value → Shared → Prop} (hh : A.handled = none) (R : RH c ρ H s) (t : ItAt c ρ src I items.length s.heap) (o : Off c ρ s.heap I) (hs : src.has items H)
    (h : ∀ s', Still c [I] ρ s s' → Q none s') : wpAny (model c.prog c.w) A (pyNext (.ref I)) Q E s := by
  have ni := t.notImm
  have still : ∀ h', Heap.ExtBut I s.heap h' → Still c [I] ρ s { s with heap := h' } := fun h' hs' =>
    ⟨fun b x e n => hs' b x (fun q => n (by rw [q]; exact List.mem_singleton.mpr rfl)) e, fun b hb => by rw [List.mem_singleton.mp hb]; exact ⟨o.out, o.base, o.tab, ni⟩,
      fun b x e n => ⟨x, hs' b x (fun q => n (by rw [q]; exact List.mem_singleton.mpr rfl)) e⟩, rfl, rfl, rfl⟩
  cases src with
  | list j =>
    obtain ⟨p, h1, h2, h3⟩ := t
    have hs : H[j]? = some (.list items) := hs
    obtain ⟨_, xs, n, ht, rs⟩ := R.isL hs h1
    exact wpAny_pyNext_list_end hh h3 ht.isList (by rw [List.getElem?_toArray, List.getElem?_eq_none_iff, VRels.length rs]; exact Nat.le_refl _) fun h' hs' => h _ (still h' hs')
  | tup vs =>
    obtain ⟨a, xs, n, h1, h2, h3, h4⟩ := t
    have hs : vs = items := hs
    subst hs
    exact wpAny_pyNext_tuple_end hh h4 (items := List.toArray xs) ⟨_, h1, rfl, n, rfl⟩ (by rw [List.getElem?_toArray, List.getElem?_eq_none_iff, VRels.length h2]; exact Nat.le_refl _) fun h' hs' => h _ (still h' hs')
  | range n =>
    obtain ⟨rfl, hn⟩ := hs
    rw [ints_len] at t
    exact wpAny_pyNext_range_end hh t (by (first | lia | omega)) fun h' hs' => h _ (still h' hs')
theorem iter_new {A : Around} {E : Value → Shared → Prop} {x : V} {items : List V} {v : Value} {Q : Value → Shared → Prop} (R : RH c ρ H s) (rx : VRel c ρ s.heap x v) (hx : itemsOf x H = some items)
    (h : ∀ src o, src.has items H → (∀ H', stillW x items H' → src.has items H') → ItAt c ρ src s.heap.objs.size 0 (s.heap.push o) → Q (.ref s.heap.objs.size) { s with heap := s.heap.push o }) :
    wpAny (model c.prog c.w) A (pyIter v) Q E s := by
  rcases itemsF hx with rfl | ⟨i, rfl, hi⟩
  · simp only [VRel] at rx
    obtain ⟨a, vs, n, rfl, ht, rs⟩ := rx
    refine wpAny_pyIter_tuple (items := List.toArray vs) ⟨_, ht, rfl, n, rfl⟩ (h (.tup items) _ rfl (fun _ _ => rfl) ?_)
    exact ⟨a, vs, n, Heap.get?_push_of_some _ ht, VRels.mono0 (fun b o e _ => Heap.get?_push_of_some _ e) rs, Nat.ne_of_lt (Heap.lt_size ht), _, Heap.get?_push_size _ rfl, rfl, rfl⟩
  · simp only [VRel] at rx
    obtain ⟨p, hp, rfl⟩ := rx
    obtain ⟨e2, vs, n, ht, rs⟩ := R.isL hi hp
    refine wpAny_pyIter_list ht.isList (h (.list i) _ hi (fun H' q => q) ?_)
    exact ⟨p, hp, Nat.ne_of_lt (Heap.lt_size ht), _, Heap.get?_push_size _ rfl, rfl, rfl⟩
theorem range_new {A : Around} {E : Value → Shared → Prop} {n : Int} {t : Tok} {G : Value → Shared → Prop} (hn : n ≤ 100000) (h0 : 0 ≤ n)
    (h : ∀ o o' tk, ItAt c ρ (.range n.toNat) (s.heap.objs.size + 1) 0 ((s.heap.push o).push o') → G (.ref (s.heap.objs.size + 1)) { s with heap := (s.heap.push o).push o', toks := tk }) :
    wpAny (model c.prog c.w) A (call (.type "range") [.int n t]) (fun v s₁ => wpAny (model c.prog c.w) A (pyIter v) G E s₁) E s := by
  refine call_range_1 ?_
  refine wpAny_pyIter_range (IsRange.new ..) (small_one (by (first | lia | omega)) (by (first | lia | omega)) (by (first | lia | omega)) (by (first | lia | omega))) ?_
  have e : Builtin.Range.rangeSize 0 n 1 = ((n.toNat : Nat) : Int) := by rw [rangeSize_one]; split <;> (first | lia | omega)
  rw [e]
  show G (.ref ((s.heap.push _).objs.size)) _
  rw [Heap.size_push]
  refine h _ _ _ ?_
  show IsRangeIter _ _ ((0 : Nat) : Int) (((n.toNat : Nat) : Int) - ((0 : Nat) : Int)) 1
  have : (((n.toNat : Nat) : Int) - ((0 : Nat) : Int)) = ((n.toNat : Nat) : Int) := by (first | lia | omega)
  rw [this]
  have q := Heap.get?_push_size (h := (s.heap.push { cls := .type "range", data := .fields #[.int 0 s.toks, .int n t, .int 1 (s.toks + 1)] })) (o := { cls := .type "range_iterator", data := .fields #[rawInt 0, rawInt ((n.toNat : Nat) : Int), rawInt 1] }) rfl
  rw [Heap.size_push] at q
  exact q
end
end Mine
namespace Mine
open PySem PySem.W PySem.Calls PyProof.Rows
theorem getL_setL (loc : List V) (i j : Nat) (x : V) : getL' (setL loc i x) j = if j = i then x else getL' loc j := by
  unfold getL' setL
  split
  · rename_i h
    rw [List.getD_eq_getElem?_getD, List.getElem?_set, List.getD_eq_getElem?_getD]
    by_cases q : i = j
    · subst q; rw [if_pos rfl, if_pos h, if_pos rfl]; rfl
    · rw [if_neg q, if_neg (Ne.symm q)]
  · rename_i h
    have h := Nat.not_lt.mp h
    rw [List.getD_eq_getElem?_getD, List.getD_eq_getElem?_getD]
    by_cases q : j = i
    · subst q
      rw [if_pos rfl, List.getElem?_append_right (by simp; (first | lia | omega))]
      simp
      rw [show j - (loc.length + (j - loc.length)) = 0 by (first | lia | omega)]; rfl
    · rw [if_neg q]
      by_cases h1 : j < loc.length
      · rw [List.append_assoc, List.getElem?_append_left h1]
      · rw [List.getElem?_eq_none (l := loc) (Nat.not_lt.mp h1)]
        by_cases h2 : j < i
        · rw [List.getElem?_append_left (by simp; (first | lia | omega)), List.getElem?_append_right (Nat.not_lt.mp h1), List.getElem?_replicate, if_pos (by (first | lia | omega))]; rfl
        · rw [List.getElem?_eq_none (by simp; (first | lia | omega))]
theorem len_setL (loc : List V) (i : Nat) (x : V) : (setL loc i x).length = max loc.length (i + 1) := by
  unfold setL
  split
  · rw [List.length_set]; (first | lia | omega)
  · simp; (first | lia | omega)
theorem set_setL (loc : List V) (i : Nat) (x y : V) : setL (setL loc i x) i y = setL loc i y := by
  have hl : (setL (setL loc i x) i y).length = (setL loc i y).length := by rw [len_setL, len_setL, len_setL]; (first | lia | omega)
  apply List.ext_getElem hl
  intro j h1 h2
  have key : getL' (setL (setL loc i x) i y) j = getL' (setL loc i y) j := by
    rw [getL_setL, getL_setL, getL_setL]
    by_cases q : j = i
    · rw [if_pos q, if_pos q]
    · rw [if_neg q, if_neg q, if_neg q]
  unfold getL' at key
  rw [List.getD_eq_getElem?_getD, List.getElem?_eq_getElem h1, List.getD_eq_getElem?_getD, List.getElem?_eq_getElem h2] at key
  exact key
section
variable {c : Cfg} {ρ ρ' ρ'' : Pl} {s s' s'' : Shared} {H : Hp} {W : List Addr} {A : Around} {env : Env} {tb : List Str} {C : CallP} {sc : Scope} {n : Nat}
theorem nodup_at {tb : List Str} (nd : tb.Nodup) {i j : Nat} {x : Str} (h1 : tb[i]? = some x) (h2 : tb[j]? = some x) : i = j := by
  obtain ⟨l1, e1⟩ := List.getElem?_eq_some_iff.mp h1
  obtain ⟨l2, e2⟩ := List.getElem?_eq_some_iff.mp h2
  exact (List.getElem_inj nd).mp (e1.trans e2.symm)
theorem store_ok {loc : List V} {m : Str → Option Value} {i : Nat} {nm : Str} {x : V} {v : Value} {Q : Unit → Shared → Prop} {E : Value → Shared → Prop} (eo : EnvOk env sc) (F : FrameRel c env tb loc ρ s.heap m) (R : RH c ρ H s) (rv : VRel c ρ s.heap x v)
    (hi : tb[i]? = some nm) (hk : sc.names.lookup nm = some .local) (nd : tb.Nodup)
    (h : ∀ s' m', Still c [env.locals] ρ s s' → FrameRel c env tb (setL loc i x) ρ s'.heap m' → Q () s') : wpAny (model c.prog c.w) A (storeName env nm v) Q E s := by
  have hkk : env.kindOf nm = some .local := by show env.scope.names.lookup nm = _; rw [eo.scope]; exact hk
  obtain ⟨fa, ft, fb⟩ := F.apart
  refine wpAny_storeName_local hkk F.ns (fun h' hn' hs' => ?_) (by rw [eo.scope, eo.kind]; rfl)
  have X : Still c [env.locals] ρ s { s with heap := h', toks := s.toks + 1 } :=
    ⟨fun b y e n => (hs'.2 b (fun q => n (by rw [q]; exact List.mem_singleton.mpr rfl))).trans e, fun b hb => by rw [List.mem_singleton.mp hb]; exact ⟨fa, fb, ft, not_imm_ns F.ns⟩,
      fun b y e n => ⟨y, (hs'.2 b (fun q => n (by rw [q]; exact List.mem_singleton.mpr rfl))).trans e⟩, rfl, rfl, rfl⟩
  refine h _ _ X ⟨hn', fun j nm' hj hne => ?_, ⟨fa, ft, fb⟩, ?_⟩
  · rw [getL_setL] at hne ⊢
    by_cases q : j = i
    · subst q
      rw [if_pos rfl]
      rw [hi] at hj; cases hj
      exact ⟨v, VRel.mono0 X.imm rv, .inl ⟨hkk, by simp⟩⟩
    · rw [if_neg q] at hne ⊢
      obtain ⟨u, ru, va⟩ := F.vars j nm' hj hne
      have hnn : nm' ≠ nm := fun e => q (nodup_at nd hj (e ▸ hi))
      refine ⟨u, VRel.mono0 X.imm ru, va.imp (fun ⟨a1, a2⟩ => ⟨a1, by dsimp only; rw [if_neg hnn]; exact a2⟩) fun ⟨a1, a, e1, o, g1, g2⟩ => ⟨a1, a, e1, o, X.imm _ _ g1 (.inr (.inr (.inl ⟨_, g2⟩))), g2⟩⟩
  · rw [len_setL]
    have := (List.getElem?_eq_some_iff.mp hi).1
    have := F.len
    (first | lia | omega)
theorem Ext.join {p : Addr × Addr} (X : Ext c W ρ s ρ' s') (n1 : s.heap.get? p.1 = none) (n2 : s.heap.get? p.2 = none) (w1 : p.1 ∉ W) (w2 : p.2 ∉ W) : Ext c W ρ s (ρ' ++ [p]) s' := by
  obtain ⟨⟨τ, rfl, n⟩, k1, i1, z1, g1, d1, o1⟩ := X
  refine ⟨⟨τ ++ [p], by rw [List.append_assoc], fun q hq => ?_⟩, k1, i1, z1, g1, d1, o1⟩
  rcases List.mem_append.mp hq with hq | hq
  · exact n q hq
  · rw [List.mem_singleton.mp hq]; exact ⟨⟨n1, n2⟩, w1, w2⟩
theorem Ext.swap {a b : Addr} (X : Ext c [a, b] ρ s ρ' s') : Ext c [b, a] ρ s ρ' s' := by
  have e : ∀ x : Addr, x ∈ [a, b] ↔ x ∈ [b, a] := fun x => by simp [or_comm]
  obtain ⟨⟨τ, h1, n⟩, k1, i1, z1, g1, d1, o1⟩ := X
  exact ⟨⟨τ, h1, fun p hp => by obtain ⟨m1, m2, m3⟩ := n p hp; exact ⟨m1, fun q => m2 ((e _).mpr q), fun q => m3 ((e _).mpr q)⟩⟩, fun x o q n nw nt => k1 x o q n (fun z => nw ((e _).mp z)) nt, i1, fun x o q nw => z1 x o q (fun z => nw ((e _).mp z)), g1, d1, o1⟩
theorem Still.ofSB {a : Addr} {h' : Heap} {tk : Tok} (o : Off c ρ s.heap a) (ni : ∀ x, s.heap.get? a = some x → ¬ Imm x) (hs : Heap.SameBut a s.heap h') : Still c [a] ρ s { s with heap := h', toks := tk } := still_of o ni hs
theorem Still.extW {W' : List Addr} (X : Still c W' ρ s s') (h : ∀ b ∈ W', b ∈ W) : Ext c W ρ s ρ s' :=
  ⟨⟨[], by rw [List.append_nil], fun _ h => nomatch h⟩, fun b o e n nw nt => X.keep b o e (fun q => nw (h b q)), X.imm, fun b o e nw => X.live b o e (fun q => nw (h b q)), X.gens, X.drawn, X.os⟩
theorem Off.imm {a : Addr} {h : Heap} (o : Off c ρ h a) {h' : Heap} (hl : ∃ x, h'.get? a = some x) : Off c ρ h' a := ⟨o.out, o.base, o.tab, hl⟩
inductive CompI (c : Cfg) (C : CallP) (src : ISrc) (I D : Addr) (elt : E) (xi : Nat) (cenv : Env) (tbc : List Str) (loc0 items : List V) (chk : Hp → Prop) (Qc : List V → Hp → Prop) (ρ : Pl) (s : Shared) (k : Nat) (s' : Shared) : Prop
  | mk (i : Nat) (ρk : Pl) (Hk : Hp) (accs : List V) (vs : List Value) (locc : List V) (mk : Str → Option Value) (nk : Nat) : i + k = items.length → RH c ρk Hk s' → Ext c [I, D, cenv.locals] ρ s ρk s' → FrameRel c cenv tbc locc ρk s'.heap mk → (∀ v, setL locc xi v = setL loc0 xi v) →
    ItAt c ρk src I i s'.heap → Off c ρk s'.heap I → Off c ρk s'.heap D → IsL s'.heap D (List.toArray vs) nk → VRels c ρk s'.heap accs vs → accs.length = i →
    compW chk (fun v H k => wpE C c.scr elt (setL loc0 xi v) H k) (items.drop i) accs Hk Qc → CompI c C src I D elt xi cenv tbc loc0 items chk Qc ρ s k s'
theorem comp_loop (S : Stat c) {elt : E} {ex iter : Expr} {y : Str} {py pos : Pos} {sc' scn : Scope} {cenv : Env} {tbc : List Str} {xi : Nat} {loc0 : List V} {src : ISrc} {I D : Addr} {items : List V} {chk : Hp → Prop} {Qc : List V → Hp → Prop} {R : Result → Shared → Prop}
    {m0 : Str → Option Value} {n0 : Nat} (hh : A.handled = none) (eo : EnvOk cenv sc') (he : SE c A cenv tbc C elt ex) (hy : tbc[xi]? = some y) (hk : sc'.names.lookup y = some .local) (nd : tbc.Nodup)
    (hsz : items.length ≤ 100000) (hchk : ∀ H, chk H → src.has items H)
    (R1 : RH c ρ H s) (F1 : FrameRel c cenv tbc loc0 ρ s.heap m0) (t1 : ItAt c ρ src I 0 s.heap) (oI : Off c ρ s.heap I) (oD : Off c ρ s.heap D) (hIC : I ≠ cenv.locals) (hDC : D ≠ cenv.locals) (hID : I ≠ D) (hD : IsL s.heap D #[] n0)
    (w : compW chk (fun v H k => wpE C c.scr elt (setL loc0 xi v) H k) items [] H Qc)
    (fin : ∀ ρ' H' s' acc vs m' n', RH c ρ' H' s' → Ext c [I, D, cenv.locals] ρ s ρ' s' → Off c ρ' s'.heap D → s'.heap.Ns cenv.locals m' → Off c ρ' s'.heap cenv.locals → IsL s'.heap D (List.toArray vs) n' → VRels c ρ' s'.heap acc vs → Qc acc H' → R (.ok .next) s') :
    codeAny (model c.prog c.w) A (.compLoop (.ListComp ex [⟨.Name y py, iter, [], 0⟩] scn pos) 0 (.ref I) (.ref D) cenv) R s := by
  refine codeAny_compLoop_list (I := CompI c C src I D elt xi cenv tbc loc0 items chk Qc ρ s) (fun k s' hJ => ?_) items.length
    ⟨0, ρ, H, [], [], loc0, m0, n0, by (first | lia | omega), R1, .refl, F1, fun _ => rfl, t1, oI, oD, hD, by simp only [VRels], rfl, w⟩
  obtain ⟨i, ρk, Hk, accs, vs, locc, mk, nk, hik, Rk, Xk, Fk, hset, tk, oIk, oDk, hDk, rk, hai, wk⟩ := hJ
  have niD : ∀ x, s'.heap.get? D = some x → ¬ Imm x := fun x e => by rw [hDk] at e; cases e; exact not_imm_list
  cases hx : items[i]? with
  | none =>
    have hl : items.length ≤ i := List.getElem?_eq_none_iff.mp hx
    have hi : i = items.length := by (first | lia | omega)
    subst hi
    rw [List.drop_of_length_le (Nat.le_refl _)] at wk
    obtain ⟨w1, w2⟩ := wk
    refine next_end hh Rk tk oIk (hchk _ w1) fun s2 X2 => ?_
    have hL2 : FrameRel c cenv tbc locc ρk s2.heap mk := Fk.extW (by simp [Ne.symm hIC]) X2.ext
    have hD2 : IsL s2.heap D (List.toArray vs) nk := X2.keep _ _ hDk (by simp [Ne.symm hID])
    refine fin ρk Hk s2 accs vs mk nk (X2.rh Rk) (Xk.trans ?_) (oDk.imm ⟨_, hD2⟩) hL2.ns ⟨hL2.apart.1, hL2.apart.2.2, hL2.apart.2.1, by obtain ⟨o, _, _, e, _⟩ := hL2.ns; exact ⟨o, e⟩⟩ hD2 (X2.ext.vrels rk) w2
    exact X2.extW (by simp)
  | some x =>
    obtain ⟨hlt, hxe⟩ := List.getElem?_eq_some_iff.mp hx
    rw [List.drop_eq_getElem_cons hlt, hxe] at wk
    obtain ⟨w1, w2⟩ := wk
    refine next_item Rk tk oIk (hchk _ w1) hx fun v s2 X2 rv2 t2 => ?_
    have R2 := X2.rh Rk
    have F2 : FrameRel c cenv tbc locc ρk s2.heap mk := Fk.extW (by simp [Ne.symm hIC]) X2.ext
    have hD2 : IsL s2.heap D (List.toArray vs) nk := X2.keep _ _ hDk (by simp [Ne.symm hID])
    dsimp only
    refine wpAny_assign_Name (store_ok eo F2 R2 rv2 hy hk nd fun s3 m3 X3 F3 => ?_)
    have R3 := X3.rh R2
    have hD3 : IsL s3.heap D (List.toArray vs) nk := X3.keep _ _ hD2 (by simp [hDC])
    have t3 := t2.ext X3.ext (fun o e => X3.keep _ _ e (by simp [hIC]))
    rw [hset] at F3
    refine wpAny_mono (he _ _ _ _ _ _ F3 R3 w2) (fun u s4 zz => ?_) fun _ _ f => f.elim
    obtain ⟨ρ4, z, H4, R4, X4, r4, w4⟩ := zz
    have hD4 : IsL s4.heap D (List.toArray vs) nk := X4.keep _ _ hD3 oDk.out (by simp) oDk.tab
    have tI4 : ∀ o, s3.heap.get? I = some o → s4.heap.get? I = some o := fun o e => X4.keep _ _ e oIk.out (by simp) oIk.tab
    have t4 := t3.ext X4 tI4
    have oI4 : Off c ρ4 s4.heap I := Off.ext (s := s3) (oIk.imm t3.live) X4 t4.live
    have oD4 : Off c ρ4 s4.heap D := Off.ext (s := s3) (oDk.imm ⟨_, hD3⟩) X4 ⟨_, hD4⟩
    have F4 := F3.extW (by simp) X4
    have r34 : VRels c ρ4 s4.heap accs vs := X4.vrels (X3.ext.vrels (X2.ext.vrels rk))
    refine append_at hD4 (fun h' sb ho => ?_) (by rw [List.size_toArray, VRels.length rk]; exact le_size (by (first | lia | omega)))
    have X5 : Still c [D] ρ4 s4 { s4 with heap := h' } := still_of (tk := s4.toks) oD4 (fun x e => by rw [hD4] at e; cases e; exact not_imm_list) sb
    refine ⟨k - 1, by (first | lia | omega), i + 1, ρ4, H4, accs ++ [z], vs ++ [u], setL loc0 xi x, m3, nk + 1, by (first | lia | omega), X5.rh R4, ?_, F4.extW (by simp [Ne.symm hDC]) X5.ext, fun v => set_setL _ _ _ _, t4.ext X5.ext (fun o e => X5.keep _ _ e (by simp [hID])), oI4.imm ?_, oD4.imm ⟨_, ho⟩, ?_,
      VRels.append (X5.ext.vrels r34) (VRels.one (X5.ext.vrel r4)), by rw [List.length_append, hai]; rfl, w4⟩
    · exact (((Xk.trans (X2.extW (by simp))).trans (X3.extW (by simp))).trans (((X4.more F4.apart.1).more oD4.out).more oI4.out)).trans (X5.extW (by simp))
    · obtain ⟨o, e⟩ := t4.live
      exact ⟨o, X5.keep _ _ e (by simp [hID])⟩
    · have : (List.toArray vs).push u = (vs ++ [u]).toArray := by simp
      rw [← this]; exact ho
end
end Mine
namespace Mine
open PySem PySem.W PySem.Calls PyProof.Rows
section
variable {c : Cfg} {ρ ρ' ρ'' : Pl} {s s' s'' : Shared} {H : Hp} {W : List Addr} {A : Around} {env : Env} {tb : List Str} {C : CallP} {sc : Scope} {n : Nat}
theorem Off.new {a : Addr} (R : RH c ρ H s) (h : s.heap.get? a = none) {h' : Heap} (hl : ∃ o, h'.get? a = some o) : Off c ρ h' a := by
  refine ⟨fun p hp => ?_, ?_, ?_, hl⟩
  · obtain ⟨⟨o1, e1⟩, ⟨o2, e2⟩⟩ := R.at_ hp
    exact ⟨fun e => (by rw [e, e1] at h; cases h), fun e => (by rw [e, e2] at h; cases h)⟩
  · cases q : c.h0.get? a with
    | none => rfl
    | some o => rw [R.base a o q] at h; cases h
  · intro e
    obtain ⟨ps, e1, _⟩ := R.tabs
    rw [e, e1] at h; cases h
theorem closure_ok (hc : ∀ x ∈ sc.names, x.2 = .free → ∃ a, env.cells.lookup x.1 = some a) :
    ∃ cl, closureFor sc env = pure cl ∧ (∀ nm a, cl.lookup nm = some a → env.cells.lookup nm = some a) ∧ ∀ x ∈ sc.names, x.2 = .free → ∃ a, cl.lookup x.1 = some a := by
  have h : ∀ (names : List (Str × NameKind)) (acc : List (Str × Addr)), (∀ x ∈ names, x.2 = .free → ∃ a, env.cells.lookup x.1 = some a) → (∀ nm a, acc.lookup nm = some a → env.cells.lookup nm = some a) →
      ∃ cl, (forIn names acc (fun (x : Str × NameKind) (cs : List (Str × Addr)) => (match x with
        | (name, kind) => if (kind == NameKind.free) = true then do let a ← cellOf env name; pure (ForInStep.yield ((name, a) :: cs)) else pure (ForInStep.yield cs) : Sem (ForInStep (List (Str × Addr))))) : Sem (List (Str × Addr))) = pure cl ∧
        (∀ nm a, cl.lookup nm = some a → env.cells.lookup nm = some a) ∧ (∀ nm a, acc.lookup nm = some a → ∃ b, cl.lookup nm = some b) ∧ ∀ x ∈ names, x.2 = .free → ∃ a, cl.lookup x.1 = some a := by
    intro names
    induction names with
    | nil => intro acc _ ha; exact ⟨acc, by rw [List.forIn_nil], ha, fun nm a e => ⟨a, e⟩, fun x hx => nomatch hx⟩
    | cons x r ih =>
      intro acc hx ha
      obtain ⟨nm, k⟩ := x
      rw [List.forIn_cons]
      by_cases hk : (k == NameKind.free) = true
      · have hkf : k = .free := by simpa using hk
        obtain ⟨a, e⟩ := hx (nm, k) (.head _) hkf
        have ha' : ∀ nm' b, ((nm, a) :: acc).lookup nm' = some b → env.cells.lookup nm' = some b := fun nm' b q => by
          rw [List.lookup_cons] at q
          by_cases z : nm' == nm
          · rw [z] at q; cases q; rw [beq_iff_eq.mp z]; exact e
          · rw [Bool.eq_false_iff.mpr z] at q; exact ha _ _ q
        obtain ⟨cl, e1, e2, e3, e4⟩ := ih ((nm, a) :: acc) (fun y hy => hx y (List.mem_cons_of_mem _ hy)) ha'
        refine ⟨cl, ?_, e2, fun nm' b q => ?_, fun y hy hf => ?_⟩
        · dsimp only
          rw [if_pos hk]
          have : cellOf env nm = pure a := by unfold cellOf; rw [e]
          rw [this]
          exact e1
        · by_cases z : nm' == nm
          · exact e3 nm' a (by rw [List.lookup_cons, z])
          · exact e3 nm' b (by rw [List.lookup_cons, Bool.eq_false_iff.mpr z]; exact q)
        · rcases List.mem_cons.mp hy with rfl | hy
          · exact e3 nm a (by rw [List.lookup_cons, beq_self_eq_true])
          · exact e4 y hy hf
      · obtain ⟨cl, e1, e2, e3, e4⟩ := ih acc (fun y hy => hx y (List.mem_cons_of_mem _ hy)) ha
        refine ⟨cl, ?_, e2, e3, fun y hy hf => ?_⟩
        · dsimp only
          rw [if_neg hk]
          exact e1
        · rcases List.mem_cons.mp hy with rfl | hy
          · exact absurd (by simpa using hf) hk
          · exact e4 y hy hf
  obtain ⟨cl, e, h1, _, h2⟩ := h sc.names [] hc (fun nm a e => by simp at e)
  refine ⟨cl, ?_, h1, h2⟩
  unfold closureFor
  exact (congrArg (fun t => t >>= fun cs => pure cs) e).trans rfl
structure CompOk (sc : Scope) (tb : List Str) (tb' : List Nat) (x : Nat) (y : Str) (sc' : Scope) : Prop where
  x : x = tb'.length
  kind : sc'.kind = .function
  cell : ∀ z ∈ sc'.names, z.2 ≠ .cell
  names : ∀ z ∈ sc'.names, z.2 = .local → sc'.names.lookup z.1 = some .local
  y : sc'.names.lookup y = some .local
  free : ∀ z ∈ sc'.names, z.2 = .free → sc.names.lookup z.1 = some .cell
  tab : ∀ i ∈ tb', ∃ nm, tb[i]? = some nm ∧ sc'.names.lookup nm = some .free ∧ sc.names.lookup nm = some .cell
theorem compOk_of {tb' : List Nat} {x : Nat} {y : Str} {sc' : Scope} (h : compScopeOk sc tb tb' x y sc' = true) : CompOk sc tb tb' x y sc' := by
  simp only [compScopeOk, Bool.and_eq_true, beq_iff_eq, List.all_eq_true] at h
  obtain ⟨⟨⟨⟨⟨⟨h1, h2⟩, h3⟩, h4⟩, h5⟩, h6⟩, h7⟩ := h
  refine ⟨h1, h2, fun z hz e => ?_, fun z hz e => ?_, h5, fun z hz e => ?_, fun i hi => ?_⟩
  · have := h3 z hz; rw [e] at this; simp at this
  · have := h4 z hz; rw [e] at this; simpa using this
  · have := h6 z hz; rw [e] at this; simpa using this
  · obtain ⟨⟨q1, q2⟩, q3⟩ := h7 i hi
    obtain ⟨nm, e⟩ := Option.isSome_iff_exists.mp q1
    rw [List.getD_eq_getElem?_getD, e] at q2 q3
    exact ⟨nm, e, q2, q3⟩
theorem lookup_relab {sc' : Scope} : ∀ {names : List (Str × NameKind)} {x : Str}, (names.map fun (n, k) => if (k == NameKind.free && sc.kind == .function && sc.names.lookup n == some .cell) then (n, NameKind.cell) else (n, k)).lookup x =
    (names.lookup x).map fun k => if (k == NameKind.free && sc.kind == .function && sc.names.lookup x == some .cell) then .cell else k := by
  intro names x
  induction names with
  | nil => rfl
  | cons p r ih =>
    obtain ⟨n, k⟩ := p
    rw [List.map_cons]
    by_cases hc : (k == NameKind.free && sc.kind == .function && sc.names.lookup n == some .cell) = true
    · dsimp only
      rw [if_pos hc, List.lookup_cons, List.lookup_cons]
      by_cases q : x == n
      · have := beq_iff_eq.mp q
        subst this
        rw [q]
        show some NameKind.cell = some (if _ then _ else _)
        rw [if_pos hc]
      · rw [Bool.eq_false_iff.mpr q]; exact ih
    · dsimp only
      rw [if_neg hc, List.lookup_cons, List.lookup_cons]
      by_cases q : x == n
      · have := beq_iff_eq.mp q
        subst this
        rw [q]
        show some k = some (if _ then _ else _)
        rw [if_neg hc]
      · rw [Bool.eq_false_iff.mpr q]; exact ih
theorem comp_env (eo : EnvOk env sc) {tb' : List Nat} {x : Nat} {y : Str} {sc' : Scope} (co : CompOk sc tb tb' x y sc') {cl : List (Str × Addr)} {L : Addr} (hcl : ∀ z ∈ sc'.names, z.2 = .free → ∃ a, cl.lookup z.1 = some a) :
    EnvOk (compEnvC sc' cl L env) (relab sc' sc) := by
  refine ⟨?_, co.kind, eo.globals, eo.builtins, fun nm hn => ?_⟩
  · show relabel sc' env = relab sc' sc
    unfold relabel relab Env.kindOf
    rw [eo.scope]
  · show ∃ a, cl.lookup nm = some a
    have hl : (relab sc' sc).names.lookup nm = (sc'.names.lookup nm).map fun k => if (k == NameKind.free && sc.kind == .function && sc.names.lookup nm == some .cell) then .cell else k := lookup_relab (sc' := sc')
    rw [hl] at hn
    cases hq : sc'.names.lookup nm with
    | none => rw [hq] at hn; simp at hn
    | some k =>
      have hm : (nm, k) ∈ sc'.names := PySem.mem_of_lookup hq
      have hk : k ≠ .cell := co.cell _ hm
      cases k <;> first | exact hcl _ hm rfl | exact absurd rfl hk | (rw [hq] at hn; simp at hn)
theorem pyIter_self {src : ISrc} {I : Addr} {i : Nat} {Q : Value → Shared → Prop} {E : Value → Shared → Prop} (t : ItAt c ρ src I i s.heap) (h : Q (.ref I) s) : wpAny (model c.prog c.w) A (pyIter (.ref I)) Q E s := by
  cases src with
  | list j => obtain ⟨p, _, _, e⟩ := t; exact wpAny_pyIter_listiter e h
  | tup vs => obtain ⟨a, xs, n, _, _, _, e⟩ := t; exact wpAny_pyIter_tupleiter e h
  | range n => exact wpAny_pyIter_rangeiter t h
theorem pick_get {tb : List Str} {tb' : List Nat} {y : Str} {i : Nat} {nm : Str} (h : (pick tb tb' ++ [y])[i]? = some nm) : (∃ k, tb'[i]? = some k ∧ nm = tb.getD k Str.empty) ∨ (i = tb'.length ∧ nm = y) := by
  unfold pick at h
  by_cases q : i < tb'.length
  · rw [List.getElem?_append_left (by simpa using q), List.getElem?_map] at h
    rw [List.getElem?_eq_getElem q] at h ⊢
    cases h
    exact .inl ⟨_, rfl, rfl⟩
  · rw [List.getElem?_append_right (by simpa using q)] at h
    simp only [List.length_map] at h
    cases hk : i - tb'.length with
    | zero => rw [hk] at h; cases h; exact .inr ⟨by (first | lia | omega), rfl⟩
    | succ k => rw [hk] at h; simp at h
theorem comp_block (S : Stat c) (hh : A.handled = none) (eo : EnvOk env sc) {elt : E} {ex iter : Expr} {y : Str} {py pos : Pos} {sc' : Scope} {tb' : List Nat} {xi : Nat} {loc : List V} {m : Str → Option Value} {src : ISrc} {I : Addr} {items : List V} {chk : Hp → Prop}
    {Qc : List V → Hp → Prop} {RR : Value → Addr → Result → Shared → Prop} {E : Value → Shared → Prop} {cl : List (Str × Addr)} {s0 : Shared} (co : CompOk sc tb tb' xi y sc') (nd : (pick tb tb' ++ [y]).Nodup)
    (hcl1 : ∀ nm a, cl.lookup nm = some a → env.cells.lookup nm = some a) (hcl2 : ∀ z ∈ sc'.names, z.2 = .free → ∃ a, cl.lookup z.1 = some a)
    (he : ∀ cenv, EnvOk cenv (relab sc' sc) → SE c A cenv (pick tb tb' ++ [y]) C elt ex) (hsz : items.length ≤ 100000) (hchk : ∀ H, chk H → src.has items H)
    (R0 : RH c ρ H s0) (F0 : FrameRel c env tb loc ρ s0.heap m) (X0 : Still c [] ρ s0 s) (hI : s0.heap.get? I = none) (t : ItAt c ρ src I 0 s.heap)
    (w : compW chk (fun v H k => wpE C c.scr elt (setL (tb'.map (getL' loc)) xi v) H k) items [] H Qc)
    (hRR : ∀ D L s' ρ' H' acc m', s0.heap.get? L = none → D ≠ L → RH c (ρ' ++ [(D, D)]) (H' ++ [.list acc]) s' → Ext c [L] ρ s0 (ρ' ++ [(D, D)]) s' → s'.heap.Ns L m' → Off c (ρ' ++ [(D, D)]) s'.heap L → ρ'.length = H'.length → Qc acc H' → RR (.ref D) L (.ok .next) s') :
    wpAny (model c.prog c.w) A (newList []) (fun acc s₃ => wpAny (model c.prog c.w) A (newFunctionEnv sc' env.globals cl [] env.qual none .none (some env)) (fun cenv s₄ =>
      codeAny (model c.prog c.w) A (.compStart (.ListComp ex [⟨.Name y py, iter, [], 0⟩] sc' pos) 0 (.ref I) acc { cenv with scope := relabel sc' env }) (RR acc cenv.locals) s₄) E s₃) E s := by
  refine wpAny_newObj_type (hd := by size_fits) (wpAny_newFunctionEnv co.cell (by intro z hz; simp at hz) (fun h₁ hns₁ hsb₁ => ?_) co.kind)
  dsimp only at hns₁ hsb₁ ⊢
  generalize hH2 : s.heap.push { cls := .type "list", dict := none, data := .seq ([] : List Value).toArray } = H2 at hns₁ hsb₁ ⊢
  have hL : H2.objs.size = s.heap.objs.size + 1 := by rw [← hH2, Heap.size_push]
  have old : ∀ b o, s.heap.get? b = some o → h₁.get? b = some o := fun b o e => by
    have hb := Heap.lt_size e
    exact hsb₁.extBut b o (by rw [hL]; exact Nat.ne_of_lt (Nat.lt_succ_of_lt hb)) (Heap.get?_push_of_some _ (hH2 ▸ Heap.get?_push_of_some _ e))
  have hDL : s.heap.objs.size ≠ H2.objs.size := by rw [hL]; exact Nat.ne_of_lt (Nat.lt_succ_self _)
  have hD : IsL h₁ s.heap.objs.size #[] 0 := hsb₁.extBut _ _ hDL (Heap.get?_push_of_some _ (hH2 ▸ Heap.get?_push_size _ rfl))
  have nsome : ∀ a, s.heap.objs.size ≤ a → s.heap.get? a = none := fun a ha => get_none_of_le ha
  have back : ∀ a, s.heap.get? a = none → s0.heap.get? a = none := fun a ha => by
    cases q : s0.heap.get? a with
    | none => rfl
    | some o => rw [X0.keep _ _ q (by simp)] at ha; cases ha
  have hD0 := back _ (nsome _ (Nat.le_refl _))
  have hL0 := back _ (nsome H2.objs.size (by rw [hL]; exact Nat.le_succ _))
  obtain ⟨oI, eI⟩ := t.live
  have hIs : I < s.heap.objs.size := Heap.lt_size eI
  have X1 : Still c [] ρ s0 { s with heap := h₁, toks := s.toks + ([] : List (Str × Value)).length } := ⟨fun b o e n => old _ _ (X0.keep b o e n), fun _ h => (nomatch h), fun b o e n => ⟨o, old _ _ (X0.keep b o e n)⟩, X0.gens, X0.drawn, X0.os⟩
  have R1 := X1.rh R0
  have Xs : Ext c [] ρ s ρ { s with heap := h₁, toks := s.toks + ([] : List (Str × Value)).length } := Still.ext (W := []) ⟨fun b o e n => old _ _ e, fun _ h => (nomatch h), fun b o e n => ⟨o, old _ _ e⟩, rfl, rfl, rfl⟩
  have t1 := t.ext Xs (fun o e => old _ _ e)
  have oI1 : Off c ρ h₁ I := Off.new R0 hI ⟨_, old _ _ eI⟩
  have oD1 : Off c ρ h₁ s.heap.objs.size := Off.new R0 hD0 ⟨_, hD⟩
  have oL1 : Off c ρ h₁ H2.objs.size := Off.new R0 hL0 (by obtain ⟨o, _, _, e, _⟩ := hns₁; exact ⟨o, e⟩)
  have ceo := comp_env eo co (L := H2.objs.size) hcl2
  have F1 : FrameRel c (compEnvC sc' cl H2.objs.size env) (pick tb tb' ++ [y]) (tb'.map (getL' loc)) ρ h₁ (fun x => ([] : List (Str × Value)).reverse.lookup x) := by
    refine ⟨hns₁, fun i nm hi hne => ?_, ⟨oL1.out, oL1.tab, oL1.base⟩, by simp [pick]⟩
    rcases pick_get hi with ⟨k, e1, e2⟩ | ⟨e1, e2⟩
    · have eg : getL' (tb'.map (getL' loc)) i = getL' loc k := by
        show (tb'.map (getL' loc)).getD i .und = _
        rw [List.getD_eq_getElem?_getD, List.getElem?_map, e1]; rfl
      rw [eg] at hne ⊢
      obtain ⟨nm', q1, q2, q3⟩ := co.tab k (List.mem_of_getElem? e1)
      have enm : nm = nm' := by rw [e2, List.getD_eq_getElem?_getD, q1]; rfl
      subst enm
      obtain ⟨v, rv, va⟩ := F0.vars k nm q1 hne
      refine ⟨v, VRel.mono0 X1.imm rv, ?_⟩
      rcases va with ⟨a1, _⟩ | ⟨_, a, a2, o, g1, g2⟩
      · have : env.kindOf nm = some .cell := by show env.scope.names.lookup nm = _; rw [eo.scope]; exact q3
        rw [this] at a1; cases a1
      · obtain ⟨b, hb⟩ := hcl2 _ (PySem.mem_of_lookup q2) rfl
        have := hcl1 _ _ hb
        rw [a2] at this; cases this
        refine .inr ⟨.inl ?_, a, hb, o, X1.imm _ _ g1 (.inr (.inr (.inl ⟨_, g2⟩))), g2⟩
        show (compEnvC sc' cl H2.objs.size env).scope.names.lookup nm = _
        rw [ceo.scope]
        have hl : (relab sc' sc).names.lookup nm = (sc'.names.lookup nm).map fun k => if (k == NameKind.free && sc.kind == .function && sc.names.lookup nm == some .cell) then .cell else k := lookup_relab (sc' := sc')
        rw [hl, q2, q3, eo.kind]; rfl
    · exfalso
      apply hne
      show (tb'.map (getL' loc)).getD i .und = _
      rw [List.getD_eq_getElem?_getD, List.getElem?_eq_none (by simp [e1])]; rfl
  have hy : (pick tb tb' ++ [y])[xi]? = some y := by
    rw [co.x, List.getElem?_append_right (by simp [pick])]
    simp [pick]
  have hyk : (relab sc' sc).names.lookup y = some .local := by
    have hl : (relab sc' sc).names.lookup y = (sc'.names.lookup y).map fun k => if (k == NameKind.free && sc.kind == .function && sc.names.lookup y == some .cell) then .cell else k := lookup_relab (sc' := sc')
    rw [hl, co.y]; rfl
  have loop : ∀ s₃ : Shared, s₃ = { s with heap := h₁, toks := s.toks + ([] : List (Str × Value)).length } →
      codeAny (model c.prog c.w) A (.compLoop (.ListComp ex [⟨.Name y py, iter, [], 0⟩] sc' pos) 0 (.ref I) (.ref s.heap.objs.size) (compEnvC sc' cl H2.objs.size env)) (RR (.ref s.heap.objs.size) H2.objs.size) s₃ := by
    rintro s₃ rfl
    refine comp_loop S hh ceo (he _ ceo) hy hyk nd hsz hchk R1 F1 t1 oI1 oD1 (by rw [show (compEnvC sc' cl H2.objs.size env).locals = H2.objs.size from rfl, hL]; exact Nat.ne_of_lt (Nat.lt_succ_of_lt hIs)) hDL (Nat.ne_of_lt hIs) hD w
      fun ρ' H' s' acc vs m' n' R' X' oD' hn' oL' hD' rs' q => ?_
    have Xa : Ext c [H2.objs.size] ρ s0 ρ { s with heap := h₁, toks := s.toks + ([] : List (Str × Value)).length } := X1.ext.more oL1.out
    have Xb : Ext c [s.heap.objs.size, H2.objs.size] ρ s0 ρ { s with heap := h₁, toks := s.toks + ([] : List (Str × Value)).length } := Xa.more oD1.out
    have Y1 : Ext c [s.heap.objs.size, H2.objs.size] ρ s0 ρ' s' := Xb.shed X' hI oI1.out
    have Y2 : Ext c [H2.objs.size] ρ s0 ρ' s' := Ext.shed (a := s.heap.objs.size) (s' := s0) (ρ' := ρ) .refl Y1 hD0 (oD1.out)
    have lo : ∀ q ∈ ρ', q.1 ≠ s.heap.objs.size ∧ q.1 ≠ s.heap.objs.size ∧ q.2 ≠ s.heap.objs.size ∧ q.2 ≠ s.heap.objs.size := fun q hq => ⟨(oD'.out q hq).1.symm, (oD'.out q hq).1.symm, (oD'.out q hq).2.symm, (oD'.out q hq).2.symm⟩
    refine hRR _ _ s' ρ' H' acc m' hL0 hDL (R'.join (p := (s.heap.objs.size, s.heap.objs.size)) ⟨oD'.base, oD'.base, oD'.tab, oD'.tab⟩ lo ⟨rfl, vs, n', hD', ?_⟩) (Y2.join hD0 hD0 (by simp [hDL]) (by simp [hDL])) hn' ⟨?_, oL'.base, oL'.tab, oL'.live⟩ R'.len q
    · exact VRels.mono (fun _ _ e _ => e) _ _ rs'
    · intro p hp
      rcases List.mem_append.mp hp with hp | hp
      · exact oL'.out p hp
      · rw [List.mem_singleton.mp hp]; exact ⟨hDL.symm, hDL.symm⟩
  exact codeAny_compStart_list (loop _ rfl) (pyIter_self t1 (loop _ rfl))
end
end Mine
namespace Mine
open PySem PySem.W PySem.Calls PyProof.Rows
section
variable {c : Cfg} {ρ ρ' ρ'' : Pl} {s s' s'' : Shared} {H : Hp} {W : List Addr} {A : Around} {env : Env} {tb : List Str} {C : CallP} {sc : Scope} {n : Nat}
theorem folded_of {iter : Expr} (h : notSet iter = true) (x : Value) : foldedSetIterable iter env x = pure x := by
  cases iter <;> first | rfl | exact absurd h Bool.false_ne_true
noncomputable def CompFin (c : Cfg) (A : Around) (env : Env) (E : Value → Shared → Prop) (use : Option (Value → Sem Unit)) (Qv : Value → Shared → Prop) (ρ : Pl) (s0 : Shared) (Qc : List V → Hp → Prop) : Prop :=
  ∀ D L s' ρ' H' acc m', s0.heap.get? L = none → D ≠ L → RH c (ρ' ++ [(D, D)]) (H' ++ [.list acc]) s' → Ext c [L] ρ s0 (ρ' ++ [(D, D)]) s' → s'.heap.Ns L m' → Off c (ρ' ++ [(D, D)]) s'.heap L → ρ'.length = H'.length → Qc acc H' →
    compPost (model c.prog c.w) A E use Qv (.ref D) L (.ok .next) s'
theorem comp_run (S : Stat c) (hh : A.handled = none) (eo : EnvOk env sc) {src elt : E} {ex iter : Expr} {y : Str} {py pos pp : Pos} {sc' : Scope} {tb' : List Nat} {xi : Nat} {loc : List V} {m : Str → Option Value}
    {Qc : List V → Hp → Prop} {E : Value → Shared → Prop} {use : Option (Value → Sem Unit)} {Qv : Value → Shared → Prop} (co : CompOk sc tb tb' xi y sc') (nd : (pick tb tb' ++ [y]).Nodup) (hit : notSet iter = true)
    (hs : SE c A env tb C src iter) (he : ∀ cenv, EnvOk cenv (relab sc' sc) → SE c A cenv (pick tb tb' ++ [y]) C elt ex) (F : FrameRel c env tb loc ρ s.heap m) (R : RH c ρ H s)
    (w : wpE C c.scr src loc H fun s H => itemsW s H fun vs => vs.length ≤ 100000 ∧ compW (stillW s vs) (fun v H k => wpE C c.scr elt (setL (tb'.map (getL' loc)) xi v) H k) vs [] H Qc)
    (fin : ∀ ρ0 s0 H0, RH c ρ0 H0 s0 → Ext c [] ρ s ρ0 s0 → CompFin c A env E use Qv ρ0 s0 Qc) :
    wpAny (model c.prog c.w) A (comprehension (.ListComp ex [⟨.Name y py, iter, [], 0⟩] sc' pos) sc' env pp (newList []) false (eval iter env) use) Qv E s := by
  obtain ⟨cl, hcl, hcl1, hcl2⟩ := closure_ok (env := env) (sc := sc') (fun z hz hf => eo.cells _ (.inl (co.free z hz hf)))
  refine wpAny_comprehension_free (use := use) rfl (folded_of hit) hcl co.kind co.names ?_
  refine wpAny_mono (hs _ _ _ _ _ _ F R w) (fun v s1 zz => ?_) fun _ _ f => f.elim
  obtain ⟨ρ1, x, H1, R1, X1, r1, w1⟩ := zz
  obtain ⟨vs, hi, hl, w2⟩ := itemsW_of w1
  refine iter_new R1 r1 hi fun src' o h1 h2 t => ?_
  have X0 : Still c [] ρ1 s1 { s1 with heap := s1.heap.push o } := .grown (fun b o e => Heap.get?_push_of_some _ e) rfl rfl rfl
  refine comp_block S hh eo co nd hcl1 hcl2 he hl h2 R1 (F.ext X1) X0 (get_none_of_le (Nat.le_refl _)) t w2 ?_
  exact fin ρ1 s1 H1 R1 X1
theorem comp_runR (S : Stat c) (hh : A.handled = none) (eo : EnvOk env sc) {src elt : E} {ex nx : Expr} {y : Str} {py pos pp pr pc : Pos} {sc' : Scope} {tb' : List Nat} {xi : Nat} {loc : List V} {m : Str → Option Value}
    {Qc : List V → Hp → Prop} {E : Value → Shared → Prop} {use : Option (Value → Sem Unit)} {Qv : Value → Shared → Prop} (co : CompOk sc tb tb' xi y sc') (nd : (pick tb tb' ++ [y]).Nodup) (hg : glo sc Bn.range.str = true) (hn : notStar nx = true)
    (hs : SE c A env tb C src nx) (he : ∀ cenv, EnvOk cenv (relab sc' sc) → SE c A cenv (pick tb tb' ++ [y]) C elt ex) (F : FrameRel c env tb loc ρ s.heap m) (R : RH c ρ H s)
    (w : wpE C c.scr src loc H fun s H => (match s with
      | .int n => 0 ≤ n ∧ n ≤ 100000 ∧ compW (fun _ => True) (fun v H k => wpE C c.scr elt (setL (tb'.map (getL' loc)) xi v) H k) (upTo n.toNat) [] H Qc
      | _ => False))
    (fin : ∀ ρ0 s0 H0, RH c ρ0 H0 s0 → Ext c [] ρ s ρ0 s0 → CompFin c A env E use Qv ρ0 s0 Qc) :
    wpAny (model c.prog c.w) A (comprehension (.ListComp ex [⟨.Name y py, .Call (.Name Bn.range.str pr) [nx] [] pc, [], 0⟩] sc' pos) sc' env pp (newList []) false (eval (.Call (.Name Bn.range.str pr) [nx] [] pc) env) use) Qv E s := by
  obtain ⟨cl, hcl, hcl1, hcl2⟩ := closure_ok (env := env) (sc := sc') (fun z hz hf => eo.cells _ (.inl (co.free z hz hf)))
  refine wpAny_comprehension_free (use := use) rfl (fun x => rfl) hcl co.kind co.names ?_
  refine Call_ (name_bn S eo hg R ?_)
  rw [star_of hn []]
  refine PyProof.Rows.callWith_type rfl (evalArgs_plain (spliced_cons ?_))
  refine wpAny_mono (hs _ _ _ _ _ _ F R w) (fun v s1 zz => spliced_nil ?_) fun _ _ f => f.elim
  obtain ⟨ρ1, x, H1, R1, X1, r1, w1⟩ := zz
  cases x <;> first | exact False.elim w1 | skip
  rename_i k
  obtain ⟨h0, hl, w2⟩ := w1
  simp only [VRel] at r1
  obtain ⟨tk, rfl⟩ := r1
  refine range_new (c := c) (ρ := ρ1) hl h0 fun o o' tk' t => ?_
  have X0 : Still c [] ρ1 s1 { s1 with heap := (s1.heap.push o).push o', toks := tk' } := .grown (fun b o e => Heap.get?_push_of_some _ (Heap.get?_push_of_some _ e)) rfl rfl rfl
  refine comp_block (s := { s1 with heap := (s1.heap.push o).push o', toks := tk' }) (src := .range k.toNat) S hh eo co nd hcl1 hcl2 he (by rw [ints_len]; (first | lia | omega)) (fun H' _ => ⟨rfl, by (first | lia | omega)⟩) R1 (F.ext X1) X0 (get_none_of_le (Nat.le_succ _)) t w2 ?_
  exact fin ρ1 s1 H1 R1 X1
theorem compFin_none {Q : V → Hp → Prop} (E : Value → Shared → Prop) {ρ0 : Pl} {s0 : Shared} (X : Ext c [] ρ s ρ0 s0) : CompFin c A env E none (PE c ρ s Q) ρ0 s0 (fun acc H => Q (.obj H.length) (H ++ [.list acc])) := by
  intro D L s' ρ' H' acc m' hL hDL R' X' hn oL hlen q
  refine ⟨m', hn, fun h' hs' => ?_⟩
  have X2 : Still c [L] (ρ' ++ [(D, D)]) s' { s' with heap := h' } := still_of (tk := s'.toks) oL (not_imm_ns hn) hs'
  refine ⟨_, _, _, X2.rh R', X.trans (Ext.shed (s' := s0) (ρ' := ρ0) .refl (X'.trans X2.ext) hL fun p hp => ?_), ?_, q⟩
  · obtain ⟨τ, e, _⟩ := X'.pre
    exact oL.out p (by rw [e]; exact List.mem_append_left _ hp)
  · simp only [VRel]
    exact ⟨(D, D), by rw [← hlen, List.getElem?_append_right (Nat.le_refl _), Nat.sub_self]; rfl, rfl⟩
theorem se_comp (S : Stat c) (hh : A.handled = none) (eo : EnvOk env sc) {src elt : E} {ex iter : Expr} {y : Str} {py pos : Pos} {sc' : Scope} {tb' : List Nat} {xi : Nat} (co : CompOk sc tb tb' xi y sc') (nd : (pick tb tb' ++ [y]).Nodup) (hit : notSet iter = true)
    (hs : SE c A env tb C src iter) (he : ∀ cenv, EnvOk cenv (relab sc' sc) → SE c A cenv (pick tb tb' ++ [y]) C elt ex) : SE c A env tb C (.comp src tb' xi elt) (.ListComp ex [⟨.Name y py, iter, [], 0⟩] sc' pos) := by
  intro loc m ρ H s Q F R w
  rw [eval_ListComp]
  exact comp_run S hh eo co nd hit hs he F R w fun ρ0 s0 H0 R0 X0 => compFin_none _ X0
theorem se_compR (S : Stat c) (hh : A.handled = none) (eo : EnvOk env sc) {src elt : E} {ex nx : Expr} {y : Str} {py pos pr pc : Pos} {sc' : Scope} {tb' : List Nat} {xi : Nat} (co : CompOk sc tb tb' xi y sc') (nd : (pick tb tb' ++ [y]).Nodup)
    (hg : glo sc Bn.range.str = true) (hn : notStar nx = true)
    (hs : SE c A env tb C src nx) (he : ∀ cenv, EnvOk cenv (relab sc' sc) → SE c A cenv (pick tb tb' ++ [y]) C elt ex) :
    SE c A env tb C (.compR src tb' xi elt) (.ListComp ex [⟨.Name y py, .Call (.Name Bn.range.str pr) [nx] [] pc, [], 0⟩] sc' pos) := by
  intro loc m ρ H s Q F R w
  rw [eval_ListComp]
  exact comp_runR S hh eo co nd hg hn hs he F R w fun ρ0 s0 H0 R0 X0 => compFin_none _ X0
noncomputable def valueKind : Expr → Bool
  | .UnaryOp .Not _ _ => false | .BoolOp .. => false | .IfExp .. => false | .Compare .. => false | _ => true
theorem sb_value {e : E} {ex : Expr} (hk : valueKind ex = true) (h : SE c A env tb C e ex) : SB c A env tb C e ex := by
  intro loc m ρ H s Q F R w
  refine wpAny_isTrue_value (wpAny_mono (h _ _ _ _ _ _ F R w) (fun v s1 ⟨ρ1, x, H1, R1, X1, r1, w1⟩ => ?_) fun _ _ f => f) ?_
  · cases x <;> first | exact False.elim w1 | skip
    have := vrel_bool r1
    subst this
    exact wpAny_truthy_bool ⟨ρ1, H1, R1, X1, w1⟩
  · cases ex <;> first | rfl | exact absurd hk Bool.false_ne_true | skip
    rename_i op x p
    cases op <;> first | rfl | exact absurd hk Bool.false_ne_true
theorem sb_not {a : E} {x : Expr} {p : Pos} (h : SB c A env tb C a x) : SB c A env tb C (.not_ a) (.UnaryOp .Not x p) := by
  intro loc m ρ H s Q F R w
  exact wpAny_isTrue_Not (wpAny_mono (h loc m ρ H s (fun b H => Q (!b) H) F R w) (fun _ _ ⟨ρ1, H1, R1, X1, w1⟩ => ⟨ρ1, H1, R1, X1, w1⟩) fun _ _ f => f)
theorem PB.up {Q : Bool → Hp → Prop} {ρ1 : Pl} {s1 : Shared} {b : Bool} (X : Ext c [] ρ s ρ1 s1) (p : PB c ρ1 s1 Q b s') : PB c ρ s Q b s' := PB.trans X p
theorem all_one {a : E} {x : Expr} {Q : Bool → Hp → Prop} {loc : List V} {m : Str → Option Value} (h : SB c A env tb C a x) (F : FrameRel c env tb loc ρ s.heap m) (R : RH c ρ H s) (w : wpE C c.scr a loc H (onB Q)) :
    wpAny (model c.prog c.w) A (allTrue .And [x] env) (PB c ρ s Q) NoE s := by
  refine wpAny_allTrue_And_cons (wpAny_mono (h _ _ _ _ _ _ F R w) (fun b s1 q => ?_) fun _ _ f => f)
  cases b
  · exact q
  · exact wpAny_allTrue_And_nil q
theorem all_two {a b : E} {x y : Expr} {Q : Bool → Hp → Prop} {loc : List V} {m : Str → Option Value} (ha : SB c A env tb C a x) (hb : SB c A env tb C b y) (F : FrameRel c env tb loc ρ s.heap m) (R : RH c ρ H s)
    (w : wpE C c.scr a loc H (onB fun t H => bif t then wpE C c.scr b loc H (onB Q) else Q false H)) :
    wpAny (model c.prog c.w) A (allTrue .And [x, y] env) (PB c ρ s Q) NoE s := by
  refine wpAny_allTrue_And_cons (wpAny_mono (ha _ _ _ _ _ _ F R w) (fun b s1 zz => ?_) fun _ _ f => f)
  obtain ⟨ρ1, H1, R1, X1, w1⟩ := zz
  cases b
  · exact ⟨ρ1, H1, R1, X1, w1⟩
  · exact wpAny_mono (all_one hb (F.ext X1) R1 w1) (fun _ _ q => PB.trans X1 q) fun _ _ f => f
theorem sb_and2 {a b : E} {x y : Expr} {p : Pos} (ha : SB c A env tb C a x) (hb : SB c A env tb C b y) : SB c A env tb C (.and2 a b) (.BoolOp .And [x, y] p) := by
  intro loc m ρ H s Q F R w
  exact wpAny_isTrue_BoolOp (all_two ha hb F R w)
theorem sb_and3 {a b d : E} {x y z : Expr} {p : Pos} (ha : SB c A env tb C a x) (hb : SB c A env tb C b y) (hd : SB c A env tb C d z) : SB c A env tb C (.and3 a b d) (.BoolOp .And [x, y, z] p) := by
  intro loc m ρ H s Q F R w
  have w' : wpE C c.scr a loc H (onB fun t H => bif t then wpE C c.scr b loc H (onB fun t H => bif t then wpE C c.scr d loc H (onB Q) else Q false H) else Q false H) := w
  refine wpAny_isTrue_BoolOp (wpAny_allTrue_And_cons (wpAny_mono (ha _ _ _ _ _ _ F R w') (fun b s1 zz => ?_) fun _ _ f => f))
  obtain ⟨ρ1, H1, R1, X1, w1⟩ := zz
  cases b
  · exact ⟨ρ1, H1, R1, X1, w1⟩
  · exact wpAny_mono (all_two hb hd (F.ext X1) R1 w1) (fun _ _ q => PB.trans X1 q) fun _ _ f => f
theorem sb_or2 {a b : E} {x y : Expr} {p : Pos} (ha : SB c A env tb C a x) (hb : SB c A env tb C b y) : SB c A env tb C (.or2 a b) (.BoolOp .Or [x, y] p) := by
  intro loc m ρ H s Q F R w
  have w' : wpE C c.scr a loc H (onB fun t H => bif t then Q true H else wpE C c.scr b loc H (onB Q)) := w
  refine wpAny_isTrue_BoolOp ?_
  show wpAny _ _ (do match BoolOp.Or, ← isTrue x env (eval x env) with | .And, false => pure false | .Or, true => pure true | _, _ => allTrue .Or [y] env) _ _ _
  refine wpAny_bind (wpAny_mono (ha _ _ _ _ _ _ F R w') (fun b s1 zz => ?_) fun _ _ f => f)
  obtain ⟨ρ1, H1, R1, X1, w1⟩ := zz
  cases b
  · show wpAny _ _ (do match BoolOp.Or, ← isTrue y env (eval y env) with | .And, false => pure false | .Or, true => pure true | _, _ => allTrue .Or [] env) _ _ _
    refine wpAny_bind (wpAny_mono (hb _ _ _ _ _ _ (F.ext X1) R1 w1) (fun b s2 q => ?_) fun _ _ f => f)
    cases b
    · exact wpAny_allTrue_Or_nil (PB.trans X1 q)
    · exact wpAny_pure (PB.trans X1 q)
  · exact wpAny_pure ⟨ρ1, H1, R1, X1, w1⟩
theorem sb_cmp {op : COp} {a b : E} {l r : Expr} {p : Pos} (A0 : Room A n) (hr : notSet r = true) (ha : SE c A env tb C a l) (hb : SE c A env tb C b r) : SB c A env tb C (.cmp op a b) (.Compare l [op.op] [r] p) := by
  intro loc m ρ H s Q F R w
  refine wpAny_isTrue_Compare1 (stp (ha _ _ _ _ _ _ F R w) fun ρ1 x H1 s1 v R1 X1 r1 w1 => ?_) (marks_of hr)
  refine stp (hb _ _ _ _ _ _ (F.ext X1) R1 w1) fun ρ2 y H2 s2 u R2 X2 r2 w2 => ?_
  refine stp (cmp_ok A0 R2 (X2.vrel r1) r2 w2) fun ρ3 z H3 s3 t R3 X3 r3 w3 => ?_
  cases z <;> first | exact False.elim w3 | skip
  have := vrel_bool r3
  subst this
  exact wpAny_truthy_bool ⟨ρ3, H3, R3, (X1.trans X2).trans X3, w3⟩
theorem sb_cmp2 {o1 o2 : COp} {a b d : E} {l r q : Expr} {p : Pos} (A0 : Room A n) (hr : notSet r = true) (hq : notSet q = true) (ha : SE c A env tb C a l) (hb : SE c A env tb C b r) (hd : SE c A env tb C d q) :
    SB c A env tb C (.cmp2 o1 o2 a b d) (.Compare l [o1.op, o2.op] [r, q] p) := by
  intro loc m ρ H s Q F R w
  refine isTrue_chain (stp (ha _ _ _ _ _ _ F R w) fun ρ1 x H1 s1 v R1 X1 r1 w1 => ?_) (by show behindInMarks _ q = false; exact marks_of hq)
  refine test_link (stp (hb _ _ _ _ _ _ (F.ext X1) R1 w1) fun ρ2 y H2 s2 u R2 X2 r2 w2 => ?_)
  refine stp (cmp_ok A0 R2 (X2.vrel r1) r2 w2) fun ρ3 z H3 s3 t R3 X3 r3 w3 => ?_
  cases z <;> first | exact False.elim w3 | skip
  rename_i t
  have := vrel_bool r3
  subst this
  refine wpAny_truthy_bool ?_
  have X := (X1.trans X2).trans X3
  cases t
  · exact ⟨ρ3, H3, R3, X, w3⟩
  · refine test_last (stp (hd _ _ _ _ _ _ (F.ext X) R3 w3) fun ρ4 z H4 s4 t R4 X4 r4 w4 => ?_)
    refine stp (cmp_ok A0 R4 ((X3.trans X4).vrel r2) r4 w4) fun ρ5 z H5 s5 t R5 X5 r5 w5 => ?_
    cases z <;> first | exact False.elim w5 | skip
    have := vrel_bool r5
    subst this
    exact wpAny_truthy_bool ⟨ρ5, H5, R5, (X.trans X4).trans X5, w5⟩
theorem se_ite {d a b : E} {x y z : Expr} {p : Pos} (hd : SB c A env tb C d x) (ha : SE c A env tb C a y) (hb : SE c A env tb C b z) : SE c A env tb C (.ite d a b) (.IfExp x y z p) := by
  intro loc m ρ H s Q F R w
  have w' : wpE C c.scr d loc H (onB fun t H => bif t then wpE C c.scr a loc H Q else wpE C c.scr b loc H Q) := w
  refine wpAny_IfExp (wpAny_mono (hd _ _ _ _ _ _ F R w') (fun t s1 zz => ?_) fun _ _ f => f)
  obtain ⟨ρ1, H1, R1, X1, w1⟩ := zz
  cases t
  · exact leaf X1 (hb _ _ _ _ _ _ (F.ext X1) R1 w1)
  · exact leaf X1 (ha _ _ _ _ _ _ (F.ext X1) R1 w1)
end
end Mine
namespace Mine
open PySem PySem.W PySem.Calls PyProof.Rows
section
variable {c : Cfg} {A : Around} {C : CallP} {n : Nat}
theorem sb_ite {env : Env} {tb : List Str} {d a b : E} {x y z : Expr} {p : Pos} (hd : SB c A env tb C d x) (ha : SB c A env tb C a y) (hb : SB c A env tb C b z) : SB c A env tb C (.ite d a b) (.IfExp x y z p) := by
  intro loc m ρ H s Q F R w
  have w' : wpE C c.scr d loc H (onB fun t H => bif t then wpE C c.scr a loc H (onB Q) else wpE C c.scr b loc H (onB Q)) := w
  show wpAny _ _ (do if ← isTrue x env (eval x env) then isTrue y env (eval y env) else isTrue z env (eval z env)) _ _ _
  refine wpAny_bind (wpAny_mono (hd _ _ _ _ _ _ F R w') (fun t s1 ⟨ρ1, H1, R1, X1, w1⟩ => ?_) fun _ _ f => f)
  cases t
  · exact wpAny_mono (hb _ _ _ _ _ _ (F.ext X1) R1 w1) (fun _ _ q => PB.trans X1 q) fun _ _ f => f
  · exact wpAny_mono (ha _ _ _ _ _ _ (F.ext X1) R1 w1) (fun _ _ q => PB.trans X1 q) fun _ _ f => f
theorem isLocal_mk {tb : List Str} {i : Nat} {x : Str} {p : Pos} (h1 : tb[i]? = some x) (h2 : okName x = true) : isLocalName tb i (.Name x p) = true := by
  show (tb[i]? == some x && okName x) = true
  rw [h1, h2]; exact (Bool.and_true _).trans (beq_self_eq_true _)
set_option linter.unusedSimpArgs false
theorem val_ok {env : Env} {tb : List Str} {e : E} {ex : Expr} (hk : valueKind ex = true) (q : SE c A env tb C e ex) : SE c A env tb C e ex ∧ SB c A env tb C e ex := ⟨q, sb_value hk q⟩
theorem matchE_ok (S : Stat c) (A0 : Room A (n + 1)) (hC : CallOk c n C) (x : E) : ∀ (env : Env) (sc : Scope) (tb : List Str) (ex : Expr), EnvOk env sc → matchE sc tb x ex = true → SE c A env tb C x ex ∧ SB c A env tb C x ex := by
  refine E.rec (motive_1 := fun e => ∀ (env : Env) (sc : Scope) (tb : List Str) (ex : Expr), EnvOk env sc → matchE sc tb e ex = true → SE c A env tb C e ex ∧ SB c A env tb C e ex) (motive_2 := fun es => ∀ (env : Env) (sc : Scope) (tb : List Str) (exs : List Expr), EnvOk env sc → matchEs sc tb es exs = true → ArgsOk c A env tb C es exs) ?_ ?_ ?_ ?_ ?_ ?_ ?_ ?_ ?_ ?_ ?_ ?_ ?_ ?_ ?_ ?_ ?_ ?_ ?_ ?_ ?_ ?_ ?_ ?_ ?_ ?_ ?_ ?_ ?_ ?_ ?_ ?_ ?_ ?_ ?_ ?_ ?_ ?_ ?_ ?_ x
  · intro  env  sc  tb  ex  eo  h
    apply vConst_elim h; intro k j p h
    apply de (a := k) h
    exact ⟨se_cN, sb_value rfl se_cN⟩
  · intro b env  sc  tb  ex  eo  h
    apply vConst_elim h; intro k j p h
    apply de (a := k) h
    exact ⟨se_cB, sb_value rfl se_cB⟩
  · intro i env  sc  tb  ex  eo  h
    apply vConst_elim h; intro k j p h
    apply de (a := k) h
    exact ⟨se_cI, sb_value rfl se_cI⟩
  · intro t env  sc  tb  ex  eo  h
    apply vConst_elim h; intro k j p h
    apply de (a := k) h
    exact ⟨se_cS, sb_value rfl se_cS⟩
  · intro i env  sc  tb  ex  eo  h
    have q : SE c A env tb C (.loc i) ex := se_loc eo h
    obtain ⟨x, p, rfl, _⟩ := isLocalName_of h
    exact ⟨q, sb_value rfl q⟩
  · intro op a b ih_a ih_b env  sc  tb  ex  eo  h
    apply vBin_elim h; intro l o r p h
    refine bt h fun h1 h => ?_
    refine bt h fun h2 h3 => ?_
    apply be h1
    exact val_ok rfl (se_bin (ih_a env sc tb _ eo h2).1 (ih_b env sc tb _ eo h3).1)
  · intro a ih_a env  sc  tb  ex  eo  h
    apply vUn_elim h; intro o x p h
    refine bt h fun h1 h2 => ?_
    apply de h1
    exact val_ok rfl (se_neg (ih_a env sc tb _ eo h2).1)
  · intro a b ih_a ih_b env  sc  tb  ex  eo  h
    apply vBool_elim h; intro o l p h
    refine bt h fun h0 h => ?_
    apply de h0
    apply l2_elim h; intro x y h
    refine bt h fun h1 h2 => ?_
    exact ⟨se_and2 (ih_a env sc tb _ eo h1).1 (ih_b env sc tb _ eo h2).1, sb_and2 (ih_a env sc tb _ eo h1).2 (ih_b env sc tb _ eo h2).2⟩
  · intro a b d ih_a ih_b ih_d env  sc  tb  ex  eo  h
    apply vBool_elim h; intro o l p h
    refine bt h fun h0 h => ?_
    apply de h0
    apply l3_elim h; intro x y z h
    refine bt h fun h1 h => ?_
    refine bt h fun h2 h3 => ?_
    exact ⟨se_and3 (ih_a env sc tb _ eo h1).1 (ih_b env sc tb _ eo h2).1 (ih_d env sc tb _ eo h3).1, sb_and3 (ih_a env sc tb _ eo h1).2 (ih_b env sc tb _ eo h2).2 (ih_d env sc tb _ eo h3).2⟩
  · intro a b ih_a ih_b env  sc  tb  ex  eo  h
    apply vBool_elim h; intro o l p h
    refine bt h fun h0 h => ?_
    apply de h0
    apply l2_elim h; intro x y h
    refine bt h fun h1 h2 => ?_
    exact ⟨se_or2 (ih_a env sc tb _ eo h1).1 (ih_b env sc tb _ eo h2).1, sb_or2 (ih_a env sc tb _ eo h1).2 (ih_b env sc tb _ eo h2).2⟩
  · intro a ih_a env  sc  tb  ex  eo  h
    apply vUn_elim h; intro o x p h
    refine bt h fun h1 h2 => ?_
    apply de h1
    exact ⟨se_not (ih_a env sc tb _ eo h2).1, sb_not (ih_a env sc tb _ eo h2).2⟩
  · intro op a b ih_a ih_b env  sc  tb  ex  eo  h
    apply vCmp_elim h; intro l os rs p h
    refine bt h fun h1 h => ?_
    apply l1_elim h1; intro o h1
    apply l1_elim h; intro r h
    apply be h1
    refine bt h fun h2 h => ?_
    refine bt h fun h3 h4 => ?_
    exact ⟨se_cmp A0 h2 (ih_a env sc tb _ eo h3).1 (ih_b env sc tb _ eo h4).1, sb_cmp A0 h2 (ih_a env sc tb _ eo h3).1 (ih_b env sc tb _ eo h4).1⟩
  · intro op1 op2 a b d ih_a ih_b ih_d env  sc  tb  ex  eo  h
    apply vCmp_elim h; intro l os rs p h
    refine bt h fun h0 h => ?_
    apply l2_elim h0; intro o o2 h0
    apply l2_elim h; intro r q h
    refine bt h0 fun h1 h2 => ?_
    apply be h1
    apply be h2
    refine bt h fun h3 h => ?_
    refine bt h fun h4 h => ?_
    refine bt h fun h5 h => ?_
    refine bt h fun h6 h7 => ?_
    exact ⟨se_cmp2 A0 h3 h4 (ih_a env sc tb _ eo h5).1 (ih_b env sc tb _ eo h6).1 (ih_d env sc tb _ eo h7).1, sb_cmp2 A0 h3 h4 (ih_a env sc tb _ eo h5).1 (ih_b env sc tb _ eo h6).1 (ih_d env sc tb _ eo h7).1⟩
  · intro d a b ih_d ih_a ih_b env  sc  tb  ex  eo  h
    apply vIf_elim h; intro x y z p h
    refine bt h fun h1 h => ?_
    refine bt h fun h2 h3 => ?_
    exact ⟨se_ite (ih_d env sc tb _ eo h1).2 (ih_a env sc tb _ eo h2).1 (ih_b env sc tb _ eo h3).1, sb_ite (ih_d env sc tb _ eo h1).2 (ih_a env sc tb _ eo h2).2 (ih_b env sc tb _ eo h3).2⟩
  · intro es ih_es env  sc  tb  ex  eo  h
    apply vTup_elim h; intro l k p h
    refine bt h fun h1 h2 => ?_
    exact val_ok rfl (se_tup (ih_es env sc tb _ eo h2).ok (of_decide_eq_true h1))
  · intro es ih_es env  sc  tb  ex  eo  h
    apply vLst_elim h; intro l p h
    refine bt h fun h1 h2 => ?_
    exact val_ok rfl (se_lst (ih_es env sc tb _ eo h2).ok (of_decide_eq_true h1))
  · intro o a ih_o env  sc  tb  ex  eo  h
    apply vAtt_elim h; intro v x p h
    refine bt h fun h1 h => ?_
    refine bt h fun h2 h3 => ?_
    apply be h1
    exact val_ok rfl (se_att S h2 (ih_o env sc tb _ eo h3).1)
  · intro o i ih_o ih_i env  sc  tb  ex  eo  h
    apply vSub_elim h; intro v l p h
    refine bt h fun h1 h => ?_
    refine bt h fun h2 h3 => ?_
    exact val_ok rfl (se_idx h1 (ih_o env sc tb _ eo h2).1 (ih_i env sc tb _ eo h3).1)
  · intro o i ih_o ih_i env  sc  tb  ex  eo  h
    apply vSub_elim h; intro v l p h
    refine bt h fun h1 h => ?_
    apply vSlc_elim h; intro x u y q h
    refine bt h fun h2 h => ?_
    refine bt h fun h3 h => ?_
    apply on_elim h2
    apply on_elim h3
    apply os_elim h; intro u h
    exact val_ok rfl (se_slc (ih_o env sc tb _ eo h1).1 (ih_i env sc tb _ eo h).1)
  · intro f es ih_es env  sc  tb  ex  eo  h
    apply vCallN_elim h; intro x p l q h
    refine bt h fun h1 h => ?_
    refine bt h fun h2 h3 => ?_
    revert h2
    apply be h1
    intro h2
    exact val_ok rfl (se_call S A0.down hC eo h2 (ih_es env sc tb _ eo h3))
  · intro k es ih_es env  sc  tb  ex  eo  h
    apply vCallN_elim h; intro x p l q h
    refine bt h fun h1 h => ?_
    refine bt h fun h2 h3 => ?_
    revert h2
    apply be h1
    intro h2
    exact val_ok rfl (se_mk S A0 hC eo h2 (ih_es env sc tb _ eo h3))
  · intro o m es ih_o ih_es env  sc  tb  ex  eo  h
    apply vCallA_elim h; intro v x p l q h
    refine bt h fun h1 h => ?_
    refine bt h fun h2 h => ?_
    refine bt h fun h3 h => ?_
    refine bt h fun h4 h => ?_
    refine bt h fun h5 h6 => ?_
    apply be h1
    exact val_ok rfl (se_meth S A0.down hC h2 (of_decide_eq_true h4) h3 (ih_o env sc tb _ eo h5).1 (ih_es env sc tb _ eo h6))
  · intro o es ih_o ih_es env  sc  tb  ex  eo  h
    apply vCallA_elim h; intro v x p l q h
    refine bt h fun h1 h => ?_
    refine bt h fun h2 h => ?_
    refine bt h fun h3 h => ?_
    refine bt h fun h4 h => ?_
    refine bt h fun h5 h6 => ?_
    apply be h1
    exact val_ok rfl (se_clo S A0.down hC h2 (of_decide_eq_true h4) h3 (ih_o env sc tb _ eo h5).1 (ih_es env sc tb _ eo h6))
  · intro o e ih_o ih_e env  sc  tb  ex  eo  h
    apply vCallA_elim h; intro v x p l q h
    refine bt h fun h1 h => ?_
    refine bt h fun h2 h => ?_
    refine bt h fun h3 h => ?_
    refine bt h fun h5 h => ?_
    apply l1_elim h; intro y h
    refine bt h fun h4 h6 => ?_
    apply be h1
    exact val_ok rfl (se_append h2 h4 h3 (ih_o env sc tb _ eo h5).1 (ih_e env sc tb _ eo h6).1)
  · intro o e ih_o ih_e env  sc  tb  ex  eo  h
    apply vCallA_elim h; intro v x p l q h
    refine bt h fun h1 h => ?_
    refine bt h fun h2 h => ?_
    refine bt h fun h3 h => ?_
    refine bt h fun h5 h => ?_
    apply l1_elim h; intro y h
    refine bt h fun h4 h6 => ?_
    apply be h1
    exact val_ok rfl (se_pop h2 h4 h3 (ih_o env sc tb _ eo h5).1 (ih_e env sc tb _ eo h6).1)
  · intro e ih_e env  sc  tb  ex  eo  h
    apply vCallN_elim h; intro x p l q h
    refine bt h fun h1 h => ?_
    refine bt h fun h2 h => ?_
    apply l1_elim h; intro y h
    refine bt h fun h3 h4 => ?_
    revert h2
    apply be h1
    intro h2
    exact val_ok rfl (se_len S eo h2 h3 (ih_e env sc tb _ eo h4).1)
  · intro e ih_e env  sc  tb  ex  eo  h
    apply vCallN_elim h; intro x p l q h
    refine bt h fun h1 h => ?_
    refine bt h fun h2 h => ?_
    apply l1_elim h; intro y h
    refine bt h fun h3 h4 => ?_
    revert h2
    apply be h1
    intro h2
    exact val_ok rfl (se_int S eo h2 h3 (ih_e env sc tb _ eo h4).1)
  · intro e ih_e env  sc  tb  ex  eo  h
    apply vCallN_elim h; intro x p l q h
    refine bt h fun h1 h => ?_
    refine bt h fun h2 h => ?_
    apply l1_elim h; intro y h
    refine bt h fun h3 h4 => ?_
    revert h2
    apply be h1
    intro h2
    exact val_ok rfl (se_list S eo h2 h3 (ih_e env sc tb _ eo h4).1)
  · intro e ih_e env  sc  tb  ex  eo  h
    apply vCallN_elim h; intro x p l q h
    refine bt h fun h1 h => ?_
    refine bt h fun h2 h => ?_
    apply l1_elim h; intro y h
    refine bt h fun h3 h4 => ?_
    revert h2
    apply be h1
    intro h2
    exact val_ok rfl (se_tuple S eo h2 h3 (ih_e env sc tb _ eo h4).1)
  · intro e ih_e env  sc  tb  ex  eo  h
    apply vCallN_elim h; intro x p l q h
    refine bt h fun h1 h => ?_
    refine bt h fun h2 h => ?_
    apply l1_elim h; intro y h
    refine bt h fun h3 h4 => ?_
    revert h2
    apply be h1
    intro h2
    exact val_ok rfl (se_max1 S A0 eo h2 h3 (ih_e env sc tb _ eo h4).1)
  · intro a b ih_a ih_b env  sc  tb  ex  eo  h
    apply vCallN_elim h; intro x p l q h
    refine bt h fun h1 h => ?_
    refine bt h fun h2 h => ?_
    apply l2_elim h; intro y z h
    refine bt h fun h3 h => ?_
    refine bt h fun h4 h => ?_
    refine bt h fun h5 h6 => ?_
    revert h2
    apply be h1
    intro h2
    exact val_ok rfl (se_max2 S A0 eo h2 h3 h4 (ih_a env sc tb _ eo h5).1 (ih_b env sc tb _ eo h6).1)
  · intro e ih_e env  sc  tb  ex  eo  h
    apply vCallN_elim h; intro x p l q h
    refine bt h fun h1 h => ?_
    refine bt h fun h2 h => ?_
    apply l1_elim h; intro y h
    refine bt h fun h3 h4 => ?_
    revert h2
    apply be h1
    intro h2
    exact val_ok rfl (se_sum S A0 eo h2 h3 (ih_e env sc tb _ eo h4).1)
  · intro e ih_e env  sc  tb  ex  eo  h
    apply vCallN_elim h; intro x p l q h
    refine bt h fun h1 h => ?_
    refine bt h fun h2 h => ?_
    apply l2_elim h; intro y w h
    apply vName_elim h; intro z r h
    refine bt h fun h3 h => ?_
    refine bt h fun h4 h => ?_
    refine bt h fun h5 h6 => ?_
    revert h2
    apply be h1
    intro h2
    revert h4
    apply be h3
    intro h4
    exact val_ok rfl (se_isBool S eo h2 h4 h5 (ih_e env sc tb _ eo h6).1)
  · intro src tb1 x elt ih_src ih_elt env  sc  tb  ex  eo  h
    apply vComp_elim h; intro e gs sc' p h
    apply l1_elim h; intro g h
    obtain ⟨tg, it, ifs, ia⟩ := g
    refine bt h fun g1 h => ?_
    refine bt h fun g2 h => ?_
    apply ln_elim (l := ifs) g1
    apply de (a := ia) g2
    apply vName_elim (ex := tg) h; intro y r h
    refine bt h fun h0 h => ?_
    refine bt h fun h1 h => ?_
    refine bt h fun h2 h => ?_
    refine bt h fun h3 h4 => ?_
    exact val_ok rfl (se_comp S A0.1 eo (compOk_of h2) (nodup_of h3) h0 (ih_src env sc tb _ eo h1).1 (fun cenv ce => (ih_elt cenv _ _ _ ce h4).1))
  · intro src tb1 x elt ih_src ih_elt env  sc  tb  ex  eo  h
    apply vComp_elim h; intro e gs sc' p h
    apply l1_elim h; intro g h
    obtain ⟨tg, it, ifs, ia⟩ := g
    refine bt h fun g1 h => ?_
    refine bt h fun g2 h => ?_
    apply ln_elim (l := ifs) g1
    apply de (a := ia) g2
    apply vName_elim (ex := tg) h; intro y r h
    apply vCallN_elim (ex := it) h; intro z u l q h
    refine bt h fun h1 h => ?_
    refine bt h fun h2 h => ?_
    apply l1_elim h; intro n1 h
    refine bt h fun h3 h => ?_
    refine bt h fun h4 h => ?_
    refine bt h fun h5 h => ?_
    refine bt h fun h6 h7 => ?_
    revert h2
    apply be h1
    intro h2
    exact val_ok rfl (se_compR S A0.1 eo (compOk_of h5) (nodup_of h6) h2 h3 (ih_src env sc tb _ eo h4).1 (fun cenv ce => (ih_elt cenv _ _ _ ce h7).1))
  · intro  env  sc  tb  ex  eo  h
    apply vDict_elim h; intro ks vs p h
    refine bt h fun h1 h2 => ?_
    apply ln_elim h1
    apply ln_elim h2
    exact ⟨se_dict0, sb_value rfl se_dict0⟩
  · intro i es ih_es env  sc  tb  ex  eo  h
    apply vCallN_elim h; intro x p l q h
    refine bt h fun h1 h => ?_
    refine bt h fun h2 h3 => ?_
    exact val_ok rfl (se_callL S A0.down hC eo (isLocal_mk (eq_of_beq h1) h2) (ih_es env sc tb _ eo h3))
  · intro  env  sc  tb  ex  eo  h
    exact ⟨fun loc m ρ H s Q F R w => False.elim w, fun loc m ρ H s Q F R w => False.elim w⟩
  · intro  env  sc  tb  exs  eo  h
    apply ln_elim h
    exact ⟨rfl, by simp, ses_nil⟩
  · intro e es ih_e ih_es env  sc  tb  exs  eo  h
    apply lc_elim h; intro y ys h
    refine bt h fun h1 h => ?_
    refine bt h fun h2 h3 => ?_
    have q := ih_es env sc tb _ eo h3
    exact ⟨by rw [List.all_cons, h1, q.plain]; rfl, ⟨fun h => Bool.noConfusion (congrArg Es.isNil h : false = true), fun h => nomatch h⟩, ses_cons h1 (ih_e env sc tb _ eo h2).1 q.ok⟩
end
end Mine
namespace Mine
open PySem PySem.W PySem.Calls PyProof.Rows
noncomputable def FlR (c : Cfg) (ρ : Pl) (h : Heap) : Fl → Flow → Prop
  | .next, f => f = .next
  | .cont, f => f = .cont
  | .ret v, f => ∃ x, f = .ret x ∧ VRel c ρ h v x
inductive PF (c : Cfg) (env : Env) (tb : List Str) (ρ : Pl) (s : Shared) (Q : Fl → List V → Hp → Prop) (f : Flow) (s' : Shared) : Prop
  | mk (ρ' : Pl) (loc' : List V) (H' : Hp) (m' : Str → Option Value) (fl : Fl) : RH c ρ' H' s' → Ext c [env.locals] ρ s ρ' s' → FrameRel c env tb loc' ρ' s'.heap m' → FlR c ρ' s'.heap fl f → Q fl loc' H' → PF c env tb ρ s Q f s'
noncomputable def SSt (c : Cfg) (A : Around) (env : Env) (tb : List Str) (C : CallP) (st : St) (stm : Stmt) : Prop :=
  ∀ (loc : List V) (m : Str → Option Value) (ρ : Pl) (H : Hp) (s : Shared) (Q : Fl → List V → Hp → Prop), FrameRel c env tb loc ρ s.heap m → RH c ρ H s → wpS C c.scr st loc H Q →
    wpAny (model c.prog c.w) A (exec stm env) (PF c env tb ρ s Q) NoE s
noncomputable def SSts (c : Cfg) (A : Around) (env : Env) (tb : List Str) (C : CallP) (ss : Ss) (stms : List Stmt) : Prop :=
  ∀ (loc : List V) (m : Str → Option Value) (ρ : Pl) (H : Hp) (s : Shared) (Q : Fl → List V → Hp → Prop), FrameRel c env tb loc ρ s.heap m → RH c ρ H s → wpSs C c.scr ss loc H Q →
    wpAny (model c.prog c.w) A (execs stms env) (PF c env tb ρ s Q) NoE s
section
variable {c : Cfg} {ρ ρ' ρ1 : Pl} {s s' s1 : Shared} {H : Hp} {A : Around} {env : Env} {tb : List Str} {C : CallP} {sc : Scope} {n : Nat} {Q : Fl → List V → Hp → Prop}
theorem PF.trans {f : Flow} (X : Ext c [env.locals] ρ s ρ1 s1) (p : PF c env tb ρ1 s1 Q f s') : PF c env tb ρ s Q f s' := by
  obtain ⟨ρ', loc', H', m', fl, R, Y, F, fr, q⟩ := p
  exact ⟨ρ', loc', H', m', fl, R, X.trans Y, F, fr, q⟩
theorem upL {loc : List V} {m : Str → Option Value} (F : FrameRel c env tb loc ρ1 s1.heap m) (X : Ext c [] ρ s ρ1 s1) : Ext c [env.locals] ρ s ρ1 s1 := X.more F.apart.1
theorem PF.next {loc : List V} {m : Str → Option Value} (X : Ext c [env.locals] ρ s ρ1 s1) (R : RH c ρ1 H s1) (F : FrameRel c env tb loc ρ1 s1.heap m) (q : Q .next loc H) : PF c env tb ρ s Q .next s1 :=
  ⟨ρ1, loc, H, m, .next, R, X, F, rfl, q⟩
noncomputable def notComp : Expr → Bool | .ListComp .. => false | .SetComp .. => false | .DictComp .. => false | _ => true
theorem swaps_of {v : Expr} {t : Option Expr} {l : Nat} (h : notComp v = true) : swapsWith v t l env = pure false := by
  cases v <;> first | rfl | exact absurd h Bool.false_ne_true
noncomputable def locName (sc : Scope) (tb : List Str) (i : Nat) (x : Str) : Bool := tb[i]? == some x && sc.names.lookup x == some .local
theorem st_asg {i : Nat} {e : E} {x : Str} {px pos : Pos} {v : Expr} (eo : EnvOk env sc) (nd : tb.Nodup) (hx : locName sc tb i x = true) (hv : notComp v = true) (he : SE c A env tb C e v) : SSt c A env tb C (.asg i e) (.Assign [.Name x px] v pos) := by
  intro loc m ρ H s Q F R w
  simp only [locName, Bool.and_eq_true, beq_iff_eq] at hx
  refine wpAny_Assign_Name (stp (he _ _ _ _ _ _ F R w) fun ρ1 z H1 s1 u R1 X1 r1 w1 => ?_) (swaps_of hv)
  have F1 := F.ext X1
  exact store_ok eo F1 R1 r1 hx.1 hx.2 nd fun s2 m2 X2 F2 => PF.next ((upL F1 X1).trans X2.ext) (X2.rh R1) F2 w1
theorem st_asg3 {i j k : Nat} {e : E} {x y z : Str} {px py pz pt pos : Pos} {kk : Nat} {v : Expr} (A0 : Room A n) (eo : EnvOk env sc) (nd : tb.Nodup) (hx : locName sc tb i x = true) (hy : locName sc tb j y = true) (hz : locName sc tb k z = true) (hv : isName v = true)
    (he : SE c A env tb C e v) : SSt c A env tb C (.asg3 i j k e) (.Assign [.Tuple [.Name x px, .Name y py, .Name z pz] kk pt] v pos) := by
  revert he
  apply vName_elim hv; intro vn vp _ he
  intro loc m ρ H s Q F R w
  simp only [locName, Bool.and_eq_true, beq_iff_eq] at hx hy hz
  refine Assign_Tuple (stp (he _ _ _ _ _ _ F R w) fun ρ1 u H1 s1 uv R1 X1 r1 w1 => ?_) rfl rfl
  have F1 := F.ext X1
  obtain ⟨l, rfl, w1⟩ := tupF w1
  obtain ⟨a, l, rfl, w1⟩ := consF w1
  obtain ⟨b, d, rfl, w1⟩ := twoF w1
  · simp only [VRel, VRels] at r1
    obtain ⟨t, _, nn, rfl, ht, va, _, rfl, ra, vb, _, rfl, rb, vd, _, rfl, rd, rfl⟩ := r1
    have hT : s1.heap.IsTuple t (List.toArray [va, vb, vd]) := ⟨_, ht, rfl, _, rfl⟩
    refine wpAny_assign_Tuple A0.1 hT (by rfl) (by rfl) fun h' hx' => ?_
    show wpAny _ _ (assignInOrder [assign (.Name x px) env, assign (.Name y py) env, assign (.Name z pz) env] [va, vb, vd]) _ _ _
    have kp : ∀ b o, s1.heap.get? b = some o → h'.get? b = some o := fun b o e => hx' b o (Nat.ne_of_lt (Heap.lt_size e)) e
    have X2 : Still c [] ρ1 s1 { s1 with heap := h' } := .grown kp rfl rfl rfl
    have R2 := X2.rh R1
    have F2 := F1.ext X2.ext
    refine wpAny_assignInOrder_more (wpAny_assign_Name (store_ok eo F2 R2 (VRel.mono0 X2.imm ra) hx.1 hx.2 nd fun s3 m3 X3 F3 => ?_))
    have R3 := X3.rh R2
    refine wpAny_assignInOrder_more (wpAny_assign_Name (store_ok eo F3 R3 (VRel.mono0 X3.imm (VRel.mono0 X2.imm rb)) hy.1 hy.2 nd fun s4 m4 X4 F4 => ?_))
    have R4 := X4.rh R3
    refine wpAny_assignInOrder_more (wpAny_assign_Name (store_ok eo F4 R4 (VRel.mono0 X4.imm (VRel.mono0 X3.imm (VRel.mono0 X2.imm rd))) hz.1 hz.2 nd fun s5 m5 X5 F5 => ?_))
    exact wpAny_assignInOrder_none (PF.next ((((upL F1 X1).trans (upL F2 X2.ext)).trans X3.ext).trans (X4.ext.trans X5.ext)) (X5.rh R4) F5 w1)
theorem st_asgA (S : Stat c) {o e : E} {a : At} {ov v : Expr} {p pos : Pos} (hv : notComp v = true) (ho : SE c A env tb C o ov) (he : SE c A env tb C e v) : SSt c A env tb C (.asgA o a e) (.Assign [.Attribute ov a.str p] v pos) := by
  intro loc m ρ H s Q F R w
  refine plainObj_wpAny_Assign_Attribute (stp (he _ _ _ _ _ _ F R w) fun ρ1 u H1 s1 uv R1 X1 r1 w1 => ?_) (swaps_of hv)
  refine stp (ho _ _ _ _ _ _ (F.ext X1) R1 w1) fun ρ2 x H2 s2 xv R2 X2 r2 w2 => ?_
  refine wpAny_mono (setA_ok S R2 r2 (X2.vrel r1) w2) (fun _ s3 zz => ?_) fun _ _ f => f
  obtain ⟨ρ3, H3, R3, X3, w3⟩ := zz
  have F3 := F.ext ((X1.trans X2).trans X3)
  exact PF.next (upL F3 ((X1.trans X2).trans X3)) R3 F3 w3
theorem st_asgI {o i e : E} {ov iv v : Expr} {p pos : Pos} (hv : notComp v = true) (ho : SE c A env tb C o ov) (hi : SE c A env tb C i iv) (he : SE c A env tb C e v) : SSt c A env tb C (.asgI o i e) (.Assign [.Subscript ov iv p] v pos) := by
  intro loc m ρ H s Q F R w
  refine wpAny_Assign_Subscript (stp (he _ _ _ _ _ _ F R w) fun ρ1 u H1 s1 uv R1 X1 r1 w1 => ?_) (swaps_of hv)
  refine stp (ho _ _ _ _ _ _ (F.ext X1) R1 w1) fun ρ2 x H2 s2 xv R2 X2 r2 w2 => ?_
  refine stp (hi _ _ _ _ _ _ (F.ext (X1.trans X2)) R2 w2) fun ρ3 y H3 s3 yv R3 X3 r3 w3 => ?_
  refine wpAny_mono (setI_ok R3 (X3.vrel r2) r3 ((X2.trans X3).vrel r1) w3) (fun _ s4 zz => ?_) fun _ _ f => f
  obtain ⟨ρ4, H4, R4, X4, w4⟩ := zz
  have X := ((X1.trans X2).trans X3).trans X4
  have F4 := F.ext X
  exact PF.next (upL F4 X) R4 F4 w4
theorem inplace_ok {op : BOp} {a b r : Int} {t u : Tok} {G : Value → Shared → Prop} {E : Value → Shared → Prop} (h : binI op a b = some r) (ho : op = .add ∨ op = .sub) (g : G (.int r s.toks) { s with toks := s.toks + 1 }) :
    wpAny (model c.prog c.w) A (inplaceOp op.op (.int a t) (.int b u)) G E s := by
  rcases ho with rfl | rfl
  · simp only [binI, Option.some.injEq] at h; subst h; exact PyProof.Rows.iadd_int g
  · simp only [binI, Option.some.injEq] at h; subst h; exact PyProof.Rows.isub_int g
theorem st_augN {i : Nat} {op : BOp} {e : E} {x : Str} {px pos : Pos} {v : Expr} (eo : EnvOk env sc) (nd : tb.Nodup) (hx : locName sc tb i x = true) (ho : okName x = true) (he : SE c A env tb C e v) : SSt c A env tb C (.augN i op e) (.AugAssign (.Name x px) op.op v pos) := by
  intro loc m ρ H s Q F R w
  simp only [locName, Bool.and_eq_true, beq_iff_eq] at hx
  obtain ⟨a, hl, w⟩ := intF w
  obtain ⟨ov, ro, va⟩ := F.vars i x hx.1 (by rw [hl]; simp)
  rw [hl] at ro
  simp only [VRel] at ro
  obtain ⟨t, rfl⟩ := ro
  have hk : env.scope.kind = .function := by rw [eo.scope]; exact eo.kind
  have hkl : env.kindOf x = some .local := by show env.scope.names.lookup x = _; rw [eo.scope]; exact hx.2
  rcases va with ⟨h1, h2⟩ | ⟨h1, _⟩
  · refine wpAny_AugAssign_Name (wpAny_loadName_local hk h1 F.ns h2 (stp (he _ _ _ _ _ _ F R w) fun ρ1 z H1 s1 u R1 X1 r1 w1 => ?_))
    obtain ⟨b, rfl, w1⟩ := intF w1
    simp only [VRel] at r1
    obtain ⟨t1, rfl⟩ := r1
    obtain ⟨r, hb, w1⟩ := optF w1
    refine inplace_ok hb w1.1 ?_
    have X2 : Still c [] ρ1 s1 { s1 with toks := s1.toks + 1 } := .toks s1 _
    have F2 := (F.ext X1).ext X2.ext
    exact store_ok eo F2 (X2.rh R1) (x := .int r) (by simp only [VRel]; exact ⟨_, rfl⟩) hx.1 hx.2 nd fun s3 m3 X3 F3 => PF.next (((upL (F.ext X1) X1).trans (upL F2 X2.ext)).trans X3.ext) (X3.rh (X2.rh R1)) F3 w1.2
  · rw [hkl] at h1; rcases h1 with h1 | h1 <;> cases h1
theorem st_augA (S : Stat c) {o e : E} {a : At} {op : BOp} {ov v : Expr} {p pos : Pos} (ho : SE c A env tb C o ov) (he : SE c A env tb C e v) : SSt c A env tb C (.augA o a op e) (.AugAssign (.Attribute ov a.str p) op.op v pos) := by
  intro loc m ρ H s Q F R w
  refine wpAny_AugAssign_AttributeAny (stp (ho _ _ _ _ _ _ F R w) fun ρ1 x H1 s1 xv R1 X1 r1 w1 => ?_)
  refine stp (att_ok S R1 r1 w1) fun ρ2 old H2 s2 oldv R2 X2 r2 w2 => ?_
  refine stp (he _ _ _ _ _ _ (F.ext (X1.trans X2)) R2 w2) fun ρ3 y H3 s3 yv R3 X3 r3 w3 => ?_
  have r23 := X3.vrel r2
  obtain ⟨a1, rfl, z1⟩ := intF w3
  obtain ⟨b1, rfl, z2⟩ := intF z1
  obtain ⟨r, hb, z3⟩ := optF z2
  simp only [VRel] at r23 r3
  obtain ⟨t1, rfl⟩ := r23
  obtain ⟨t2, rfl⟩ := r3
  refine inplace_ok hb z3.1 ?_
  have X4 : Still c [] ρ3 s3 { s3 with toks := s3.toks + 1 } := .toks s3 _
  refine wpAny_mono (setA_ok S (X4.rh R3) (X4.ext.vrel ((X2.trans X3).vrel r1)) (x := .int r) (by simp only [VRel]; exact ⟨_, rfl⟩) z3.2) (fun _ s5 zz => ?_) fun _ _ f => f
  obtain ⟨ρ5, H5, R5, X5, w5⟩ := zz
  have X := (((X1.trans X2).trans X3).trans X4.ext).trans X5
  have F5 := F.ext X
  exact PF.next (upL F5 X) R5 F5 w5
theorem st_augI {o i e : E} {op : BOp} {ov iv v : Expr} {p pos : Pos} (hk : subKind iv = true) (ho : SE c A env tb C o ov) (hi : SE c A env tb C i iv) (he : SE c A env tb C e v) : SSt c A env tb C (.augI o i op e) (.AugAssign (.Subscript ov iv p) op.op v pos) := by
  intro loc m ρ H s Q F R w
  refine wpAny_AugAssign_SubscriptAny (stp (ho _ _ _ _ _ _ F R w) fun ρ1 x H1 s1 xv R1 X1 r1 w1 => ?_) (by cases iv <;> first | (intros; rfl) | exact absurd hk Bool.false_ne_true)
  refine stp (hi _ _ _ _ _ _ (F.ext X1) R1 w1) fun ρ2 y H2 s2 yv R2 X2 r2 w2 => ?_
  refine stp (idx_ok R2 (X2.vrel r1) r2 w2) fun ρ3 old H3 s3 oldv R3 X3 r3 w3 => ?_
  refine stp (he _ _ _ _ _ _ (F.ext ((X1.trans X2).trans X3)) R3 w3) fun ρ4 z H4 s4 zv R4 X4 r4 w4 => ?_
  have r34 := X4.vrel r3
  obtain ⟨a1, rfl, z1⟩ := intF w4
  obtain ⟨b1, rfl, z2⟩ := intF z1
  obtain ⟨r, hb, z3⟩ := optF z2
  simp only [VRel] at r34 r4
  obtain ⟨t1, rfl⟩ := r34
  obtain ⟨t2, rfl⟩ := r4
  refine inplace_ok hb z3.1 ?_
  have X5 : Still c [] ρ4 s4 { s4 with toks := s4.toks + 1 } := .toks s4 _
  refine wpAny_mono (setI_ok (X5.rh R4) (X5.ext.vrel (((X2.trans X3).trans X4).vrel r1)) (X5.ext.vrel ((X3.trans X4).vrel r2)) (x := .int r) (by simp only [VRel]; exact ⟨_, rfl⟩) z3.2) (fun _ s6 zz => ?_) fun _ _ f => f
  obtain ⟨ρ6, H6, R6, X6, w6⟩ := zz
  have X := ((((X1.trans X2).trans X3).trans X4).trans X5.ext).trans X6
  have F6 := F.ext X
  exact PF.next (upL F6 X) R6 F6 w6
theorem st_ex {e : E} {v : Expr} {pos : Pos} (eo : EnvOk env sc) (hv : notComp v = true) (he : SE c A env tb C e v) : SSt c A env tb C (.ex e) (.Expr v pos) := by
  intro loc m ρ H s Q F R w
  refine wpAny_Expr_any (stp (he _ _ _ _ _ _ F R w) fun ρ1 x H1 s1 xv R1 X1 r1 w1 => ?_) (by unfold interactive; rw [eo.scope, eo.kind]; rfl) (swaps_of hv)
  exact PF.next (upL (F.ext X1) X1) R1 (F.ext X1) w1
theorem st_ret {e : E} {v : Expr} {pos : Pos} (he : SE c A env tb C e v) : SSt c A env tb C (.ret e) (.Return (some v) pos) := by
  intro loc m ρ H s Q F R w
  refine wpAny_Return_some (stp (he _ _ _ _ _ _ F R w) fun ρ1 x H1 s1 xv R1 X1 r1 w1 => ?_)
  exact ⟨ρ1, loc, H1, m, .ret x, R1, upL (F.ext X1) X1, F.ext X1, ⟨xv, rfl, r1⟩, w1⟩
theorem st_ret0 {pos : Pos} : SSt c A env tb C .ret0 (.Return none pos) := by
  intro loc m ρ H s Q F R w
  exact wpAny_Return_none ⟨ρ, loc, H, m, .ret .none, R, .refl, F, ⟨.none, rfl, by simp only [VRel]⟩, w⟩
theorem st_cont {pos : Pos} : SSt c A env tb C .cont (.Continue pos) := by
  intro loc m ρ H s Q F R w
  exact wpAny_Continue ⟨ρ, loc, H, m, .cont, R, .refl, F, rfl, w⟩
theorem st_if {d : E} {t e : Ss} {x : Expr} {b1 b2 : List Stmt} {pos : Pos} (hd : SB c A env tb C d x) (ht : SSts c A env tb C t b1) (he : SSts c A env tb C e b2) : SSt c A env tb C (.if_ d t e) (.If x b1 b2 pos) := by
  intro loc m ρ H s Q F R w
  have w' : wpE C c.scr d loc H (onB fun b H => bif b then wpSs C c.scr t loc H Q else wpSs C c.scr e loc H Q) := w
  refine wpAny_If (wpAny_mono (hd _ _ _ _ _ _ F R w') (fun b s1 zz => ?_) fun _ _ f => f)
  obtain ⟨ρ1, H1, R1, X1, w1⟩ := zz
  cases b
  · exact wpAny_mono (he _ _ _ _ _ _ (F.ext X1) R1 w1) (fun _ _ p => PF.trans (upL (F.ext X1) X1) p) fun _ _ f => f
  · exact wpAny_mono (ht _ _ _ _ _ _ (F.ext X1) R1 w1) (fun _ _ p => PF.trans (upL (F.ext X1) X1) p) fun _ _ f => f
theorem ss_nil : SSts c A env tb C .nil [] := by
  intro loc m ρ H s Q F R w
  exact wpAny_execs_nil (PF.next .refl R F w)
theorem ss_any {l : List Stmt} : SSts c A env tb C .any l := fun loc m ρ H s Q F R w => False.elim w
theorem ss_cons {st : St} {ss : Ss} {x : Stmt} {xs : List Stmt} (h : SSt c A env tb C st x) (hs : SSts c A env tb C ss xs) : SSts c A env tb C (.cons st ss) (x :: xs) := by
  intro loc m ρ H s Q F R w
  refine wpAny_execs_cons (wpAny_mono (h _ _ _ _ _ _ F R w) (fun f s1 zz => ?_) fun _ _ f => f)
  obtain ⟨ρ1, loc1, H1, m1, fl, R1, X1, F1, fr, w1⟩ := zz
  cases fl with
  | next =>
    have : f = .next := fr
    subst this
    exact wpAny_mono (hs _ _ _ _ _ _ F1 R1 w1) (fun _ _ p => PF.trans X1 p) fun _ _ f => f
  | cont =>
    have : f = .cont := fr
    subst this
    exact ⟨ρ1, loc1, H1, m1, .cont, R1, X1, F1, rfl, w1⟩
  | ret v =>
    obtain ⟨x, rfl, rv⟩ := fr
    exact ⟨ρ1, loc1, H1, m1, .ret v, R1, X1, F1, ⟨x, rfl, rv⟩, w1⟩
end
end Mine
namespace Mine
open PySem PySem.W PySem.Calls PyProof.Rows
section
variable {c : Cfg} {ρ ρ' ρ1 : Pl} {s s' s1 : Shared} {H : Hp} {A : Around} {env : Env} {tb : List Str} {C : CallP} {sc : Scope} {n : Nat} {Q : Fl → List V → Hp → Prop}
inductive WhI (c : Cfg) (env : Env) (tb : List Str) (I : Nat → List V → Hp → Prop) (ρ : Pl) (s : Shared) (k : Nat) (s' : Shared) : Prop
  | mk (ρk : Pl) (lock : List V) (Hk : Hp) (mk : Str → Option Value) : RH c ρk Hk s' → Ext c [env.locals] ρ s ρk s' → FrameRel c env tb lock ρk s'.heap mk → I k lock Hk → WhI c env tb I ρ s k s'
theorem st_while {d : E} {b : Ss} {x : Expr} {body : List Stmt} {pos : Pos} (hd : SB c A env tb C d x) (hb : SSts c A env tb C b body) : SSt c A env tb C (.while_ d b) (.While x body [] pos) := by
  intro loc m ρ H s Q F R w
  obtain ⟨I, k, w0, w⟩ := w
  refine wpAny_While (codeAny_whileLoop (I := WhI c env tb I ρ s) (fun k s' zz => ?_) k ⟨ρ, loc, H, m, R, .refl, F, w0⟩)
  obtain ⟨ρk, lock, Hk, mk, Rk, Xk, Fk, ik⟩ := zz
  have w1 := w k lock Hk ik
  have w' : wpE C c.scr d lock Hk (onB fun t H => bif t then wpSs C c.scr b lock H (fun f loc H => (match f with
          | .next => ∃ m, m < k ∧ I m loc H
          | .cont => ∃ m, m < k ∧ I m loc H
          | .ret v => Q (.ret v) loc H)) else Q .next lock H) := w1
  refine wpAny_mono (hd _ _ _ _ _ _ Fk Rk w') (fun t s2 zz => ?_) fun _ _ f => f.elim
  obtain ⟨ρ2, H2, R2, X2, w2⟩ := zz
  have F2 := Fk.ext X2
  have X02 := Xk.trans (upL F2 X2)
  cases t
  · rw [if_neg (by decide)]
    exact wpAny_execs_nil (PF.next X02 R2 F2 w2)
  · rw [if_pos rfl]
    refine wpAny_mono (hb _ _ _ _ _ _ F2 R2 w2) (fun f s3 zz => ?_) fun _ _ f => f.elim
    obtain ⟨ρ3, loc3, H3, m3, fl, R3, X3, F3, fr, w3⟩ := zz
    cases fl with
    | next =>
      have : f = .next := fr
      subst this
      obtain ⟨j, hj, ij⟩ := w3
      exact ⟨j, hj, ρ3, loc3, H3, m3, R3, X02.trans X3, F3, ij⟩
    | cont =>
      have : f = .cont := fr
      subst this
      obtain ⟨j, hj, ij⟩ := w3
      exact ⟨j, hj, ρ3, loc3, H3, m3, R3, X02.trans X3, F3, ij⟩
    | ret v =>
      obtain ⟨y, rfl, rv⟩ := fr
      exact ⟨ρ3, loc3, H3, m3, .ret v, R3, X02.trans X3, F3, ⟨y, rfl, rv⟩, w3⟩
inductive ForI (c : Cfg) (env : Env) (tb : List Str) (src : ISrc) (I : Addr) (items : List V) (chk : Hp → Prop) (step : V → List V → Hp → (Fl → List V → Hp → Prop) → Prop) (Q : Fl → List V → Hp → Prop) (ρ : Pl) (s : Shared) (k : Nat) (s' : Shared) : Prop
  | mk (i : Nat) (ρk : Pl) (lock : List V) (Hk : Hp) (mk : Str → Option Value) : i + k = items.length → RH c ρk Hk s' → Ext c [I, env.locals] ρ s ρk s' → FrameRel c env tb lock ρk s'.heap mk → ItAt c ρk src I i s'.heap → Off c ρk s'.heap I →
    forW chk step (items.drop i) lock Hk Q → ForI c env tb src I items chk step Q ρ s k s'
theorem for_loop {target : Expr} {body : List Stmt} {src : ISrc} {I : Addr} {items : List V} {chk : Hp → Prop} {step : V → List V → Hp → (Fl → List V → Hp → Prop) → Prop} {loc : List V} {m : Str → Option Value} {R : Result → Shared → Prop} (hh : A.handled = none)
    (hchk : ∀ H, chk H → src.has items H) (R1 : RH c ρ H s) (F1 : FrameRel c env tb loc ρ s.heap m) (t1 : ItAt c ρ src I 0 s.heap) (oI : Off c ρ s.heap I) (hIL : I ≠ env.locals)
    (hT : ∀ loc m ρ H s x v i K (E1 E2 E3 : Value → Shared → Prop), FrameRel c env tb loc ρ s.heap m → RH c ρ H s → VRel c ρ s.heap x v → ItAt c ρ src I i s.heap → step x loc H K →
      wpAny (model c.prog c.w) A (letOwnedTupleGo target (.ref I) v) (fun _ s1 => wpAny (model c.prog c.w) A (assign target env v) (fun _ s2 => wpAny (model c.prog c.w) A (execs body env) (PF c env tb ρ s K) E3 s2) E2 s1) E1 s)
    (w : forW chk step items loc H Q)
    (fin : ∀ ρ' loc' H' m' s' fl f, RH c ρ' H' s' → Ext c [I, env.locals] ρ s ρ' s' → FrameRel c env tb loc' ρ' s'.heap m' → FlR c ρ' s'.heap fl f → Q fl loc' H' → R (.ok f) s') :
    codeAny (model c.prog c.w) A (.forLoop target (.ref I) body [] env) R s := by
  refine codeAny_forLoop_any (I := ForI c env tb src I items chk step Q ρ s) (fun k s' hJ => ?_) items.length ⟨0, ρ, loc, H, m, by (first | lia | omega), R1, .refl, F1, t1, oI, w⟩
  obtain ⟨i, ρk, lock, Hk, mk, hik, Rk, Xk, Fk, tk, oIk, wk⟩ := hJ
  cases hx : items[i]? with
  | none =>
    have hl : items.length ≤ i := List.getElem?_eq_none_iff.mp hx
    have hi : i = items.length := by (first | lia | omega)
    subst hi
    rw [List.drop_of_length_le (Nat.le_refl _)] at wk
    obtain ⟨w1, w2⟩ := wk
    refine next_end hh Rk tk oIk (hchk _ w1) fun s2 X2 => ?_
    have F2 : FrameRel c env tb lock ρk s2.heap mk := Fk.extW (by simp [Ne.symm hIL]) X2.ext
    exact wpAny_execs_nil (fin ρk lock Hk mk s2 .next .next (X2.rh Rk) (Xk.trans (X2.extW (by simp))) F2 rfl w2)
  | some x =>
    obtain ⟨hlt, hxe⟩ := List.getElem?_eq_some_iff.mp hx
    rw [List.drop_eq_getElem_cons hlt, hxe] at wk
    obtain ⟨w1, w2⟩ := wk
    refine next_item Rk tk oIk (hchk _ w1) hx fun v s2 X2 rv2 t2 => ?_
    have R2 := X2.rh Rk
    have F2 : FrameRel c env tb lock ρk s2.heap mk := Fk.extW (by simp [Ne.symm hIL]) X2.ext
    have Xk2 := Xk.trans (X2.extW (W := [I, env.locals]) (by simp))
    have oI2 := oIk.imm t2.live
    dsimp only
    refine wpAny_mono (hT _ _ _ _ _ _ _ _ _ _ (notedBy (model c.prog c.w) A env fun e s' => R (.error e) s') (notedBy (model c.prog c.w) A env fun e s' => R (.error e) s') F2 R2 rv2 t2 w2) (fun _ s3 h3 => wpAny_mono h3 (fun _ s4 h4 => wpAny_mono h4 (fun f s5 zz => ?_) fun _ _ e => e) fun _ _ e => e) fun _ _ e => e
    obtain ⟨ρ5, loc5, H5, m5, fl, R5, X5, F5, fr, w5⟩ := zz
    have kI : ∀ o, s2.heap.get? I = some o → s5.heap.get? I = some o := fun o e => X5.keep _ _ e oI2.out (by simp [hIL]) oI2.tab
    have t5 := t2.ext X5 kI
    have oI5 : Off c ρ5 s5.heap I := Off.ext oI2 X5 t5.live
    have X05 := Xk2.trans (X5.more oI5.out)
    cases fl with
    | next =>
      have : f = .next := fr
      subst this
      exact ⟨k - 1, by (first | lia | omega), i + 1, ρ5, loc5, H5, m5, by (first | lia | omega), R5, X05, F5, t5, oI5, w5⟩
    | cont =>
      have : f = .cont := fr
      subst this
      exact ⟨k - 1, by (first | lia | omega), i + 1, ρ5, loc5, H5, m5, by (first | lia | omega), R5, X05, F5, t5, oI5, w5⟩
    | ret v =>
      obtain ⟨y, rfl, rv⟩ := fr
      exact fin ρ5 loc5 H5 m5 s5 (.ret v) (.ret y) R5 X05 F5 ⟨y, rfl, rv⟩ w5
theorem fresh_ne {loc : List V} {m : Str → Option Value} (F : FrameRel c env tb loc ρ s.heap m) {a : Addr} (h : s.heap.get? a = none) : a ≠ env.locals := by
  obtain ⟨o, _, _, e, _⟩ := F.ns
  rintro rfl
  rw [h] at e; cases e
theorem target_name {i : Nat} {x : Str} {px : Pos} {b : Ss} {body : List Stmt} {src : ISrc} {I : Addr} (eo : EnvOk env sc) (nd : tb.Nodup) (hx : locName sc tb i x = true) (hb : SSts c A env tb C b body) :
    ∀ loc m ρ H s z v k K (E1 E2 E3 : Value → Shared → Prop), FrameRel c env tb loc ρ s.heap m → RH c ρ H s → VRel c ρ s.heap z v → ItAt c ρ src I k s.heap → wpSs C c.scr b (setL loc i z) H K →
      wpAny (model c.prog c.w) A (letOwnedTupleGo (.Name x px) (.ref I) v) (fun _ s1 => wpAny (model c.prog c.w) A (assign (.Name x px) env v) (fun _ s2 => wpAny (model c.prog c.w) A (execs body env) (PF c env tb ρ s K) E3 s2) E2 s1) E1 s := by
  intro loc m ρ H s z v k K E1 E2 E3 F R rv t w
  simp only [locName, Bool.and_eq_true, beq_iff_eq] at hx
  refine wpAny_of_eq (a := ()) rfl (wpAny_assign_Name (store_ok eo F R rv hx.1 hx.2 nd fun s2 m2 X2 F2 => ?_))
  exact wpAny_mono (hb _ _ _ _ _ _ F2 (X2.rh R) w) (fun _ _ p => PF.trans X2.ext p) fun _ _ f => f.elim
theorem letgo_any {src : ISrc} {I : Addr} {i : Nat} {elts : List Expr} {k : Nat} {pos : Pos} {v : Value} {G : Unit → Shared → Prop} {E : Value → Shared → Prop} (t : ItAt c ρ src I i s.heap) (g : G () s) :
    wpAny (model c.prog c.w) A (letOwnedTupleGo (.Tuple elts k pos) (.ref I) v) G E s := by
  cases v <;> first | exact wpAny_of_eq (a := ()) rfl g | skip
  rename_i T
  have key : ∀ (o : Obj) (nm : String) (vs : Array Value), s.heap.get? I = some o → o.cls = .type nm → o.data = .fields vs →
      (["enumerate", "zip", "dict_itemiterator", "dict_reverseitemiterator", "odict_iterator", "itertools.zip_longest", "itertools.pairwise"].contains nm) = false →
      wpAny (model c.prog c.w) A (letOwnedTupleGo (.Tuple elts k pos) (.ref I) (.ref T)) G E s := fun o nm vs e hc hd hn => by
    unfold letOwnedTupleGo
    refine wpAny_bind (wpAny_load e ?_)
    rw [hc, hd]
    dsimp only
    rw [hn, Bool.false_and, if_neg (by decide)]
    exact wpAny_pure g
  cases src with
  | list j => obtain ⟨p, _, _, o, e, hc, hd⟩ := t; exact key o _ _ e hc hd (by decide)
  | tup vs => obtain ⟨a, xs, n, _, _, _, o, e, hc, hd⟩ := t; exact key o _ _ e hc hd (by decide)
  | range n => exact key _ _ _ t rfl rfl (by decide)
theorem target_two {i j : Nat} {x y : Str} {px py pt : Pos} {kk : Nat} {b : Ss} {body : List Stmt} {src : ISrc} {I : Addr} (A0 : Room A n) (eo : EnvOk env sc) (nd : tb.Nodup) (hx : locName sc tb i x = true) (hy : locName sc tb j y = true) (hb : SSts c A env tb C b body) :
    ∀ loc m ρ H s z v k K (E1 E2 E3 : Value → Shared → Prop), FrameRel c env tb loc ρ s.heap m → RH c ρ H s → VRel c ρ s.heap z v → ItAt c ρ src I k s.heap → (tupK z fun l => twoK l fun x y => wpSs C c.scr b (setL (setL loc i x) j y) H K) →
      wpAny (model c.prog c.w) A (letOwnedTupleGo (.Tuple [.Name x px, .Name y py] kk pt) (.ref I) v) (fun _ s1 => wpAny (model c.prog c.w) A (assign (.Tuple [.Name x px, .Name y py] kk pt) env v) (fun _ s2 => wpAny (model c.prog c.w) A (execs body env) (PF c env tb ρ s K) E3 s2) E2 s1) E1 s := by
  intro loc m ρ H s z v k K E1 E2 E3 F R rv t w
  simp only [locName, Bool.and_eq_true, beq_iff_eq] at hx hy
  refine letgo_any t ?_
  obtain ⟨l, rfl, w⟩ := tupF w
  obtain ⟨a, b', rfl, w⟩ := twoF w
  · simp only [VRel, VRels] at rv
    obtain ⟨tt, _, nn, rfl, ht, va, _, rfl, ra, vb, _, rfl, rb, rfl⟩ := rv
    have hT : s.heap.IsTuple tt (List.toArray [va, vb]) := ⟨_, ht, rfl, _, rfl⟩
    refine wpAny_assign_Tuple A0.1 hT (by rfl) (by rfl) fun h' hx' => ?_
    show wpAny _ _ (assignInOrder [assign (.Name x px) env, assign (.Name y py) env] [va, vb]) _ _ _
    have kp : ∀ b o, s.heap.get? b = some o → h'.get? b = some o := fun b o e => hx' b o (Nat.ne_of_lt (Heap.lt_size e)) e
    have X2 : Still c [] ρ s { s with heap := h' } := .grown kp rfl rfl rfl
    have R2 := X2.rh R
    have F2 := F.ext X2.ext
    refine wpAny_assignInOrder_more (wpAny_assign_Name (store_ok eo F2 R2 (VRel.mono0 X2.imm ra) hx.1 hx.2 nd fun s3 m3 X3 F3 => ?_))
    have R3 := X3.rh R2
    refine wpAny_assignInOrder_more (wpAny_assign_Name (store_ok eo F3 R3 (VRel.mono0 X3.imm (VRel.mono0 X2.imm rb)) hy.1 hy.2 nd fun s4 m4 X4 F4 => ?_))
    refine wpAny_assignInOrder_none ?_
    exact wpAny_mono (hb _ _ _ _ _ _ F4 (X4.rh R3) w) (fun _ _ p => PF.trans (((upL F2 X2.ext).trans X3.ext).trans X4.ext) p) fun _ _ f => f.elim
theorem for_seq {it : E} {target iter : Expr} {body : List Stmt} {pos : Pos} {step : V → List V → Hp → (Fl → List V → Hp → Prop) → Prop} {loc : List V} {m : Str → Option Value} (A0 : Room A n) (hit : notSet iter = true) (hi : SE c A env tb C it iter)
    (hT : ∀ src I loc m ρ H s x v i K (E1 E2 E3 : Value → Shared → Prop), FrameRel c env tb loc ρ s.heap m → RH c ρ H s → VRel c ρ s.heap x v → ItAt c ρ src I i s.heap → step x loc H K →
      wpAny (model c.prog c.w) A (letOwnedTupleGo target (.ref I) v) (fun _ s1 => wpAny (model c.prog c.w) A (assign target env v) (fun _ s2 => wpAny (model c.prog c.w) A (execs body env) (PF c env tb ρ s K) E3 s2) E2 s1) E1 s)
    (F : FrameRel c env tb loc ρ s.heap m) (R : RH c ρ H s)
    (w : wpE C c.scr it loc H fun x H => itemsW x H fun vs => forW (stillW x vs) step vs loc H Q) : wpAny (model c.prog c.w) A (exec (.For target iter body [] pos) env) (PF c env tb ρ s Q) NoE s := by
  refine wpAny_For (stp (hi _ _ _ _ _ _ F R w) fun ρ1 x H1 s1 v R1 X1 r1 w1 => ?_) (folded_of hit)
  obtain ⟨vs, hq, w1⟩ := itemsW_of w1
  have F1 := F.ext X1
  refine iter_new R1 r1 hq fun src o h1 h2 t => ?_
  have X2 : Still c [] ρ1 s1 { s1 with heap := s1.heap.push o } := .grown (fun b o e => Heap.get?_push_of_some _ e) rfl rfl rfl
  have R2 := X2.rh R1
  have F2 := F1.ext X2.ext
  have hn : s1.heap.get? s1.heap.objs.size = none := get_none_of_le (Nat.le_refl _)
  refine for_loop (s := { s1 with heap := s1.heap.push o }) A0.1 h2 R2 F2 t (Off.new R1 hn t.live) (fresh_ne F1 hn) (hT _ _) w1 fun ρ' loc' H' m' s' fl f R' X' F' fr q => ?_
  refine ⟨ρ', loc', H', m', fl, R', (upL F1 X1).trans (Ext.shed (upL F2 X2.ext) X' hn (Off.new R1 hn t.live).out), F', fr, q⟩
theorem st_for {i : Nat} {it : E} {b : Ss} {x : Str} {px pos : Pos} {iter : Expr} {body : List Stmt} (A0 : Room A n) (eo : EnvOk env sc) (nd : tb.Nodup) (hx : locName sc tb i x = true) (hit : notSet iter = true) (hi : SE c A env tb C it iter) (hb : SSts c A env tb C b body) :
    SSt c A env tb C (.for_ i it b) (.For (.Name x px) iter body [] pos) := by
  intro loc m ρ H s Q F R w
  exact for_seq A0 hit hi (fun src I => target_name eo nd hx hb) F R w
theorem st_for2 {i j : Nat} {it : E} {b : Ss} {x y : Str} {px py pt pos : Pos} {kk : Nat} {iter : Expr} {body : List Stmt} (A0 : Room A n) (eo : EnvOk env sc) (nd : tb.Nodup) (hx : locName sc tb i x = true) (hy : locName sc tb j y = true) (hit : notSet iter = true) (hi : SE c A env tb C it iter) (hb : SSts c A env tb C b body) :
    SSt c A env tb C (.for2 i j it b) (.For (.Tuple [.Name x px, .Name y py] kk pt) iter body [] pos) := by
  intro loc m ρ H s Q F R w
  exact for_seq A0 hit hi (fun src I => target_two A0 eo nd hx hy hb) F R w
theorem st_forR (S : Stat c) {i : Nat} {it : E} {b : Ss} {x : Str} {px pr pc pos : Pos} {nx : Expr} {body : List Stmt} (A0 : Room A n) (eo : EnvOk env sc) (nd : tb.Nodup) (hx : locName sc tb i x = true) (hg : glo sc Bn.range.str = true) (hn : notStar nx = true) (hi : SE c A env tb C it nx) (hb : SSts c A env tb C b body) :
    SSt c A env tb C (.forR i it b) (.For (.Name x px) (.Call (.Name Bn.range.str pr) [nx] [] pc) body [] pos) := by
  intro loc m ρ H s Q F R w
  refine wpAny_For (Call_ (name_bn S eo hg R ?_)) (fun x => rfl)
  rw [star_of hn []]
  refine PyProof.Rows.callWith_type rfl (evalArgs_plain (spliced_cons ?_))
  refine stp (hi _ _ _ _ _ _ F R w) fun ρ1 z H1 s1 v R1 X1 r1 w1 => spliced_nil ?_
  cases z <;> first | exact False.elim w1 | skip
  rename_i k
  obtain ⟨h0, hl, w2⟩ := w1
  simp only [VRel] at r1
  obtain ⟨tk, rfl⟩ := r1
  have F1 := F.ext X1
  refine range_new (c := c) (ρ := ρ1) hl h0 fun o o' tk' t => ?_
  have X2 : Still c [] ρ1 s1 { s1 with heap := (s1.heap.push o).push o', toks := tk' } := .grown (fun b o e => Heap.get?_push_of_some _ (Heap.get?_push_of_some _ e)) rfl rfl rfl
  have R2 := X2.rh R1
  have F2 := F1.ext X2.ext
  have hn : s1.heap.get? (s1.heap.objs.size + 1) = none := get_none_of_le (Nat.le_succ _)
  refine for_loop (s := { s1 with heap := (s1.heap.push o).push o', toks := tk' }) (src := .range k.toNat) (step := fun v loc H k => wpSs C c.scr b (setL loc i v) H k) A0.1 (fun H' _ => ⟨rfl, by (first | lia | omega)⟩) R2 F2 t (Off.new R1 hn t.live) (fresh_ne F1 hn) (target_name eo nd hx hb) w2 fun ρ' loc' H' m' s' fl f R' X' F' fr q => ?_
  exact ⟨ρ', loc', H', m', fl, R', (upL F1 X1).trans (Ext.shed (upL F2 X2.ext) X' hn (Off.new R1 hn t.live).out), F', fr, q⟩
end
end Mine
namespace Mine
open PySem PySem.W PySem.Calls PyProof.Rows
noncomputable def tAsg (k : List Expr → Expr → Pos → Bool) (ex : Stmt) : Bool := if h : ex.ctorIdx = 5 then Stmt.Assign.elim (motive_2 := fun _ => Bool) ex h k else false
theorem tAsg_elim {P : Stmt → Prop} {k : List Expr → Expr → Pos → Bool} {ex : Stmt} (h : tAsg k ex = true) (f : ∀ x0 x1 x2, k x0 x1 x2 = true → P (.Assign x0 x1 x2)) : P ex :=
  if hc : ex.ctorIdx = 5 then Stmt.Assign.elim (motive_2 := fun ex => tAsg k ex = true → P ex) ex hc f h else absurd ((dif_neg hc).symm.trans h) Bool.false_ne_true
noncomputable def tAug (k : Expr → Operator → Expr → Pos → Bool) (ex : Stmt) : Bool := if h : ex.ctorIdx = 7 then Stmt.AugAssign.elim (motive_2 := fun _ => Bool) ex h k else false
theorem tAug_elim {P : Stmt → Prop} {k : Expr → Operator → Expr → Pos → Bool} {ex : Stmt} (h : tAug k ex = true) (f : ∀ x0 x1 x2 x3, k x0 x1 x2 x3 = true → P (.AugAssign x0 x1 x2 x3)) : P ex :=
  if hc : ex.ctorIdx = 7 then Stmt.AugAssign.elim (motive_2 := fun ex => tAug k ex = true → P ex) ex hc f h else absurd ((dif_neg hc).symm.trans h) Bool.false_ne_true
noncomputable def tEx (k : Expr → Pos → Bool) (ex : Stmt) : Bool := if h : ex.ctorIdx = 24 then Stmt.Expr.elim (motive_2 := fun _ => Bool) ex h k else false
theorem tEx_elim {P : Stmt → Prop} {k : Expr → Pos → Bool} {ex : Stmt} (h : tEx k ex = true) (f : ∀ x0 x1, k x0 x1 = true → P (.Expr x0 x1)) : P ex :=
  if hc : ex.ctorIdx = 24 then Stmt.Expr.elim (motive_2 := fun ex => tEx k ex = true → P ex) ex hc f h else absurd ((dif_neg hc).symm.trans h) Bool.false_ne_true
noncomputable def tRet (k : Option Expr → Pos → Bool) (ex : Stmt) : Bool := if h : ex.ctorIdx = 3 then Stmt.Return.elim (motive_2 := fun _ => Bool) ex h k else false
theorem tRet_elim {P : Stmt → Prop} {k : Option Expr → Pos → Bool} {ex : Stmt} (h : tRet k ex = true) (f : ∀ x0 x1, k x0 x1 = true → P (.Return x0 x1)) : P ex :=
  if hc : ex.ctorIdx = 3 then Stmt.Return.elim (motive_2 := fun ex => tRet k ex = true → P ex) ex hc f h else absurd ((dif_neg hc).symm.trans h) Bool.false_ne_true
noncomputable def tIf (k : Expr → List Stmt → List Stmt → Pos → Bool) (ex : Stmt) : Bool := if h : ex.ctorIdx = 12 then Stmt.If.elim (motive_2 := fun _ => Bool) ex h k else false
theorem tIf_elim {P : Stmt → Prop} {k : Expr → List Stmt → List Stmt → Pos → Bool} {ex : Stmt} (h : tIf k ex = true) (f : ∀ x0 x1 x2 x3, k x0 x1 x2 x3 = true → P (.If x0 x1 x2 x3)) : P ex :=
  if hc : ex.ctorIdx = 12 then Stmt.If.elim (motive_2 := fun ex => tIf k ex = true → P ex) ex hc f h else absurd ((dif_neg hc).symm.trans h) Bool.false_ne_true
noncomputable def tWh (k : Expr → List Stmt → List Stmt → Pos → Bool) (ex : Stmt) : Bool := if h : ex.ctorIdx = 11 then Stmt.While.elim (motive_2 := fun _ => Bool) ex h k else false
theorem tWh_elim {P : Stmt → Prop} {k : Expr → List Stmt → List Stmt → Pos → Bool} {ex : Stmt} (h : tWh k ex = true) (f : ∀ x0 x1 x2 x3, k x0 x1 x2 x3 = true → P (.While x0 x1 x2 x3)) : P ex :=
  if hc : ex.ctorIdx = 11 then Stmt.While.elim (motive_2 := fun ex => tWh k ex = true → P ex) ex hc f h else absurd ((dif_neg hc).symm.trans h) Bool.false_ne_true
noncomputable def tFor (k : Expr → Expr → List Stmt → List Stmt → Pos → Bool) (ex : Stmt) : Bool := if h : ex.ctorIdx = 9 then Stmt.For.elim (motive_2 := fun _ => Bool) ex h k else false
theorem tFor_elim {P : Stmt → Prop} {k : Expr → Expr → List Stmt → List Stmt → Pos → Bool} {ex : Stmt} (h : tFor k ex = true) (f : ∀ x0 x1 x2 x3 x4, k x0 x1 x2 x3 x4 = true → P (.For x0 x1 x2 x3 x4)) : P ex :=
  if hc : ex.ctorIdx = 9 then Stmt.For.elim (motive_2 := fun ex => tFor k ex = true → P ex) ex hc f h else absurd ((dif_neg hc).symm.trans h) Bool.false_ne_true
noncomputable def tCo (k : Pos → Bool) (ex : Stmt) : Bool := if h : ex.ctorIdx = 27 then Stmt.Continue.elim (motive_2 := fun _ => Bool) ex h k else false
theorem tCo_elim {P : Stmt → Prop} {k : Pos → Bool} {ex : Stmt} (h : tCo k ex = true) (f : ∀ x0, k x0 = true → P (.Continue x0)) : P ex :=
  if hc : ex.ctorIdx = 27 then Stmt.Continue.elim (motive_2 := fun ex => tCo k ex = true → P ex) ex hc f h else absurd ((dif_neg hc).symm.trans h) Bool.false_ne_true
mutual
noncomputable def matchS (sc : Scope) (tb : List Str) : St → Stmt → Bool
  | .asg i e, st => tAsg (fun ts v _ => l1 (vName fun x _ => locName sc tb i x && (notComp v && matchE sc tb e v)) ts) st
  | .asgC i src tb' x elt, st => tAsg (fun ts v ps => l1 (vName fun z pz => vComp (fun e gs sc' p => l1 (fun g => ln g.ifs && (decide (g.is_async = (0 : Int)) && vName (fun y _ =>
      locName sc tb i z && (decide (pz.line = p.line) && (!(sc'.names.any fun (n, k) => n == z && (k == .local || k == .cell)) && (notSet g.iter && (compScopeOk sc tb tb' x y sc' && (nodupB (pick tb tb' ++ [y]) && (matchE sc tb src g.iter && matchE (relab sc' sc) (pick tb tb' ++ [y]) elt e))))))) g.target)) gs) v) ts) st
  | .asg3 i j k e, st => tAsg (fun ts v _ => l1 (vTup fun l _ _ => l3 (fun a b d => vName (fun x _ => locName sc tb i x) a && (vName (fun y _ => locName sc tb j y) b && (vName (fun z _ => locName sc tb k z) d && (isName v && matchE sc tb e v)))) l) ts) st
  | .asgA o a e, st => tAsg (fun ts v _ => l1 (vAtt fun ov x _ => x == a.str && (notComp v && (matchE sc tb o ov && matchE sc tb e v))) ts) st
  | .asgI o i e, st => tAsg (fun ts v _ => l1 (vSub fun ov iv _ => notComp v && (matchE sc tb o ov && (matchE sc tb i iv && matchE sc tb e v))) ts) st
  | .augN i op e, st => tAug (fun t q v _ => q == op.op && vName (fun x _ => locName sc tb i x && (okName x && matchE sc tb e v)) t) st
  | .augA o a op e, st => tAug (fun t q v _ => q == op.op && vAtt (fun ov x _ => x == a.str && (matchE sc tb o ov && matchE sc tb e v)) t) st
  | .augI o i op e, st => tAug (fun t q v _ => q == op.op && vSub (fun ov iv _ => subKind iv && (matchE sc tb o ov && (matchE sc tb i iv && matchE sc tb e v))) t) st
  | .ex e, st => tEx (fun v _ => notComp v && matchE sc tb e v) st
  | .ret e, st => tRet (fun v _ => os (fun v => matchE sc tb e v) v) st
  | .ret0, st => tRet (fun v _ => on v) st
  | .if_ d a b, st => tIf (fun x b1 b2 _ => matchE sc tb d x && (matchSs sc tb a b1 && matchSs sc tb b b2)) st
  | .while_ d b, st => tWh (fun x b1 b2 _ => ln b2 && (matchE sc tb d x && matchSs sc tb b b1)) st
  | .for_ i it b, st => tFor (fun t iter body els _ => ln els && vName (fun x _ => locName sc tb i x && (notSet iter && (matchE sc tb it iter && matchSs sc tb b body))) t) st
  | .forR i it b, st => tFor (fun t iter body els _ => ln els && vName (fun x _ => vCallN (fun r args => r == Bn.range.str && (glo sc r && l1 (fun nx => locName sc tb i x && (notStar nx && (matchE sc tb it nx && matchSs sc tb b body))) args)) iter) t) st
  | .for2 i j it b, st => tFor (fun t iter body els _ => ln els && vTup (fun l _ _ => l2 (fun a d => vName (fun x _ => locName sc tb i x) a && (vName (fun y _ => locName sc tb j y) d && (notSet iter && (matchE sc tb it iter && matchSs sc tb b body)))) l) t) st
  | .cont, st => tCo (fun _ => true) st
  | .def_ _, _ => false
noncomputable def matchSs (sc : Scope) (tb : List Str) : Ss → List Stmt → Bool
  | .nil, l => ln l
  | .any, _ => true
  | .cons st ss, l => lc (fun x xs => matchS sc tb st x && matchSs sc tb ss xs) l
end
section
variable {c : Cfg} {A : Around} {C : CallP} {n : Nat}
theorem st_asgC {env : Env} {sc : Scope} {tb : List Str} (S : Stat c) (A0 : Room A (n + 1)) (eo : EnvOk env sc) (ndt : tb.Nodup) {i : Nat} {src elt : E} {ex iter : Expr} {z y : Str} {py pos pz ps : Pos} {sc' : Scope} {tb' : List Nat} {xi : Nat}
    (hz : locName sc tb i z = true) (hl : pz.line = pos.line) (hs : (!(sc'.names.any fun (n, k) => n == z && (k == NameKind.local || k == NameKind.cell))) = true)
    (co : CompOk sc tb tb' xi y sc') (nd : (pick tb tb' ++ [y]).Nodup) (hit : notSet iter = true)
    (hsrc : SE c A env tb C src iter) (he : ∀ cenv, EnvOk cenv (relab sc' sc) → SE c A cenv (pick tb tb' ++ [y]) C elt ex) : SSt c A env tb C (.asgC i src tb' xi elt) (.Assign [.Name z pz] (.ListComp ex [⟨.Name y py, iter, [], 0⟩] sc' pos) ps) := by
  intro loc m ρ H s Q F R w
  simp only [locName, Bool.and_eq_true, beq_iff_eq] at hz
  have hkk : env.kindOf z = some .local := by show env.scope.names.lookup z = _; rw [eo.scope]; exact hz.2
  have hsw : swapsWith (.ListComp ex [⟨.Name y py, iter, [], 0⟩] sc' pos) (some (.Name z pz)) ps.line env = pure true := by
    have hb : (env.blockKind == .function && env.kindOf z == some .local && pz.line == pos.line && !(sc'.names.any fun (n, k) => n == z && (k == NameKind.local || k == NameKind.cell))) = true := by
      have : env.blockKind = .function := by unfold Env.blockKind; rw [eo.scope, eo.kind]; rfl
      rw [this, hkk, hl, hs]; simp
    show pure (env.blockKind == .function && env.kindOf z == some .local && pz.line == pos.line && !(sc'.names.any fun (n, k) => n == z && (k == NameKind.local || k == NameKind.cell))) = pure true
    rw [hb]
  rw [exec_Assign_Name_used _ _ _ _ hsw]
  refine wpAny_bind (wpAny_standAt (wpAny_bind ?_))
  show wpAny _ _ (comprehension (.ListComp ex [⟨.Name y py, iter, [], 0⟩] sc' pos) sc' env iter.pos (newList []) false (eval iter env) (some (assign (.Name z pz) env)) >>= fun _ => pure ()) _ _ _
  refine wpAny_bind (comp_run S A0.1 eo co nd hit hsrc he F R w ?_)
  intro ρ0 s0 H0 R0 X0 D L s' ρ' H' acc m' hL hDL R' X' hn oL hlen q
  have F0 := F.ext X0
  have hLn : L ≠ env.locals := fresh_ne F0 hL
  have F1 : FrameRel c env tb loc (ρ' ++ [(D, D)]) s'.heap m := F0.extW (by simp [Ne.symm hLn]) X'
  have rD : VRel c (ρ' ++ [(D, D)]) s'.heap (.obj H'.length) (.ref D) := by
    simp only [VRel]
    exact ⟨(D, D), by rw [← hlen, List.getElem?_append_right (Nat.le_refl _), Nat.sub_self]; rfl, rfl⟩
  refine wpAny_assign_Name (store_ok eo F1 R' rD hz.1 hz.2 ndt fun s2 m2 X2 F2 => ?_)
  have hn2 : s2.heap.Ns L m' := by
    obtain ⟨o, es, ep, e, r⟩ := hn
    exact ⟨o, es, ep, X2.keep _ _ e (by simp [hLn]), r⟩
  refine ⟨m', hn2, fun h' hs' => wpAny_pure (wpAny_pure ?_)⟩
  have oL2 : Off c (ρ' ++ [(D, D)]) s2.heap L := oL.imm (by obtain ⟨o, _, _, e, _⟩ := hn2; exact ⟨o, e⟩)
  have X3 : Still c [L] (ρ' ++ [(D, D)]) s2 { s2 with heap := h' } := still_of (tk := s2.toks) oL2 (not_imm_ns hn2) hs'
  have F3 : FrameRel c env tb (setL loc i (.obj H'.length)) (ρ' ++ [(D, D)]) h' m2 := F2.extW (W := [L]) (s' := { s2 with heap := h' }) (by simp [Ne.symm hLn]) X3.ext
  have oL0 : ∀ p ∈ ρ0, L ≠ p.1 ∧ L ≠ p.2 := (Off.new (c := c) R0 hL (h' := s'.heap) oL.live).out
  have Y : Ext c [L, env.locals] ρ0 s0 (ρ' ++ [(D, D)]) { s2 with heap := h' } := by
    have a1 : Ext c [env.locals, L] ρ0 s0 (ρ' ++ [(D, D)]) s' := X'.more F1.apart.1
    have a2 : Ext c [env.locals, L] ρ0 s0 (ρ' ++ [(D, D)]) { s2 with heap := h' } := (a1.trans (X2.extW (by simp))).trans (X3.extW (by simp))
    exact a2.swap
  exact PF.next ((upL F0 X0).trans (Ext.shed (s' := s0) (ρ' := ρ0) .refl Y hL oL0)) (X3.rh (X2.rh R')) F3 q
theorem matchSs_ok (S : Stat c) (A0 : Room A (n + 1)) (hC : CallOk c n C) (x : Ss) : ∀ (env : Env) (sc : Scope) (tb : List Str) (l : List Stmt), EnvOk env sc → tb.Nodup → matchSs sc tb x l = true → SSts c A env tb C x l := by
  refine Ss.rec (motive_1 := fun st => ∀ (env : Env) (sc : Scope) (tb : List Str) (stm : Stmt), EnvOk env sc → tb.Nodup → matchS sc tb st stm = true → SSt c A env tb C st stm) (motive_2 := fun ss => ∀ (env : Env) (sc : Scope) (tb : List Str) (l : List Stmt), EnvOk env sc → tb.Nodup → matchSs sc tb ss l = true → SSts c A env tb C ss l) ?_ ?_ ?_ ?_ ?_ ?_ ?_ ?_ ?_ ?_ ?_ ?_ ?_ ?_ ?_ ?_ ?_ ?_ ?_ ?_ ?_ x
  · intro i e env  sc  tb  stm  eo  nd  h
    apply tAsg_elim h; intro ts v p h
    apply l1_elim h; intro t h
    apply vName_elim h; intro x px h
    refine bt h fun h1 h => ?_
    refine bt h fun h2 h3 => ?_
    exact st_asg eo nd h1 h2 (matchE_ok S A0 hC e env sc tb _ eo h3).1
  · intro i src tb1 x elt env  sc  tb  stm  eo  nd  h
    apply tAsg_elim h; intro ts v p h
    apply l1_elim h; intro t h
    apply vName_elim h; intro z pz h
    apply vComp_elim h; intro el gs sc' q h
    apply l1_elim h; intro g h
    obtain ⟨tg, itx, ifs, ia⟩ := g
    refine bt h fun g1 h => ?_
    refine bt h fun g2 h => ?_
    apply ln_elim (l := ifs) g1
    apply de (a := ia) g2
    apply vName_elim (ex := tg) h; intro y r h
    refine bt h fun h1 h => ?_
    refine bt h fun h2 h => ?_
    refine bt h fun h3 h => ?_
    refine bt h fun h4 h => ?_
    refine bt h fun h5 h => ?_
    refine bt h fun h6 h => ?_
    refine bt h fun h7 h8 => ?_
    exact st_asgC S A0 eo nd h1 (of_decide_eq_true h2) h3 (compOk_of h5) (nodup_of h6) h4 (matchE_ok S A0 hC src env sc tb _ eo h7).1 (fun cenv ce => (matchE_ok S A0 hC elt cenv _ _ _ ce h8).1)
  · intro i j k e env  sc  tb  stm  eo  nd  h
    apply tAsg_elim h; intro ts v p h
    apply l1_elim h; intro t h
    apply vTup_elim h; intro l kk q h
    apply l3_elim h; intro a1 a2 a3 h
    refine bt h fun f1 h => ?_
    refine bt h fun f2 h => ?_
    refine bt h fun f3 h => ?_
    apply vName_elim f1; intro x px h1
    apply vName_elim f2; intro y py h2
    apply vName_elim f3; intro z pz h3
    refine bt h fun h4 h5 => ?_
    exact st_asg3 A0 eo nd h1 h2 h3 h4 (matchE_ok S A0 hC e env sc tb _ eo h5).1
  · intro o a e env  sc  tb  stm  eo  nd  h
    apply tAsg_elim h; intro ts v p h
    apply l1_elim h; intro t h
    apply vAtt_elim h; intro ov x q h
    refine bt h fun h1 h => ?_
    refine bt h fun h2 h => ?_
    refine bt h fun h3 h4 => ?_
    apply be h1
    exact st_asgA S h2 (matchE_ok S A0 hC o env sc tb _ eo h3).1 (matchE_ok S A0 hC e env sc tb _ eo h4).1
  · intro o i e env  sc  tb  stm  eo  nd  h
    apply tAsg_elim h; intro ts v p h
    apply l1_elim h; intro t h
    apply vSub_elim h; intro ov iv q h
    refine bt h fun h1 h => ?_
    refine bt h fun h2 h => ?_
    refine bt h fun h3 h4 => ?_
    exact st_asgI h1 (matchE_ok S A0 hC o env sc tb _ eo h2).1 (matchE_ok S A0 hC i env sc tb _ eo h3).1 (matchE_ok S A0 hC e env sc tb _ eo h4).1
  · intro i op e env  sc  tb  stm  eo  nd  h
    apply tAug_elim h; intro t q v p h
    refine bt h fun h1 h => ?_
    apply be h1
    apply vName_elim h; intro x px h
    refine bt h fun h2 h => ?_
    refine bt h fun h3 h4 => ?_
    exact st_augN eo nd h2 h3 (matchE_ok S A0 hC e env sc tb _ eo h4).1
  · intro o a op e env  sc  tb  stm  eo  nd  h
    apply tAug_elim h; intro t q v p h
    refine bt h fun h1 h => ?_
    apply be h1
    apply vAtt_elim h; intro ov x r h
    refine bt h fun h2 h => ?_
    refine bt h fun h3 h4 => ?_
    apply be h2
    exact st_augA S (matchE_ok S A0 hC o env sc tb _ eo h3).1 (matchE_ok S A0 hC e env sc tb _ eo h4).1
  · intro o i op e env  sc  tb  stm  eo  nd  h
    apply tAug_elim h; intro t q v p h
    refine bt h fun h1 h => ?_
    apply be h1
    apply vSub_elim h; intro ov iv r h
    refine bt h fun h2 h => ?_
    refine bt h fun h3 h => ?_
    refine bt h fun h4 h5 => ?_
    exact st_augI h2 (matchE_ok S A0 hC o env sc tb _ eo h3).1 (matchE_ok S A0 hC i env sc tb _ eo h4).1 (matchE_ok S A0 hC e env sc tb _ eo h5).1
  · intro e env  sc  tb  stm  eo  nd  h
    apply tEx_elim h; intro v p h
    refine bt h fun h1 h2 => ?_
    exact st_ex eo h1 (matchE_ok S A0 hC e env sc tb _ eo h2).1
  · intro e env  sc  tb  stm  eo  nd  h
    apply tRet_elim h; intro v p h
    apply os_elim h; intro x h
    exact st_ret (matchE_ok S A0 hC e env sc tb _ eo h).1
  · intro  env  sc  tb  stm  eo  nd  h
    apply tRet_elim h; intro v p h
    apply on_elim h
    exact st_ret0
  · intro d a b ih_a ih_b env  sc  tb  stm  eo  nd  h
    apply tIf_elim h; intro x b1 b2 p h
    refine bt h fun h1 h => ?_
    refine bt h fun h2 h3 => ?_
    exact st_if (matchE_ok S A0 hC d env sc tb _ eo h1).2 (ih_a env sc tb _ eo nd h2) (ih_b env sc tb _ eo nd h3)
  · intro d b ih_b env  sc  tb  stm  eo  nd  h
    apply tWh_elim h; intro x b1 b2 p h
    refine bt h fun h0 h => ?_
    refine bt h fun h1 h2 => ?_
    apply ln_elim h0
    exact st_while (matchE_ok S A0 hC d env sc tb _ eo h1).2 (ih_b env sc tb _ eo nd h2)
  · intro i it b ih_b env  sc  tb  stm  eo  nd  h
    apply tFor_elim h; intro t itx b1 b2 p h
    refine bt h fun h0 h => ?_
    apply ln_elim h0
    apply vName_elim h; intro x px h
    refine bt h fun h1 h => ?_
    refine bt h fun h2 h => ?_
    refine bt h fun h3 h4 => ?_
    exact st_for A0 eo nd h1 h2 (matchE_ok S A0 hC it env sc tb _ eo h3).1 (ih_b env sc tb _ eo nd h4)
  · intro i it b ih_b env  sc  tb  stm  eo  nd  h
    apply tFor_elim h; intro t itx b1 b2 p h
    refine bt h fun h0 h => ?_
    apply ln_elim h0
    apply vName_elim h; intro x px h
    apply vCallN_elim h; intro r pr l q h
    refine bt h fun h2 h => ?_
    refine bt h fun h3 h => ?_
    apply l1_elim h; intro nx h
    refine bt h fun h1 h => ?_
    refine bt h fun h4 h => ?_
    refine bt h fun h5 h6 => ?_
    revert h3
    apply be h2
    intro h3
    exact st_forR S A0 eo nd h1 h3 h4 (matchE_ok S A0 hC it env sc tb _ eo h5).1 (ih_b env sc tb _ eo nd h6)
  · intro i j it b ih_b env  sc  tb  stm  eo  nd  h
    apply tFor_elim h; intro t itx b1 b2 p h
    refine bt h fun h0 h => ?_
    apply ln_elim h0
    apply vTup_elim h; intro l kk q h
    apply l2_elim h; intro a1 a2 h
    refine bt h fun f1 h => ?_
    refine bt h fun f2 h => ?_
    apply vName_elim f1; intro x px h1
    apply vName_elim f2; intro y py h2
    refine bt h fun h3 h => ?_
    refine bt h fun h4 h5 => ?_
    exact st_for2 A0 eo nd h1 h2 h3 (matchE_ok S A0 hC it env sc tb _ eo h4).1 (ih_b env sc tb _ eo nd h5)
  · intro  env  sc  tb  stm  eo  nd  h
    apply tCo_elim h; intro p h
    exact st_cont
  · intro i env  sc  tb  stm  eo  nd  h
    exact absurd h Bool.false_ne_true
  · intro  env  sc  tb  l  eo  nd  h
    apply ln_elim h
    exact ss_nil
  · intro st ss ih_st ih_ss env  sc  tb  l  eo  nd  h
    apply lc_elim h; intro x xs h
    refine bt h fun h1 h2 => ?_
    exact ss_cons (ih_st env sc tb _ eo nd h1) (ih_ss env sc tb _ eo nd h2)
  · intro  env  sc  tb  l  eo  nd  h
    exact ss_any
end
end Mine
namespace Mine
open PySem PySem.W PySem.Calls PyProof.Rows
noncomputable def defHead (s : Stmt) (tb : List Str) : Bool :=
  (dScope s).kind == .function && !(dScope s).isCoroutine && !(dScope s).isGenerator && nodupB tb && tb.take (dPars s).length == dPars s &&
  (dPars s).all (fun x => (dScope s).names.lookup x == some .local || (dScope s).names.lookup x == some .cell) && (dScope s).names.all (fun z => !(z.2 == .free))
noncomputable def defCheck (s : Stmt) (tb : List Str) (t : Ss) : Bool := defHead s tb && matchSs (dScope s) tb t (dBody s)
theorem fn_check : ∀ f : Fn, f ≠ .follow → defCheck f.st f.tab f.txt = true := by
  intro f
  cases f <;> first | (intro _; decide +kernel) | (intro h; exact absurd rfl h)
theorem mt_check : ∀ m : Mt, defCheck m.st m.tab m.txt = true := by
  intro m
  cases m <;> decide +kernel
theorem fn_np : ∀ f : Fn, (dPars f.st).length = f.np := by
  intro f
  cases f <;> decide +kernel
theorem mt_np : ∀ m : Mt, (dPars m.st).length = m.np := by
  intro m
  cases m <;> decide +kernel
end Mine
namespace Mine
open PySem PySem.W PySem.Calls PyProof.Rows
structure HeadOk (st : Stmt) (tb : List Str) : Prop where
  kind : (dScope st).kind = .function
  co : (dScope st).isCoroutine = false
  gen : (dScope st).isGenerator = false
  nd : tb.Nodup
  pars : tb.take (dPars st).length = dPars st
  locs : ∀ x ∈ dPars st, (dScope st).names.lookup x = some .local ∨ (dScope st).names.lookup x = some .cell
  free : ∀ z ∈ (dScope st).names, z.2 ≠ .free
theorem headOk_of {st : Stmt} {tb : List Str} (h : defHead st tb = true) : HeadOk st tb := by
  simp only [defHead, Bool.and_eq_true, beq_iff_eq, Bool.not_eq_true', List.all_eq_true, Bool.or_eq_true] at h
  obtain ⟨⟨⟨⟨⟨⟨h1, h2⟩, h3⟩, h4⟩, h5⟩, h6⟩, h7⟩ := h
  refine ⟨h1, h2, h3, nodup_of h4, h5, fun x hx => h6 x hx, fun z hz e => ?_⟩
  have := h7 z hz
  rw [e] at this
  simp at this
theorem cellsFrom_acc : ∀ (names : List (Str × NameKind)) (k : Nat) (acc : List (Str × Addr)) (nm : Str), (∃ a, acc.lookup nm = some a) → ∃ a, (cellsFrom k names acc).lookup nm = some a
  | [], k, acc, nm, h => h
  | (x, kd) :: r, k, acc, nm, ⟨a, e⟩ => by
    unfold cellsFrom
    split
    · refine cellsFrom_acc r _ _ nm ?_
      rw [List.lookup_cons]
      by_cases q : nm == x
      · rw [q]; exact ⟨_, rfl⟩
      · rw [Bool.eq_false_iff.mpr q]; exact ⟨a, e⟩
    · exact cellsFrom_acc r _ _ nm ⟨a, e⟩
theorem cellsFrom_mem : ∀ (names : List (Str × NameKind)) (k : Nat) (acc : List (Str × Addr)) (nm : Str), (nm, NameKind.cell) ∈ names → ∃ a, (cellsFrom k names acc).lookup nm = some a
  | [], _, _, _, h => nomatch h
  | (x, kd) :: r, k, acc, nm, h => by
    unfold cellsFrom
    rcases List.mem_cons.mp h with e | h
    · cases e
      rw [if_pos (beq_self_eq_true _)]
      exact cellsFrom_acc r _ _ _ ⟨k, by rw [List.lookup_cons, beq_self_eq_true]⟩
    · split
      · exact cellsFrom_mem r _ _ nm h
      · exact cellsFrom_mem r _ _ nm h
theorem bindL_other (kindOf : Str → Option NameKind) : ∀ (binds : List (Str × Value)) (m : Str → Option Value) (nm : Str), (∀ x ∈ binds, x.1 ≠ nm) → bindL kindOf binds m nm = m nm
  | [], _, _, _ => rfl
  | (n, v) :: r, m, nm, h => by
    unfold bindL
    rw [bindL_other kindOf r _ nm fun x hx => h x (List.mem_cons_of_mem _ hx)]
    have hn : nm ≠ n := fun e => h (n, v) (.head _) e.symm
    split
    · dsimp only; rw [if_neg hn]
    · rfl
theorem bindC_other (kindOf : Str → Option NameKind) : ∀ (binds : List (Str × Value)) (m : Str → Option Value) (nm : Str), (∀ x ∈ binds, x.1 ≠ nm) → bindC kindOf binds m nm = m nm
  | [], _, _, _ => rfl
  | (n, v) :: r, m, nm, h => by
    unfold bindC
    rw [bindC_other kindOf r _ nm fun x hx => h x (List.mem_cons_of_mem _ hx)]
    have hn : nm ≠ n := fun e => h (n, v) (.head _) e.symm
    split
    · rfl
    · dsimp only; rw [if_neg hn]
theorem bind_at (kindOf : Str → Option NameKind) : ∀ (names : List Str) (vs : List Value) (m m' : Str → Option Value) (i : Nat) (nm : Str) (v : Value), names.Nodup → names[i]? = some nm → vs[i]? = some v →
    (kindOf nm = some .local → bindL kindOf (names.zip vs) m nm = some v) ∧ (kindOf nm ≠ some .local → bindC kindOf (names.zip vs) m' nm = some v) := by
  intro names
  induction names with
  | nil => intro _ _ _ _ _ _ _ h; cases h
  | cons n r ih =>
    intro vs m m' i nm v nd h1 h2
    cases vs with
    | nil => cases h2
    | cons w vs =>
      cases i with
      | zero =>
        cases h1; cases h2
        have ho : ∀ x ∈ r.zip vs, x.1 ≠ n := fun x hx e => (List.nodup_cons.mp nd).1 (e ▸ (List.of_mem_zip hx).1)
        refine ⟨fun hk => ?_, fun hk => ?_⟩
        · exact (bindL_other kindOf _ _ n ho).trans (by rw [if_pos hk]; simp)
        · exact (bindC_other kindOf _ _ n ho).trans (by rw [if_neg hk]; simp)
      | succ i => exact ⟨fun hk => (ih vs _ m' i nm v (List.nodup_cons.mp nd).2 h1 h2).1 hk, fun hk => (ih vs m _ i nm v (List.nodup_cons.mp nd).2 h1 h2).2 hk⟩
section
variable {c : Cfg} {ρ : Pl} {s : Shared} {H : Hp} {A : Around} {C : CallP} {n : Nat}
theorem callEnv_ok {st : Stmt} {tb : List Str} {fd : FuncData} (hd : HeadOk st tb) (D : DefOk st fd) (L a : Addr) : EnvOk (callEnvC fd L a) (dScope st) := by
  refine ⟨D.scope, hd.kind, D.globals, D.builtins, fun nm hn => ?_⟩
  show ∃ x, (cellsFrom (L + 1) fd.scope.names []).lookup nm = some x
  rw [D.scope]
  rcases hn with hn | hn
  · exact cellsFrom_mem _ _ _ _ (PySem.mem_of_lookup hn)
  · exact absurd rfl (hd.free _ (PySem.mem_of_lookup hn))
theorem call_body (S : Stat c) {st : Stmt} {tb : List Str} {t : Ss} {a : Addr} {o : Obj} {fd : FuncData} {vs : List V} {xs : List Value} {Q : V → Hp → Prop} (hd : HeadOk st tb) (R : RH c ρ H s) (A0 : Room A (n + 2)) (ho : s.heap.get? a = some o)
    (hdata : o.data = .func fd) (D : DefOk st fd) (hclo : fd.closure = []) (hcr : s.heap.CodeRec fd.code fd.qualname) (rs : VRels c ρ s.heap vs xs) (hl : vs.length = (dPars st).length)
    (hb : SSts c (A.deeper (callEnvC fd s.heap.objs.size a)) (callEnvC fd s.heap.objs.size a) tb C t (dBody st)) (w : wpSs C c.scr t vs H (bodyQ Q)) :
    codeAny (model c.prog c.w) A (.call (.ref a) ⟨xs, []⟩) (fun r s' => ∃ v, r = .ok (.ret v) ∧ PE c ρ s Q v s') s := by
  have hxl : xs.length = (dPars st).length := by rw [VRels.length rs, hl]
  have eo := callEnv_ok hd D s.heap.objs.size a
  have hkind : ∀ x ∈ (dPars st).zip xs, fd.scope.names.lookup x.1 = some .local ∨ (fd.scope.names.lookup x.1 = some .cell ∧ ((cellsFrom (s.heap.objs.size + 1) fd.scope.names []).lookup x.1).isSome = true) := fun x hx => by
    rw [D.scope]
    rcases hd.locs x.1 (List.of_mem_zip hx).1 with h | h
    · exact .inl h
    · refine .inr ⟨h, Option.isSome_iff_exists.mpr ?_⟩
      exact cellsFrom_mem _ _ _ _ (PySem.mem_of_lookup h)
  refine codeAny_call_cells (vals := xs) (body := dBody st) (by unfold recursionLimit; have := A0.2.1; (first | lia | omega)) ho hdata (S.nolimit.keeps R.base) hcr D.body (D.binds xs hxl) hclo hkind (fun s₁ x => ?_) (by rw [D.scope]; exact hd.co) (by rw [D.scope]; exact hd.gen) (by rw [D.scope]; exact hd.kind)
  obtain ⟨h₁, tk, rfl⟩ := x.toInCall.same
  have X1 : Still c [] ρ s { s with heap := h₁, toks := tk } := .grown x.toInCall.keep rfl rfl rfl
  have R1 := X1.rh R
  have hL : s.heap.get? s.heap.objs.size = none := get_none_of_le (Nat.le_refl _)
  have oL : Off c ρ h₁ s.heap.objs.size := Off.new R hL (by obtain ⟨o, _, _, e, _⟩ := x.toInCall.ns; exact ⟨o, e⟩)
  have F1 : FrameRel c (callEnvC fd s.heap.objs.size a) tb vs ρ h₁ (bindL (callEnvC fd s.heap.objs.size a).kindOf ((dPars st).zip xs) fun _ => none) := by
    have hpl : (dPars st).length ≤ tb.length := by have := congrArg List.length hd.pars; rw [List.length_take] at this; (first | lia | omega)
    refine ⟨x.toInCall.ns, fun i nm hi hne => ?_, ⟨oL.out, oL.tab, oL.base⟩, by rw [hl]; exact hpl⟩
    have hil : i < vs.length := by
      rcases Nat.lt_or_ge i vs.length with h | h
      · exact h
      · exact absurd (by show vs.getD i .und = _; rw [List.getD_eq_getElem?_getD, List.getElem?_eq_none h]; rfl) hne
    have hp : (dPars st)[i]? = some nm := by
      rw [← hd.pars, List.getElem?_take, if_pos (by (first | lia | omega))]; exact hi
    have hv : vs[i]? = some (getL' vs i) := by
      show _ = some (vs.getD i .und)
      rw [List.getD_eq_getElem?_getD, List.getElem?_eq_getElem hil]; rfl
    obtain ⟨v, e1, e2⟩ := VRels.get rs hv
    have ndp : (dPars st).Nodup := by rw [← hd.pars]; exact hd.nd.sublist (List.take_sublist ..)
    have bb := bind_at (callEnvC fd s.heap.objs.size a).kindOf (dPars st) xs (fun _ => none) (fun _ => none) i nm v ndp hp e1
    refine ⟨v, VRel.mono0 X1.imm e2, ?_⟩
    have hko : (callEnvC fd s.heap.objs.size a).kindOf nm = (dScope st).names.lookup nm := by
      show (callEnvC fd s.heap.objs.size a).scope.names.lookup nm = _
      rw [eo.scope]
    rcases hd.locs nm (List.mem_of_getElem? hp) with h | h
    · exact .inl ⟨hko.trans h, bb.1 (hko.trans h)⟩
    · obtain ⟨ca, hca⟩ := eo.cells nm (.inl h)
      have := x.cell nm ca hca
      rw [bb.2 (by rw [hko, h]; simp)] at this
      exact .inr ⟨.inl (hko.trans h), ca, hca, this⟩
  refine wpAny_mono (hb _ _ _ _ _ _ F1 R1 w) (fun f s2 zz => ?_) fun _ _ f => f.elim
  obtain ⟨ρ2, loc2, H2, m2, fl, R2, X2, F2, fr, q⟩ := zz
  have XX : Ext c [] ρ s ρ2 s2 := X1.ext.shed X2 hL oL.out
  cases fl with
  | next =>
    have : f = .next := fr
    subst this
    exact ⟨_, rfl, ρ2, .none, H2, R2, XX, by simp only [VRel], q⟩
  | cont =>
    have : f = .cont := fr
    subst this
    exact ⟨_, rfl, ρ2, .none, H2, R2, XX, by simp only [VRel], q⟩
  | ret v =>
    obtain ⟨y, rfl, rv⟩ := fr
    exact ⟨y, rfl, ρ2, v, H2, R2, XX, rv, q⟩
theorem call_clo (S : Stat c) {i : Nat} {p : Addr × Addr} {va vb t e : V} {xs : List Value} {Q : V → Hp → Prop} (R : RH c ρ H s) (A0 : Room A (n + 2)) (hC : CallOk c n C) (hi : H[i]? = some (.clo va vb)) (hp : ρ[i]? = some p)
    (rs : VRels c ρ s.heap [t, e] xs) (w : wpSs C c.scr t_vector [t, e, .und, .und, .und, .und, va, vb] H (bodyQ Q)) :
    codeAny (model c.prog c.w) A (.call (.ref p.1) ⟨xs, []⟩) (fun r s' => ∃ v, r = .ok (.ret v) ∧ PE c ρ s Q v s') s := by
  obtain ⟨_, o, fd, c1, c2, v1, v2, e1, e2, e3, D, ecr, l1, l2, k1, k2, r1, r2⟩ := R.objs _ _ _ hi hp
  simp only [VRels] at rs
  obtain ⟨u1, _, rfl, ru1, u2, _, rfl, ru2, rfl⟩ := rs
  have VC : (dScope vecSt).kind = .function ∧ (dScope vecSt).isCoroutine = false ∧ (dScope vecSt).isGenerator = false ∧ nodupB vecTab = true ∧ dPars vecSt = vecTab.take 2 ∧
      matchSs (dScope vecSt) vecTab t_vector (dBody vecSt) = true := by decide +kernel
  obtain ⟨vk, vco, vg, vn, vp, vm⟩ := VC
  have VN : ∀ z ∈ (dScope vecSt).names, z.2 ≠ .cell ∧ (z.2 = .free → z.1 = sHeld ∨ z.1 = sLog) := by decide +kernel
  have VL : ∀ i, i < 8 → (∃ nm, vecTab[i]? = some nm ∧ (dScope vecSt).names.lookup nm = some (if i < 6 then NameKind.local else NameKind.free)) := by decide +kernel
  have ndt := nodup_of vn
  have hlk : ∀ i nm, vecTab[i]? = some nm → (dScope vecSt).names.lookup nm = some (if i < 6 then NameKind.local else NameKind.free) := fun i nm h => by
    have hl : i < 8 := (List.getElem?_eq_some_iff.mp h).1
    obtain ⟨nm', h1, h2⟩ := VL i hl
    rw [h] at h1; cases h1; exact h2
  have heo : ∀ L, EnvOk (callEnv fd L p.1) (dScope vecSt) := fun L => by
    refine ⟨D.scope, vk, D.globals, D.builtins, fun nm hn => ?_⟩
    show ∃ a, fd.closure.lookup nm = some a
    have hm : (nm, NameKind.free) ∈ (dScope vecSt).names := by
      rcases hn with hn | hn
      · exact absurd rfl (VN _ (PySem.mem_of_lookup hn)).1
      · exact PySem.mem_of_lookup hn
    rcases (VN _ hm).2 rfl with h | h
    · exact ⟨c1, by rw [show nm = sHeld from h]; exact l1⟩
    · exact ⟨c2, by rw [show nm = sLog from h]; exact l2⟩
  have hbind := D.binds [u1, u2] (by rw [vp]; rfl)
  have vp2 : dPars vecSt = [Str.ofString "thread", Str.ofString "e"] := vp.trans (by rfl)
  rw [vp2] at hbind
  refine codeAny_call_def (body := dBody vecSt) (by unfold recursionLimit; have := A0.2.1; (first | lia | omega)) e1 e3 (S.nolimit.keeps R.base) ecr D.body (BindsTo.of_eq hbind) (by rw [D.scope]; exact fun z hz => (VN z hz).1) ?_ (fun h₀ hns hk => ?_)
    (by rw [D.scope]; exact vco) (by rw [D.scope]; exact vg) (by rw [D.scope]; exact vk)
  · intro x hx
    rw [D.scope]
    simp only [List.zip_cons_cons, List.zip_nil_right, List.mem_cons, List.not_mem_nil, or_false] at hx
    rcases hx with rfl | rfl
    · exact hlk 0 _ (by rfl)
    · exact hlk 1 _ (by rfl)
  have X1 : Still c [] ρ s { s with heap := h₀, toks := s.toks + ([Str.ofString "thread", Str.ofString "e"].zip [u1, u2]).length } := .grown hk rfl rfl rfl
  have R1' := X1.rh R
  have hL : s.heap.get? s.heap.objs.size = none := get_none_of_le (Nat.le_refl _)
  have oL : Off c ρ h₀ s.heap.objs.size := Off.new R hL (by obtain ⟨o, _, _, e, _⟩ := hns; exact ⟨o, e⟩)
  have eo := heo s.heap.objs.size
  have F1 : FrameRel c (callEnv fd s.heap.objs.size p.1) vecTab [t, e, .und, .und, .und, .und, va, vb] ρ h₀ (fun x => ([Str.ofString "thread", Str.ofString "e"].zip [u1, u2]).reverse.lookup x) := by
    refine ⟨hns, fun i nm hi hne => ?_, ⟨oL.out, oL.tab, oL.base⟩, by show 8 ≤ 8; (first | lia | omega)⟩
    have hko : (callEnv fd s.heap.objs.size p.1).kindOf nm = (dScope vecSt).names.lookup nm := by
      show (callEnv fd s.heap.objs.size p.1).scope.names.lookup nm = _
      rw [eo.scope]
    have hl := hlk i nm hi
    match i, hi, hne, hl with
    | 0, hi, _, hl =>
      cases hi
      exact ⟨u1, VRel.mono0 X1.imm ru1, .inl ⟨hko.trans hl, by rfl⟩⟩
    | 1, hi, _, hl =>
      cases hi
      exact ⟨u2, VRel.mono0 X1.imm ru2, .inl ⟨hko.trans hl, by rfl⟩⟩
    | 2, _, hne, _ => exact absurd rfl hne
    | 3, _, hne, _ => exact absurd rfl hne
    | 4, _, hne, _ => exact absurd rfl hne
    | 5, _, hne, _ => exact absurd rfl hne
    | 6, hi, _, hl =>
      cases hi
      obtain ⟨oc, g1, g2⟩ := k1
      exact ⟨v1, VRel.mono0 X1.imm r1, .inr ⟨.inr (hko.trans hl), c1, l1, oc, X1.imm _ _ g1 (.inr (.inr (.inl ⟨_, g2⟩))), g2⟩⟩
    | 7, hi, _, hl =>
      cases hi
      obtain ⟨oc, g1, g2⟩ := k2
      exact ⟨v2, VRel.mono0 X1.imm r2, .inr ⟨.inr (hko.trans hl), c2, l2, oc, X1.imm _ _ g1 (.inr (.inr (.inl ⟨_, g2⟩))), g2⟩⟩
    | i + 8, hi, _, _ => exact absurd (List.getElem?_eq_some_iff.mp hi).1 (by show ¬ (i + 8 < 8); (first | lia | omega))
  have A1 : Room (A.deeper (callEnv fd s.heap.objs.size p.1)) (n + 1) := ⟨A0.1, by show A.depth + 1 + (n + 1) < 900; have := A0.2.1; (first | lia | omega), by show A.units + 3 + 12 * (n + 1) < 9000; have := A0.2.2; (first | lia | omega)⟩
  refine wpAny_mono (matchSs_ok S A1 hC t_vector _ _ _ _ eo ndt vm _ _ _ _ _ _ F1 R1' w) (fun f s2 zz => ?_) fun _ _ f => f.elim
  obtain ⟨ρ2, loc2, H2, m2, fl, R2, X2, F2, fr, q⟩ := zz
  have XX : Ext c [] ρ s ρ2 s2 := X1.ext.shed X2 hL oL.out
  cases fl with
  | next =>
    have : f = .next := fr
    subst this
    exact ⟨_, rfl, ρ2, .none, H2, R2, XX, by simp only [VRel], q⟩
  | cont =>
    have : f = .cont := fr
    subst this
    exact ⟨_, rfl, ρ2, .none, H2, R2, XX, by simp only [VRel], q⟩
  | ret v =>
    obtain ⟨y, rfl, rv⟩ := fr
    exact ⟨y, rfl, ρ2, v, H2, R2, XX, rv, q⟩
end
end Mine
namespace Mine
open PySem PySem.W PySem.Calls PyProof.Rows
theorem vecSt_eq : vecSt = .FunctionDef (dName vecSt) (dArgs vecSt) (dBody vecSt) [] none [] (dScope vecSt) none (dName vecSt) (dPos vecSt) := by rfl
noncomputable def tailSs : Ss → Ss
  | .cons _ r => r
  | x => x
theorem follow_txt : t_follow = .cons (.def_ 6) (tailSs t_follow) := by rfl
theorem follow_body : dBody Fn.follow.st = vecSt :: (dBody Fn.follow.st).tail := by rfl
theorem follow_check : defHead Fn.follow.st Fn.follow.tab = true ∧ matchSs (dScope Fn.follow.st) Fn.follow.tab (tailSs t_follow) (dBody Fn.follow.st).tail = true := by decide +kernel
theorem follow_names : (dScope Fn.follow.st).names.lookup sHeld = some .cell ∧ (dScope Fn.follow.st).names.lookup sLog = some .cell ∧ (dScope Fn.follow.st).names.lookup (dName vecSt) = some .local ∧
    Fn.follow.tab[2]? = some sHeld ∧ Fn.follow.tab[3]? = some sLog ∧ Fn.follow.tab[6]? = some (dName vecSt) ∧ Fn.follow.str ++ Str.ofString ".<locals>." ++ dName vecSt = vecQual ∧
    (∀ z ∈ (dScope vecSt).names, z.2 = .free → (dScope Fn.follow.st).names.lookup z.1 = some .cell) ∧ (sHeld, NameKind.free) ∈ (dScope vecSt).names ∧ (sLog, NameKind.free) ∈ (dScope vecSt).names := by decide +kernel
section
variable {c : Cfg} {ρ : Pl} {s s' : Shared} {H : Hp} {A : Around} {C : CallP} {n : Nat}
theorem not_imm_tab {ps : Array Value} (h : ∀ q t, ps[1]? ≠ some (.str q t)) : ¬ Imm (tabObj ps) := by
  rintro (⟨e, _⟩ | ⟨fd, e⟩ | ⟨v, e⟩ | ⟨ws, q, t, e, e2⟩)
  · cases e
  · cases e
  · cases e
  · cases e; exact h q t e2
theorem RH.tabbed {h' : Heap} {tk : Tok} {k : Value} (R : RH c ρ H s) (hx : Heap.ExtBut c.tab s.heap h') (ht : h'.get? c.tab = some (tabObj #[rawInt (dPos vecSt).line, rawInt (dPos vecSt).col, k])) (hk : ∃ a, k = .ref a) (hr : h'.CodeRec k vecQual) :
    RH c ρ H { s with heap := h', toks := tk } ∧ ∀ W, Ext c W ρ s ρ { s with heap := h', toks := tk } := by
  obtain ⟨ps, e1, e2, e3⟩ := R.tabs
  have ni : ∀ o, s.heap.get? c.tab = some o → ¬ Imm o := fun o e => by
    rw [e1] at e; cases e
    refine not_imm_tab fun q t h => ?_
    rcases e3 with rfl | ⟨k', rfl, _⟩ <;> simp [rawInt] at h
  have imm : ∀ b o, s.heap.get? b = some o → Imm o → h'.get? b = some o := fun b o e i => hx b o (fun q => ni o (q ▸ e) i) e
  refine ⟨⟨fun b o e => hx b o (fun q => by rw [q, e2] at e; cases e) (R.base b o e), R.len, fun i o p a b => ?_, R.fresh, R.inj, ?_⟩, fun W => ⟨⟨[], by rw [List.append_nil], fun _ h => nomatch h⟩, fun b o e _ _ nt => hx b o nt e, imm, fun b o e _ => ?_, rfl, rfl, rfl⟩⟩
  · obtain ⟨f1, f2, f3, f4⟩ := R.fresh p (List.mem_of_getElem? b)
    have := ORel.mono (τ := []) imm (fun o e => hx _ o f3 e) (fun o e => hx _ o f4 e) (R.objs i o p a b)
    rwa [List.append_nil] at this
  · obtain ⟨a, rfl⟩ := hk
    exact ⟨_, ht, e2, .inr ⟨a, rfl, hr⟩⟩
  · by_cases q : b = c.tab
    · exact ⟨_, q ▸ ht⟩
    · exact ⟨o, hx b o q e⟩
theorem st_def (S : Stat c) {fd : FuncData} {of : Obj} {L a : Addr} (eo : EnvOk (callEnvC fd L a) (dScope Fn.follow.st)) (hf : c.h0.get? (c.fnA .follow) = some of) (hfd : of.data = .func fd) :
    SSt c A (callEnvC fd L a) Fn.follow.tab C (.def_ 6) vecSt := by
  intro loc m ρ H s Q F R w
  obtain ⟨n1, n2, n3, n4, n5, n6, n7, n8, n9, n10⟩ := follow_names
  obtain ⟨q1, q2⟩ := S.folCode _ _ hf hfd
  obtain ⟨cl, hcl, hcl1, hcl2⟩ := closure_ok (env := callEnvC fd L a) (sc := dScope vecSt) (fun z hz hff => eo.cells _ (.inl (n8 z hz hff)))
  have ndt := nodup_of (l := Fn.follow.tab) (by decide +kernel)
  obtain ⟨mg, mb, g1, g2, g3, g4, g5, g6⟩ := S.glob
  obtain ⟨ia, ha, w⟩ := objF w
  obtain ⟨ib, hb, w⟩ := objF w
  obtain ⟨va, rva, vva⟩ := F.vars 2 sHeld n4 (by rw [ha]; simp)
  obtain ⟨vb, rvb, vvb⟩ := F.vars 3 sLog n5 (by rw [hb]; simp)
  rw [ha] at rva
  rw [hb] at rvb
  have hkk : ∀ nm, (callEnvC fd L a).kindOf nm = (dScope Fn.follow.st).names.lookup nm := fun nm => by
    show (callEnvC fd L a).scope.names.lookup nm = _
    rw [eo.scope]
  have cell : ∀ nm v, (dScope Fn.follow.st).names.lookup nm = some .cell → VarAt (callEnvC fd L a) m s.heap nm v → ∃ x, (callEnvC fd L a).cells.lookup nm = some x ∧ s.heap.IsCell x (some v) := fun nm v hn va => by
    rcases va with ⟨h1, _⟩ | ⟨_, x, h2, h3⟩
    · rw [hkk, hn] at h1; cases h1
    · exact ⟨x, h2, h3⟩
  obtain ⟨xa, ca1, ca2⟩ := cell _ _ n1 vva
  obtain ⟨xb, cb1, cb2⟩ := cell _ _ n2 vvb
  have la : cl.lookup sHeld = some xa := by
    obtain ⟨y, hy⟩ := hcl2 _ n9 rfl
    have := hcl1 _ _ hy
    rw [ca1] at this; cases this; exact hy
  have lb : cl.lookup sLog = some xb := by
    obtain ⟨y, hy⟩ := hcl2 _ n10 rfl
    have := hcl1 _ _ hy
    rw [cb1] at this; cases this; exact hy
  have hq : qualnameIn (callEnvC fd L a) (dName vecSt) (dName vecSt) = vecQual := by
    unfold qualnameIn
    rw [hkk, n3]
    show (if (some NameKind.local == some NameKind.globalExplicit) = true then _ else fd.qualname ++ Str.ofString ".<locals>." ++ dName vecSt) = vecQual
    rw [if_neg (by decide), q2, n7]
  -- what stands when the function object is there
  have fin : ∀ (h' : Heap) (tk : Tok) (doc pm ctv : Value) (c' : Addr), RH c ρ H { s with heap := h', toks := tk } → (∀ W, Ext c W ρ s ρ { s with heap := h', toks := tk }) → h'.CodeRec (.ref c') vecQual →
      wpAny (model c.prog c.w) A (storeName (callEnvC fd L a) (dName vecSt) (.ref h'.objs.size)) (fun _ s'' => PF c (callEnvC fd L a) Fn.follow.tab ρ s Q .next s'') NoE
        { s with heap := h'.push (fnMade (dName vecSt) vecQual (dArgs vecSt) (dBody vecSt) (dScope vecSt) cl doc pm c' ctv), toks := tk } := by
    intro h' tk doc pm ctv c' R' X' hr
    have hz : h'.get? h'.objs.size = none := get_none_of_le (s := { s with heap := h', toks := tk }) (Nat.le_refl _)
    have X2 : Still c [] ρ { s with heap := h', toks := tk } { s with heap := h'.push (fnMade (dName vecSt) vecQual (dArgs vecSt) (dBody vecSt) (dScope vecSt) cl doc pm c' ctv), toks := tk } := .grown (fun b o e => Heap.get?_push_of_some _ e) rfl rfl rfl
    have E2 : Ext c [] ρ { s with heap := h', toks := tk } (ρ ++ [(h'.objs.size, h'.objs.size)]) { s with heap := h'.push (fnMade (dName vecSt) vecQual (dArgs vecSt) (dBody vecSt) (dScope vecSt) cl doc pm c' ctv), toks := tk } := .add (p := (h'.objs.size, h'.objs.size)) X2 hz hz
    have XE := (X' []).trans E2
    have cellUp : ∀ x v, s.heap.IsCell x (some v) → (h'.push (fnMade (dName vecSt) vecQual (dArgs vecSt) (dBody vecSt) (dScope vecSt) cl doc pm c' ctv)).IsCell x (some v) := fun x v ⟨o, g1, g2⟩ => ⟨o, XE.imm _ _ g1 (.inr (.inr (.inl ⟨_, g2⟩))), g2⟩
    have hclo : CloAt c (ρ ++ [(h'.objs.size, h'.objs.size)]) (h'.push (fnMade (dName vecSt) vecQual (dArgs vecSt) (dBody vecSt) (dScope vecSt) cl doc pm c' ctv)) h'.objs.size (.obj ia) (.obj ib) := by
      refine ⟨_, _, xa, xb, va, vb, Heap.get?_push_size _ rfl, rfl, rfl, ⟨rfl, rfl, rfl, rfl, fun vs hv => ?_⟩, hr.keeps fun b o e => Heap.get?_push_of_some _ e, la, lb, cellUp _ _ ca2, cellUp _ _ cb2, XE.vrel rva, XE.vrel rvb⟩
      match vs, hv with
      | [u1, u2], _ => rfl
      | [], hv => exact absurd hv (by rw [show (dPars vecSt).length = 2 from by decide +kernel]; simp)
      | [_], hv => exact absurd hv (by rw [show (dPars vecSt).length = 2 from by decide +kernel]; simp)
      | _ :: _ :: _ :: _, hv => exact absurd hv (by rw [show (dPars vecSt).length = 2 from by decide +kernel]; simp)
    have R2 := R'.add (o := .clo (.obj ia) (.obj ib)) (p := (h'.objs.size, h'.objs.size)) X2 hz hz ⟨rfl, hclo⟩
    have F2 := F.ext XE
    have rf : VRel c (ρ ++ [(h'.objs.size, h'.objs.size)]) (h'.push (fnMade (dName vecSt) vecQual (dArgs vecSt) (dBody vecSt) (dScope vecSt) cl doc pm c' ctv)) (.obj H.length) (.ref h'.objs.size) := by
      simp only [VRel]
      exact ⟨_, by rw [← R.len, List.getElem?_append_right (Nat.le_refl _), Nat.sub_self]; rfl, rfl⟩
    exact store_ok eo F2 R2 rf n6 n3 ndt fun s3 m3 X3 F3 => PF.next (((X' [L]).trans (upL F2 E2)).trans X3.ext) (X3.rh R2) F3 w
  have ev : exec vecSt (callEnvC fd L a) = exec (.FunctionDef (dName vecSt) (dArgs vecSt) (dBody vecSt) [] none [] (dScope vecSt) none (dName vecSt) (dPos vecSt)) (callEnvC fd L a) := congrArg (fun x => exec x (callEnvC fd L a)) vecSt_eq
  rw [ev]
  refine nestDef_K (by rfl) (by rfl) (by rfl) ?_
  rw [hq]
  obtain ⟨ps, e1, e2, e3⟩ := R.tabs
  have hgP : mainGlobals ≠ c.tab := by
    obtain ⟨o, _, _, e, _⟩ := g1
    intro q
    rw [q, e2] at e; cases e
  have hb' : s.heap.BuiltinsAt mg c.tab := by
    obtain ⟨bm, o, b1, b2, b3, b4, b5, b6⟩ := g6
    exact ⟨bm, o, b1, b2, b3, b4, R.base _ _ b5, b6⟩
  have hcd : (callEnvC fd L a).code = .ref c.cod := q1
  rcases e3 with rfl | ⟨k, rfl, hr⟩
  · refine makeFunction_K (mg := mg) hcl eo.globals (lift_ns R g1) hcd (S.codeHd.keeps R.base) e1 (by trivial) (by rfl) hgP hb' fun c' ctv doc h' tk hx hge hlt hrec htb => ?_
    obtain ⟨R', X'⟩ := R.tabbed (tk := tk) hx htb ⟨c', rfl⟩ hrec
    exact fin h' tk doc _ ctv c' R' X' hrec
  · refine makeFunction_hit (mg := mg) (cv := .ref k) hcl eo.globals (lift_ns R g1) hcd (S.codeHd.keeps R.base) e1 (by show True; trivial) (codeAmong_snoc (pos := dPos vecSt) (c := .ref k) [] trivial rfl) hb' fun ctv doc h' tk hk hsz => ?_
    have X0 : Still c [] ρ s { s with heap := h', toks := tk } := .grown hk rfl rfl rfl
    exact fin h' tk doc _ ctv k (X0.rh R) (fun W => X0.extW (by simp)) (hr.keeps hk)
theorem callOk_body (S : Stat c) (hC : CallOk c n C) : CallOk c (n + 2) (Body c.scr C) := by
  intro k vs H Q w A ρ s fv xs A0 R ka rs
  have A1 : ∀ env, Room (A.deeper env) (n + 1) := fun env => ⟨A0.1, by show A.depth + 1 + (n + 1) < 900; have := A0.2.1; (first | lia | omega), by show A.units + 3 + 12 * (n + 1) < 9000; have := A0.2.2; (first | lia | omega)⟩
  cases k with
  | fn f =>
    obtain ⟨hl, w⟩ := w
    have ka : fv = .ref (c.fnA f) := ka
    subst ka
    obtain ⟨o, fd, e1, e2, D, e4, e5⟩ := S.fn f
    have hl' : vs.length = (dPars f.st).length := by rw [hl, fn_np]
    by_cases hf : f = .follow
    · subst hf
      have hd := headOk_of follow_check.1
      refine call_body S hd R A0 (R.base _ _ e1) e2 D e4 (e5.keeps R.base) rs hl' ?_ w
      have eo := callEnv_ok hd D s.heap.objs.size (c.fnA .follow)
      show SSts c _ _ _ C t_follow _
      rw [follow_txt, follow_body]
      exact ss_cons (st_def S eo e1 e2) (matchSs_ok S (A1 _) hC _ _ _ _ _ eo hd.nd follow_check.2)
    · have hc := fn_check f hf
      simp only [defCheck, Bool.and_eq_true] at hc
      have hd := headOk_of hc.1
      exact call_body S hd R A0 (R.base _ _ e1) e2 D e4 (e5.keeps R.base) rs hl' (matchSs_ok S (A1 _) hC _ _ _ _ _ (callEnv_ok hd D _ _) hd.nd hc.2) w
  | mt m =>
    obtain ⟨hl, w⟩ := w
    have ka : fv = .ref (c.mtA m) := ka
    subst ka
    obtain ⟨o, fd, e1, e2, D, e4, e5⟩ := S.mt m
    have hl' : vs.length = (dPars m.st).length := by rw [hl, mt_np]
    have hc := mt_check m
    simp only [defCheck, Bool.and_eq_true] at hc
    have hd := headOk_of hc.1
    exact call_body S hd R A0 (R.base _ _ e1) e2 D e4 (e5.keeps R.base) rs hl' (matchSs_ok S (A1 _) hC _ _ _ _ _ (callEnv_ok hd D _ _) hd.nd hc.2) w
  | clo i =>
    obtain ⟨p, hp, e⟩ := ka
    subst e
    obtain ⟨a, b, hi, w⟩ := clo2F w
    obtain ⟨t, e, rfl, w⟩ := twoF w
    exact call_clo S R A0 hC hi hp rs w
theorem callOk_n (S : Stat c) : ∀ k, CallOk c (2 * k) (Cn c.scr k)
  | 0 => fun _ _ _ _ w => w.elim
  | k + 1 => callOk_body S (callOk_n S k)
end
end Mine
namespace Mine
theorem co_inj {a b : List V} (h : CO.list a = CO.list b) : a = b := by cases h; rfl
theorem at_set_self {H : Hp} {i : Nat} {o o' : CO} (h : H[i]? = some o) : (H.set i o')[i]? = some o' := by
  rw [List.getElem?_set_self (List.getElem?_eq_some_iff.mp h).1]
theorem at_set_ne {H : Hp} {i j : Nat} {o o' : CO} (h : H[j]? = some o) (hne : i ≠ j) : (H.set i o')[j]? = some o := by
  rw [List.getElem?_set_ne hne]; exact h
theorem at_add {H : Hp} {i : Nat} {o : CO} {l : Hp} (h : H[i]? = some o) : (H ++ l)[i]? = some o := by
  rw [List.getElem?_append_left (List.getElem?_eq_some_iff.mp h).1]; exact h
theorem at_new {H : Hp} {o : CO} : (H ++ [o])[H.length]? = some o := by
  rw [List.getElem?_append_right (Nat.le_refl _), Nat.sub_self]; rfl
theorem lt_at {H : Hp} {i : Nat} {o : CO} (h : H[i]? = some o) : i < H.length := (List.getElem?_eq_some_iff.mp h).1
noncomputable def BagIs (H : Hp) (b : Nat) (x y : Int) (l : List Int) : Prop := H[b]? = some (.list (.int x :: .int y :: l.map V.int)) ∧ 0 ≤ y ∧ y < 4294967296 ∧ l.length ≤ 20
noncomputable def BagAt (H : Hp) (b : Nat) : Prop := ∃ x y l, BagIs H b x y l
noncomputable def But (b : Nat) (H H' : Hp) : Prop := H'.length = H.length ∧ ∀ j, j ≠ b → H'[j]? = H[j]?
theorem But.refl {b : Nat} {H : Hp} : But b H H := ⟨rfl, fun _ _ => rfl⟩
theorem But.trans {b : Nat} {H H' H'' : Hp} (x : But b H H') (y : But b H' H'') : But b H H'' := ⟨y.1.trans x.1, fun j hj => (y.2 j hj).trans (x.2 j hj)⟩
theorem But.set {b : Nat} {H : Hp} {o : CO} : But b H (H.set b o) := ⟨List.length_set, fun j hj => List.getElem?_set_ne (Ne.symm hj)⟩
variable {scr : List Int}
theorem binI_fmod {a b : Int} (h : b ≠ 0) (h2 : b.natAbs < 1000000000000) : binI .fmod a b = some (a.fmod b) := by
  show (if b ≠ 0 ∧ b.natAbs < 1000000000000 then some (a.fmod b) else none) = _
  rw [if_pos ⟨h, h2⟩]
theorem binI_fdiv {a b : Int} (h : b ≠ 0) (h2 : b.natAbs < 1000000000) : binI .fdiv a b = some (a.fdiv b) := by
  show (if b ≠ 0 ∧ b.natAbs < 1000000000 then some (a.fdiv b) else none) = _
  rw [if_pos ⟨h, h2⟩]
theorem binI_mul {a b : Int} (h : (small a || small b) = true) : binI .mul a b = some (a * b) := by
  show (if (small a || small b) = true then some (a * b) else none) = _
  rw [if_pos h]
noncomputable def V.ok : V → Prop
  | .und => False
  | _ => True
theorem ne_of_ok {v : V} (h : v.ok) : v ≠ .und := by rintro rfl; exact h
theorem guI {v : V} {P : Prop} (k : v.ok) (q : P) : v ≠ .und ∧ P := ⟨ne_of_ok k, q⟩
theorem gnI {n : Nat} {P : Prop} (q : P) : 0 ≤ (n : Int) ∧ P := ⟨Int.natCast_nonneg n, q⟩
theorem gtI {P : Prop} (q : P) : True ∧ P := ⟨True.intro, q⟩
theorem gsI {i : Int} {P : Prop} (e : small i = true) (q : P) : small i = true ∧ P := ⟨e, q⟩
theorem gcI {a b : Cls} {P : Prop} (e : a = b) (q : P) : a = b ∧ P := ⟨e, q⟩
theorem le1 {a b n : Nat} (h : a ≤ n) (d : Nat.ble b a = true) : b ≤ n := Nat.le_trans (Nat.le_of_ble_eq_true d) h
theorem le2 {a b n : Nat} (h : a ≤ n + 1) (d : Nat.ble (b + 1) a = true) : b ≤ n := Nat.le_of_succ_le_succ (le1 h d)
set_option maxHeartbeats 1000000 in
theorem pull_tail {H : Hp} {b : Nat} {x y : Int} {l : List Int} {cell : List V} {many : Int} {Q : V → Hp → Prop} (k : Nat) (hm : 1 ≤ many) (hm2 : many < 1000) (hb : H[b]? = some (.list (.int x :: .int y :: l.map V.int)))
    (hc : cell = [] ∨ ∃ v, cell = [v]) (h : ∀ r x', 0 ≤ r → r < many → Q (.int r) (H.set b (.list (.int x' :: .int y :: l.map V.int)))) :
    wpSs (Cn scr k) scr (match t_pull with | .cons _ r => r | r => r) (.obj b :: .int many :: cell) H (bodyQ Q) := by
  have r0 : 0 ≤ x.fmod many := Int.fmod_nonneg_of_pos _ (by omega)
  have r1 : x.fmod many < many := Int.fmod_lt_of_pos _ (by omega)
  rcases hc with rfl | ⟨v, rfl⟩
  all_goals
    repeat (first | refine guI True.intro ?_ | refine insI hb ?_ | refine lisI hb ?_ | refine cloI hb ?_ | refine optI hb ?_ | refine gnI ?_ | refine gtI ?_ | refine gsI rfl ?_| ((conv => whnf); first | rw [hb] ))
    conv => whnf
    rw [binI_fmod (by omega) (by omega)]
    repeat (first | refine guI True.intro ?_ | refine insI hb ?_ | refine lisI hb ?_ | refine cloI hb ?_ | refine optI hb ?_ | refine gnI ?_ | refine gtI ?_ | refine gsI rfl ?_| ((conv => whnf); first | rw [hb] ))
    conv => whnf
    rw [binI_fdiv (by omega) (by omega)]
    repeat (first | refine guI True.intro ?_ | refine insI hb ?_ | refine lisI hb ?_ | refine cloI hb ?_ | refine optI hb ?_ | refine gnI ?_ | refine gtI ?_ | refine gsI rfl ?_| ((conv => whnf); first | rw [hb] ))
    conv => whnf
    refine ⟨by simp, ?_⟩
    repeat (first | refine guI True.intro ?_ | refine insI hb ?_ | refine lisI hb ?_ | refine cloI hb ?_ | refine optI hb ?_ | refine gnI ?_ | refine gtI ?_ | refine gsI rfl ?_| ((conv => whnf); first | rw [hb] ))
    conv => whnf
    exact h _ _ r0 r1
set_option maxHeartbeats 1000000 in
theorem pull_ok {H : Hp} {b : Nat} {many : Int} {Q : V → Hp → Prop} (k : Nat) (B : BagAt H b) (hm : 1 ≤ many) (hm2 : many < 1000)
    (h : ∀ r H', 0 ≤ r → r < many → BagAt H' b → But b H H' → Q (.int r) H') : Cn scr (k + 1) (.fn .pull) [.obj b, .int many] H Q := by
  obtain ⟨x, y, l, hb, y0, y1, ll⟩ := B
  have ss : ∀ (o o' : CO), (H.set b o).set b o' = H.set b o' := fun o o' => List.set_set ..
  have fin : ∀ (x' y' : Int) (l' : List Int) (cell : List V), (cell = [] ∨ ∃ v, cell = [v]) → 0 ≤ y' → y' < 4294967296 → l'.length ≤ 20 →
      wpSs (Cn scr k) scr (match t_pull with | .cons _ r => r | r => r) (.obj b :: .int many :: cell) (H.set b (.list (.int x' :: .int y' :: l'.map V.int))) (bodyQ Q) := fun x' y' l' cell hc h0 h1 h2 =>
    pull_tail k hm hm2 (at_set_self hb) hc fun r x'' r0 r1 => h r _ r0 r1 ⟨x'', y', l', at_set_self (at_set_self hb), h0, h1, h2⟩ (But.set.trans But.set)
  refine ⟨rfl, ?_⟩
  repeat (first | refine guI True.intro ?_ | refine insI hb ?_ | refine lisI hb ?_ | refine cloI hb ?_ | refine optI hb ?_ | refine gnI ?_ | refine gtI ?_ | refine gsI rfl ?_| ((conv => whnf); first | rw [hb] ))
  conv => whnf
  cases h0 : (decide (x = 0))
  · exact pull_tail (cell := []) (x := x) (y := y) (l := l) k hm hm2 hb (.inl rfl) fun r x' r0 r1 => h r _ r0 r1 ⟨x', y, l, at_set_self hb, y0, y1, ll⟩ But.set
  · repeat (first | refine guI True.intro ?_ | refine insI hb ?_ | refine lisI hb ?_ | refine cloI hb ?_ | refine optI hb ?_ | refine gnI ?_ | refine gtI ?_ | refine gsI rfl ?_| ((conv => whnf); first | rw [hb] ))
    refine ⟨by simp; omega, ?_⟩
    repeat (first | refine guI True.intro ?_ | refine insI hb ?_ | refine lisI hb ?_ | refine cloI hb ?_ | refine optI hb ?_ | refine gnI ?_ | refine gtI ?_ | refine gsI rfl ?_| ((conv => whnf); first | rw [hb] ))
    conv => whnf
    cases h1 : decide ((2 : Int) < ↑(V.int x :: V.int y :: List.map V.int l).length)
    · repeat (first | refine guI True.intro ?_ | refine insI hb ?_ | refine lisI hb ?_ | refine cloI hb ?_ | refine optI hb ?_ | refine gnI ?_ | refine gtI ?_ | refine gsI rfl ?_| ((conv => whnf); first | rw [hb] ))
      conv => whnf
      rw [binI_mul (by simp [small])]
      repeat (first | refine guI True.intro ?_ | refine insI hb ?_ | refine lisI hb ?_ | refine cloI hb ?_ | refine optI hb ?_ | refine gnI ?_ | refine gtI ?_ | refine gsI rfl ?_| ((conv => whnf); first | rw [hb] ))
      conv => whnf
      refine ⟨by simp, ?_⟩
      repeat (first | refine guI True.intro ?_ | refine insI (at_set_self (at_set_self hb)) ?_ | refine lisI (at_set_self (at_set_self hb)) ?_ | refine cloI (at_set_self (at_set_self hb)) ?_ | refine optI (at_set_self (at_set_self hb)) ?_ | refine insI (at_set_self hb) ?_ | refine lisI (at_set_self hb) ?_ | refine cloI (at_set_self hb) ?_ | refine optI (at_set_self hb) ?_ | refine insI hb ?_ | refine lisI hb ?_ | refine cloI hb ?_ | refine optI hb ?_ | refine gnI ?_ | refine gtI ?_ | refine gsI rfl ?_| ((conv => whnf); first | rw [at_set_self (at_set_self hb)] | rw [at_set_self hb] | rw [hb] ))
      conv => whnf
      refine ⟨by simp, rfl, ?_⟩
      rw [ss]
      have f0 : 0 ≤ (y * 69069 + 12345).fmod 4294967296 := Int.fmod_nonneg_of_pos _ (by omega)
      have f1 : (y * 69069 + 12345).fmod 4294967296 < 4294967296 := Int.fmod_lt_of_pos _ (by omega)
      exact fin _ _ l [] (.inl rfl) f0 f1 ll
    · cases l with
      | nil => simp at h1
      | cons z l =>
        repeat (first | refine guI True.intro ?_ | refine insI hb ?_ | refine lisI hb ?_ | refine cloI hb ?_ | refine optI hb ?_ | refine gnI ?_ | refine gtI ?_ | refine gsI rfl ?_| ((conv => whnf); first | rw [hb] ))
        conv => whnf
        refine ⟨by simp at ll ⊢; omega, ?_⟩
        repeat (first | refine guI True.intro ?_ | refine insI (at_set_self (at_set_self hb)) ?_ | refine lisI (at_set_self (at_set_self hb)) ?_ | refine cloI (at_set_self (at_set_self hb)) ?_ | refine optI (at_set_self (at_set_self hb)) ?_ | refine insI (at_set_self hb) ?_ | refine lisI (at_set_self hb) ?_ | refine cloI (at_set_self hb) ?_ | refine optI (at_set_self hb) ?_ | refine insI hb ?_ | refine lisI hb ?_ | refine cloI hb ?_ | refine optI hb ?_ | refine gnI ?_ | refine gtI ?_ | refine gsI rfl ?_| ((conv => whnf); first | rw [at_set_self (at_set_self hb)] | rw [at_set_self hb] | rw [hb] ))
        conv => whnf
        have ll' : l.length ≤ 20 := by simp at ll; omega
        cases h2 : decide (0 ≤ z)
        · repeat (first | refine guI True.intro ?_ | refine insI (at_set_self (at_set_self hb)) ?_ | refine lisI (at_set_self (at_set_self hb)) ?_ | refine cloI (at_set_self (at_set_self hb)) ?_ | refine optI (at_set_self (at_set_self hb)) ?_ | refine insI (at_set_self hb) ?_ | refine lisI (at_set_self hb) ?_ | refine cloI (at_set_self hb) ?_ | refine optI (at_set_self hb) ?_ | refine insI hb ?_ | refine lisI hb ?_ | refine cloI hb ?_ | refine optI hb ?_ | refine gnI ?_ | refine gtI ?_ | refine gsI rfl ?_| ((conv => whnf); first | rw [at_set_self (at_set_self hb)] | rw [at_set_self hb] | rw [hb] ))
          conv => whnf
          refine ⟨by simp, rfl, ?_⟩
          rw [ss]
          exact fin _ _ l [_] (.inr ⟨_, rfl⟩) y0 y1 ll'
        · repeat (first | refine guI True.intro ?_ | refine insI (at_set_self (at_set_self hb)) ?_ | refine lisI (at_set_self (at_set_self hb)) ?_ | refine cloI (at_set_self (at_set_self hb)) ?_ | refine optI (at_set_self (at_set_self hb)) ?_ | refine insI (at_set_self hb) ?_ | refine lisI (at_set_self hb) ?_ | refine cloI (at_set_self hb) ?_ | refine optI (at_set_self hb) ?_ | refine insI hb ?_ | refine lisI hb ?_ | refine cloI hb ?_ | refine optI hb ?_ | refine gnI ?_ | refine gtI ?_ | refine gsI rfl ?_| ((conv => whnf); first | rw [at_set_self (at_set_self hb)] | rw [at_set_self hb] | rw [hb] ))
          conv => whnf
          refine ⟨by simp, rfl, ?_⟩
          rw [ss]
          exact fin _ _ l [_] (.inr ⟨_, rfl⟩) y0 y1 ll'
end Mine
namespace Mine
inductive X where
  | var (s a : Nat)
  | const (w a b : Nat)
  | below (s n : Nat)
noncomputable def X.v : X → V
  | .var s a => .tup [.str .kVar, .int 3, .int s, .int a]
  | .const w a b => .tup [.str .kConst, .int w, .int a, .int b]
  | .below s n => .tup [.str .kBelow, .int 1, .int s, .int n]
noncomputable def X.word : X → Prop
  | .var s a => s < 3 ∧ a < 8
  | .const w a b => w = 3 ∧ a < 8 ∧ b < 8
  | .below _ _ => False
noncomputable def X.test : X → Prop
  | .var s a => s < 3 ∧ a = 0
  | .const w a b => w = 1 ∧ a < 2 ∧ b < 2
  | .below s n => s < 3 ∧ n < 8
theorem X.v_ok (e : X) : e.v.ok := by cases e <;> trivial
variable {scr : List Int}
theorem pull_nat {H : Hp} {b : Nat} {many : Int} {Q : V → Hp → Prop} (k : Nat) (B : BagAt H b) (hm : 1 ≤ many) (hm2 : many < 1000)
    (h : ∀ (r : Nat) H', (r : Int) < many → BagAt H' b → But b H H' → Q (.int r) H') : Cn scr (k + 1) (.fn .pull) [.obj b, .int many] H Q :=
  pull_ok k B hm hm2 fun r H' r0 r1 B' bt => by
    have e : ((r.toNat : Nat) : Int) = r := Int.toNat_of_nonneg r0
    rw [← e]
    exact h r.toNat H' (by (first | lia | omega)) B' bt
theorem word_ok {H : Hp} {b : Nat} {Q : V → Hp → Prop} (k : Nat) (B : BagAt H b) (h : ∀ (e : X) H', e.word → BagAt H' b → But b H H' → Q e.v H') : Cn scr (k + 2) (.fn .word) [.obj b] H Q := by
  refine ⟨rfl, ?_⟩
  repeat (first | refine guI True.intro ?_ | refine gnI ?_ | refine gtI ?_ | refine gsI rfl ?_)
  refine pull_nat k B (by (first | lia | omega)) (by (first | lia | omega)) fun r H1 r1 B1 b1 => ?_
  repeat (first | refine guI True.intro ?_ | refine gnI ?_ | refine gtI ?_ | refine gsI rfl ?_)
  conv => whnf
  cases h0 : decide ((r : Int) = 0)
  · repeat (first | refine guI True.intro ?_ | refine gnI ?_ | refine gtI ?_ | refine gsI rfl ?_)
    refine pull_nat k B1 (by (first | lia | omega)) (by (first | lia | omega)) fun r2 H2 r2b B2 b2 => ?_
    repeat (first | refine guI True.intro ?_ | refine gnI ?_ | refine gtI ?_ | refine gsI rfl ?_)
    conv => whnf
    cases h1 : decide ((r2 : Int) = 0)
    · repeat (first | refine guI True.intro ?_ | refine gnI ?_ | refine gtI ?_ | refine gsI rfl ?_)
      refine pull_nat k B2 (by (first | lia | omega)) (by (first | lia | omega)) fun r3 H3 r3b B3 b3 => ?_
      repeat (first | refine guI True.intro ?_ | refine gnI ?_ | refine gtI ?_ | refine gsI rfl ?_)
      exact h (.const 3 r3 0) H3 ⟨rfl, by (first | lia | omega), by (first | lia | omega)⟩ B3 ((b1.trans b2).trans b3)
    · repeat (first | refine guI True.intro ?_ | refine gnI ?_ | refine gtI ?_ | refine gsI rfl ?_)
      refine pull_nat k B2 (by (first | lia | omega)) (by (first | lia | omega)) fun r3 H3 r3b B3 b3 => ?_
      repeat (first | refine guI True.intro ?_ | refine gnI ?_ | refine gtI ?_ | refine gsI rfl ?_)
      refine pull_nat k B3 (by (first | lia | omega)) (by (first | lia | omega)) fun r4 H4 r4b B4 b4 => ?_
      repeat (first | refine guI True.intro ?_ | refine gnI ?_ | refine gtI ?_ | refine gsI rfl ?_)
      exact h (.const 3 r4 r3) H4 ⟨rfl, by (first | lia | omega), by (first | lia | omega)⟩ B4 (((b1.trans b2).trans b3).trans b4)
  · repeat (first | refine guI True.intro ?_ | refine gnI ?_ | refine gtI ?_ | refine gsI rfl ?_)
    refine pull_nat k B1 (by (first | lia | omega)) (by (first | lia | omega)) fun r2 H2 r2b B2 b2 => ?_
    repeat (first | refine guI True.intro ?_ | refine gnI ?_ | refine gtI ?_ | refine gsI rfl ?_)
    refine pull_nat k B2 (by (first | lia | omega)) (by (first | lia | omega)) fun r3 H3 r3b B3 b3 => ?_
    repeat (first | refine guI True.intro ?_ | refine gnI ?_ | refine gtI ?_ | refine gsI rfl ?_)
    exact h (.var r2 r3) H3 ⟨by (first | lia | omega), by (first | lia | omega)⟩ B3 ((b1.trans b2).trans b3)
theorem test_ok {H : Hp} {b : Nat} {Q : V → Hp → Prop} (k : Nat) (B : BagAt H b) (h : ∀ (e : X) H', e.test → BagAt H' b → But b H H' → Q e.v H') : Cn scr (k + 2) (.fn .test) [.obj b] H Q := by
  refine ⟨rfl, ?_⟩
  repeat (first | refine guI True.intro ?_ | refine gnI ?_ | refine gtI ?_ | refine gsI rfl ?_)
  refine pull_nat k B (by (first | lia | omega)) (by (first | lia | omega)) fun r H1 r1 B1 b1 => ?_
  repeat (first | refine guI True.intro ?_ | refine gnI ?_ | refine gtI ?_ | refine gsI rfl ?_)
  conv => whnf
  cases h0 : decide ((r : Int) = 0)
  · repeat (first | refine guI True.intro ?_ | refine gnI ?_ | refine gtI ?_ | refine gsI rfl ?_)
    conv => whnf
    cases h1 : decide ((r : Int) = 1)
    · repeat (first | refine guI True.intro ?_ | refine gnI ?_ | refine gtI ?_ | refine gsI rfl ?_)
      refine pull_nat k B1 (by (first | lia | omega)) (by (first | lia | omega)) fun r2 H2 r2b B2 b2 => ?_
      repeat (first | refine guI True.intro ?_ | refine gnI ?_ | refine gtI ?_ | refine gsI rfl ?_)
      refine pull_nat k B2 (by (first | lia | omega)) (by (first | lia | omega)) fun r3 H3 r3b B3 b3 => ?_
      repeat (first | refine guI True.intro ?_ | refine gnI ?_ | refine gtI ?_ | refine gsI rfl ?_)
      exact h (.below r2 r3) H3 ⟨by (first | lia | omega), by (first | lia | omega)⟩ B3 ((b1.trans b2).trans b3)
    · repeat (first | refine guI True.intro ?_ | refine gnI ?_ | refine gtI ?_ | refine gsI rfl ?_)
      refine pull_nat k B1 (by (first | lia | omega)) (by (first | lia | omega)) fun r2 H2 r2b B2 b2 => ?_
      repeat (first | refine guI True.intro ?_ | refine gnI ?_ | refine gtI ?_ | refine gsI rfl ?_)
      refine pull_nat k B2 (by (first | lia | omega)) (by (first | lia | omega)) fun r3 H3 r3b B3 b3 => ?_
      repeat (first | refine guI True.intro ?_ | refine gnI ?_ | refine gtI ?_ | refine gsI rfl ?_)
      exact h (.const 1 r2 r3) H3 ⟨rfl, by (first | lia | omega), by (first | lia | omega)⟩ B3 ((b1.trans b2).trans b3)
  · repeat (first | refine guI True.intro ?_ | refine gnI ?_ | refine gtI ?_ | refine gsI rfl ?_)
    refine pull_nat k B1 (by (first | lia | omega)) (by (first | lia | omega)) fun r2 H2 r2b B2 b2 => ?_
    repeat (first | refine guI True.intro ?_ | refine gnI ?_ | refine gtI ?_ | refine gsI rfl ?_)
    exact h (.var r2 0) H2 ⟨by (first | lia | omega), rfl⟩ B2 (b1.trans b2)
theorem store_fn_ok {H : Hp} {b : Nat} {Q : V → Hp → Prop} (k : Nat) (B : BagAt H b)
    (h : ∀ (s : Nat) (e : X) H', s < 3 → e.word → BagAt H' b → But b H H' → Q (.tup [.str .kSet, .int s, e.v, .none]) H') : Cn scr (k + 3) (.fn .store) [.obj b] H Q := by
  refine ⟨rfl, ?_⟩
  repeat (first | refine guI True.intro ?_ | refine gnI ?_ | refine gtI ?_ | refine gsI rfl ?_)
  refine pull_nat (k + 1) B (by (first | lia | omega)) (by (first | lia | omega)) fun r H1 r1 B1 b1 => ?_
  repeat (first | refine guI True.intro ?_ | refine gnI ?_ | refine gtI ?_ | refine gsI rfl ?_)
  refine word_ok k B1 fun e H2 he B2 b2 => ?_
  repeat (first | refine guI True.intro ?_ | refine gnI ?_ | refine gtI ?_ | refine gsI rfl ?_)
  exact h r e H2 (by (first | lia | omega)) he B2 (b1.trans b2)
end Mine
namespace Mine
noncomputable def rowV (r : List Nat) : List V := r.map fun (c : Nat) => V.int c
noncomputable def total (r : List Nat) : Nat := r.getD 0 0 + 2 * r.getD 1 0 + 4 * r.getD 2 0
noncomputable def wide (r : List Nat) : Bool := r.any fun c => decide (1 < c)
noncomputable def X.codes (hd : Nat → List Nat) : X → List Nat
  | .const w a b => (List.range w).map fun i => a / 2 ^ i % 2 + 2 * (b / 2 ^ i % 2)
  | .var s a => if a = 0 then hd s else if wide (hd s) then [3, 3, 3] else [(total (hd s) + a) % 8 % 2, (total (hd s) + a) % 8 / 2 % 2, (total (hd s) + a) % 8 / 4]
  | .below s n => if wide (hd s) then [3] else [if total (hd s) < n then 1 else 0]
noncomputable def Row3 (r : List Nat) : Prop := ∃ a b c, r = [a, b, c] ∧ a < 4 ∧ b < 4 ∧ c < 4
noncomputable def HeldAt (H : Hp) (h : Nat) (hd : Nat → List Nat) : Prop :=
  ∃ vs : List V, H[h]? = some (.list vs) ∧ vs.length = 3 ∧ ∀ s, s < 3 → Row3 (hd s) ∧ ∃ j, vs[s]? = some (.obj j) ∧ H[j]? = some (.list (rowV (hd s)))
theorem HeldAt.get {H : Hp} {h : Nat} {hd : Nat → List Nat} (x : HeldAt H h hd) {s : Nat} (hs : s < 3) : ∃ (vs : List V) (j a b c : Nat), H[h]? = some (.list vs) ∧ pyGet vs s = some (.obj j) ∧ H[j]? = some (.list [.int a, .int b, .int c]) ∧ hd s = [a, b, c] ∧ a < 4 ∧ b < 4 ∧ c < 4 := by
  obtain ⟨vs, e1, e2, e3⟩ := x
  obtain ⟨⟨a, b, c, e4, ha, hb, hc⟩, j, e5, e6⟩ := e3 s hs
  refine ⟨vs, j, a, b, c, e1, ?_, ?_, e4, ha, hb, hc⟩
  · unfold pyGet
    rw [if_pos (Int.natCast_nonneg s), Int.toNat_natCast]; exact e5
  · rw [e6, e4]; rfl
theorem wide_eq (a b c : Nat) : decide ((1 : Int) < max (a : Int) (max (b : Int) (c : Int))) = wide [a, b, c] := by
  have l {x y : Int} : 1 < max x y ↔ 1 < x ∨ 1 < y := by rw [← Int.not_le, Int.max_le, Classical.not_and_iff_not_or_not, Int.not_le, Int.not_le]
  have h : ((1 : Int) < max (a : Int) (max (b : Int) (c : Int))) ↔ (1 < a ∨ 1 < b ∨ 1 < c) := l.trans (or_congr Int.ofNat_lt (l.trans (or_congr Int.ofNat_lt Int.ofNat_lt)))
  have e : wide [a, b, c] = decide (1 < a ∨ 1 < b ∨ 1 < c) := by simp [wide]
  rw [e]
  exact decide_eq_decide.mpr h
variable {scr : List Int}
theorem small_nat {n : Nat} (h : n < 1000000) : small (n : Int) = true := by simp [small]; (first | lia | omega)
theorem bit_eq (a i : Nat) : ((a : Int).fdiv (2 ^ i)).fmod 2 = ((a / 2 ^ i % 2 : Nat) : Int) := by
  have e : (2 : Int) ^ i = ((2 ^ i : Nat) : Int) := by simp
  rw [e, Int.fdiv_eq_ediv_of_nonneg _ (Int.natCast_nonneg _), ← Int.natCast_ediv, Int.fmod_eq_emod_of_nonneg _ (by (first | lia | omega))]
  (first | lia | omega)
noncomputable def X.fit (e : X) : Prop := e.word ∨ e.test
theorem codes_ok {H : Hp} {h : Nat} {hd : Nat → List Nat} {e : X} {Q : V → Hp → Prop} (k : Nat) (he : e.fit) (hh : HeldAt H h hd) (q : ∀ T j, H.length ≤ j → (H ++ T)[j]? = some (.list (rowV (e.codes hd))) → Q (.obj j) (H ++ T)) :
    Cn scr (k + 1) (.fn .codes) [e.v, .obj h] H Q := by
  refine ⟨rfl, ?_⟩
  cases e with
  | const w a b =>
    have hw : w = 3 ∨ w = 1 := by rcases he with h | h; exact .inl h.1; exact .inr h.1
    rcases hw with rfl | rfl
    · repeat ((conv => whnf); first | refine ⟨ne_of_ok True.intro, ?_⟩ | refine ⟨Int.natCast_nonneg _, ?_⟩ | refine ⟨True.intro, ?_⟩ | refine ⟨(rfl : small _ = true), ?_⟩)
      have e : rowV (X.codes hd (.const 3 a b)) = [V.int (((a : Int).fdiv (2 ^ 0)).fmod 2 + 2 * ((b : Int).fdiv (2 ^ 0)).fmod 2), V.int (((a : Int).fdiv (2 ^ 1)).fmod 2 + 2 * ((b : Int).fdiv (2 ^ 1)).fmod 2), V.int (((a : Int).fdiv (2 ^ 2)).fmod 2 + 2 * ((b : Int).fdiv (2 ^ 2)).fmod 2)] := by
        rw [bit_eq, bit_eq, bit_eq, bit_eq, bit_eq, bit_eq]; rfl
      exact q _ _ (Nat.le_refl _) (by rw [e]; exact at_new)
    · repeat ((conv => whnf); first | refine ⟨ne_of_ok True.intro, ?_⟩ | refine ⟨Int.natCast_nonneg _, ?_⟩ | refine ⟨True.intro, ?_⟩ | refine ⟨(rfl : small _ = true), ?_⟩)
      have e : rowV (X.codes hd (.const 1 a b)) = [V.int (((a : Int).fdiv (2 ^ 0)).fmod 2 + 2 * ((b : Int).fdiv (2 ^ 0)).fmod 2)] := by
        rw [bit_eq, bit_eq]; rfl
      exact q _ _ (Nat.le_refl _) (by rw [e]; exact at_new)
  | var s a =>
    have hs : s < 3 := by rcases he with h | h <;> exact h.1
    obtain ⟨vs, j, c0, c1, c2, e1, e2, e3, e4, h0, h1, h2⟩ := hh.get hs
    repeat ((conv => whnf); first | refine ⟨ne_of_ok True.intro, ?_⟩ | rw [e1] | rw [e2] | rw [e3] | refine ⟨Int.natCast_nonneg _, ?_⟩ | refine ⟨True.intro, ?_⟩ | refine ⟨(rfl : small _ = true), ?_⟩)
    refine ⟨small_nat (by (first | lia | omega)), ?_⟩
    repeat ((conv => whnf); first | refine ⟨ne_of_ok True.intro, ?_⟩ | rw [e1] | rw [e2] | rw [e3] | refine ⟨Int.natCast_nonneg _, ?_⟩ | refine ⟨True.intro, ?_⟩ | refine ⟨(rfl : small _ = true), ?_⟩)
    conv => whnf
    cases ha : decide ((a : Int) = 0)
    · repeat ((conv => whnf); first | refine ⟨ne_of_ok True.intro, ?_⟩ | rw [e1] | rw [e2] | rw [e3] | refine ⟨Int.natCast_nonneg _, ?_⟩ | refine ⟨True.intro, ?_⟩ | refine ⟨(rfl : small _ = true), ?_⟩)
      conv => whnf
      have ha' : a ≠ 0 := by have := of_decide_eq_false ha; (first | lia | omega)
      cases hw : decide ((1 : Int) < max (c0 : Int) (max (c1 : Int) (c2 : Int)))
      · have hw' : wide [c0, c1, c2] = false := (wide_eq c0 c1 c2).symm.trans hw
        repeat ((conv => whnf); first | refine ⟨ne_of_ok True.intro, ?_⟩ | rw [e1] | rw [e2] | rw [e3] | refine ⟨Int.natCast_nonneg _, ?_⟩ | refine ⟨True.intro, ?_⟩ | refine ⟨(rfl : small _ = true), ?_⟩)
        conv => whnf
        refine q [_] _ (Nat.le_refl _) (at_new.trans ?_)
        have hwd : wide (hd s) = false := by rw [e4]; exact hw'
        have e : X.codes hd (.var s a) = [(total (hd s) + a) % 8 % 2, (total (hd s) + a) % 8 / 2 % 2, (total (hd s) + a) % 8 / 4] := by simp only [X.codes, ha', hwd, if_false, Bool.false_eq_true]
        rw [e, e4]
        simp only [rowV, total, List.map_cons, List.map_nil, List.getD_cons_zero, List.getD_cons_succ]
        have f1 : ((c0 : Int) + 2 * c1 + 4 * c2 + a).fmod 8 = (((c0 + 2 * c1 + 4 * c2 + a) % 8 : Nat) : Int) := by
          rw [Int.fmod_eq_emod_of_nonneg _ (by (first | lia | omega))]; (first | lia | omega)
        rw [f1, Int.fmod_eq_emod_of_nonneg _ (by (first | lia | omega)), Int.fdiv_eq_ediv_of_nonneg _ (by (first | lia | omega)), Int.fdiv_eq_ediv_of_nonneg _ (by (first | lia | omega)), Int.fmod_eq_emod_of_nonneg _ (by (first | lia | omega))]
        rfl
      · have hw' : wide [c0, c1, c2] = true := (wide_eq c0 c1 c2).symm.trans hw
        repeat ((conv => whnf); first | refine ⟨ne_of_ok True.intro, ?_⟩ | rw [e1] | rw [e2] | rw [e3] | refine ⟨Int.natCast_nonneg _, ?_⟩ | refine ⟨True.intro, ?_⟩ | refine ⟨(rfl : small _ = true), ?_⟩)
        conv => whnf
        refine ⟨rfl, ?_⟩
        rw [at_new]
        repeat ((conv => whnf); first | refine ⟨ne_of_ok True.intro, ?_⟩ | rw [e1] | rw [e2] | rw [e3] | refine ⟨Int.natCast_nonneg _, ?_⟩ | refine ⟨True.intro, ?_⟩ | refine ⟨(rfl : small _ = true), ?_⟩)
        conv => whnf
        have hwd : wide (hd s) = true := by rw [e4]; exact hw'
        have e : X.codes hd (.var s a) = [3, 3, 3] := by simp only [X.codes, ha', hwd, if_false, if_true]
        rw [List.append_assoc]
        refine q _ _ (by simp) ?_
        rw [← List.append_assoc, e]
        exact at_new
    · have ha' : a = 0 := by have := of_decide_eq_true ha; (first | lia | omega)
      repeat ((conv => whnf); first | refine ⟨ne_of_ok True.intro, ?_⟩ | rw [e1] | rw [e2] | rw [e3] | refine ⟨Int.natCast_nonneg _, ?_⟩ | refine ⟨True.intro, ?_⟩ | refine ⟨(rfl : small _ = true), ?_⟩)
      refine ⟨by simp, ?_⟩
      repeat ((conv => whnf); first | refine ⟨ne_of_ok True.intro, ?_⟩ | rw [e1] | rw [e2] | rw [e3] | refine ⟨Int.natCast_nonneg _, ?_⟩ | refine ⟨True.intro, ?_⟩ | refine ⟨(rfl : small _ = true), ?_⟩)
      conv => whnf
      refine q [_] _ (Nat.le_refl _) (at_new.trans ?_)
      subst ha'
      have e : X.codes hd (.var s 0) = hd s := by simp only [X.codes, if_true]
      rw [e, e4]; rfl
  | below s n =>
    have hs : s < 3 := by rcases he with h | h; exact h.elim; exact h.1
    obtain ⟨vs, j, c0, c1, c2, e1, e2, e3, e4, h0, h1, h2⟩ := hh.get hs
    repeat ((conv => whnf); first | refine ⟨ne_of_ok True.intro, ?_⟩ | rw [e1] | rw [e2] | rw [e3] | refine ⟨Int.natCast_nonneg _, ?_⟩ | refine ⟨True.intro, ?_⟩ | refine ⟨(rfl : small _ = true), ?_⟩)
    refine ⟨small_nat (by (first | lia | omega)), ?_⟩
    repeat ((conv => whnf); first | refine ⟨ne_of_ok True.intro, ?_⟩ | rw [e1] | rw [e2] | rw [e3] | refine ⟨Int.natCast_nonneg _, ?_⟩ | refine ⟨True.intro, ?_⟩ | refine ⟨(rfl : small _ = true), ?_⟩)
    conv => whnf
    cases hw : decide ((1 : Int) < max (c0 : Int) (max (c1 : Int) (c2 : Int)))
    · have hw' : wide [c0, c1, c2] = false := (wide_eq c0 c1 c2).symm.trans hw
      have hwd : wide (hd s) = false := by rw [e4]; exact hw'
      repeat ((conv => whnf); first | refine ⟨ne_of_ok True.intro, ?_⟩ | rw [e1] | rw [e2] | rw [e3] | refine ⟨Int.natCast_nonneg _, ?_⟩ | refine ⟨True.intro, ?_⟩ | refine ⟨(rfl : small _ = true), ?_⟩)
      conv => whnf
      cases hn : decide ((c0 : Int) + 2 * c1 + 4 * c2 < n)
      · have hn' : ¬ total (hd s) < n := by have := of_decide_eq_false hn; rw [e4]; simp only [total, List.getD_cons_zero, List.getD_cons_succ]; (first | lia | omega)
        repeat ((conv => whnf); first | refine ⟨ne_of_ok True.intro, ?_⟩ | rw [e1] | rw [e2] | rw [e3] | refine ⟨Int.natCast_nonneg _, ?_⟩ | refine ⟨True.intro, ?_⟩ | refine ⟨(rfl : small _ = true), ?_⟩)
        conv => whnf
        refine q [_] _ (Nat.le_refl _) (at_new.trans ?_)
        simp only [X.codes, hwd, hn', if_false, Bool.false_eq_true]; rfl
      · have hn' : total (hd s) < n := by have := of_decide_eq_true hn; rw [e4]; simp only [total, List.getD_cons_zero, List.getD_cons_succ]; (first | lia | omega)
        repeat ((conv => whnf); first | refine ⟨ne_of_ok True.intro, ?_⟩ | rw [e1] | rw [e2] | rw [e3] | refine ⟨Int.natCast_nonneg _, ?_⟩ | refine ⟨True.intro, ?_⟩ | refine ⟨(rfl : small _ = true), ?_⟩)
        conv => whnf
        refine q [_] _ (Nat.le_refl _) (at_new.trans ?_)
        simp only [X.codes, hwd, hn', if_false, if_true, Bool.false_eq_true]; rfl
    · have hw' : wide [c0, c1, c2] = true := (wide_eq c0 c1 c2).symm.trans hw
      have hwd : wide (hd s) = true := by rw [e4]; exact hw'
      repeat ((conv => whnf); first | refine ⟨ne_of_ok True.intro, ?_⟩ | rw [e1] | rw [e2] | rw [e3] | refine ⟨Int.natCast_nonneg _, ?_⟩ | refine ⟨True.intro, ?_⟩ | refine ⟨(rfl : small _ = true), ?_⟩)
      conv => whnf
      refine ⟨rfl, ?_⟩
      rw [at_new]
      repeat ((conv => whnf); first | refine ⟨ne_of_ok True.intro, ?_⟩ | rw [e1] | rw [e2] | rw [e3] | refine ⟨Int.natCast_nonneg _, ?_⟩ | refine ⟨True.intro, ?_⟩ | refine ⟨(rfl : small _ = true), ?_⟩)
      conv => whnf
      have e : X.codes hd (.below s n) = [3] := by simp only [X.codes, hwd, if_true]
      rw [List.append_assoc]
      refine q _ _ (by simp) ?_
      rw [← List.append_assoc, e]
      exact at_new
end Mine
namespace Mine
mutual
inductive T where
  | nil
  | set (s : Nat) (e : X)
  | if_ (e : X) (a b : T)
  | case (k : Tg) (e : X) (pre : As) (hasD : Bool) (d : T) (post : As)
  | for_ (a : T) (e : X) (step body : T)
  | while_ (e : X) (body : T)
  | rep (e : X) (sg : Bool) (body : T)
  | block (ts : Ts)
  | forever (body : T)
inductive Ts where
  | nil
  | cons (t : T) (r : Ts)
inductive As where
  | nil
  | cons (ls : List X) (t : T) (r : As)
end
theorem As.ind {P : As → Prop} (n : P .nil) (h : ∀ ls t r, P r → P (.cons ls t r)) (A : As) : P A :=
  As.rec (motive_1 := fun _ => True) (motive_2 := fun _ => True) (motive_3 := P) (by intros; trivial) (by intros; trivial) (by intros; trivial) (by intros; trivial) (by intros; trivial) (by intros; trivial) (by intros; trivial) (by intros; trivial) (by intros; trivial) (by intros; trivial) (by intros; trivial) n (fun ls t r _ q => h ls t r q) A
theorem Ts.ind {P : Ts → Prop} (n : P .nil) (h : ∀ t r, P r → P (.cons t r)) (A : Ts) : P A :=
  Ts.rec (motive_1 := fun _ => True) (motive_2 := P) (motive_3 := fun _ => True) (by intros; trivial) (by intros; trivial) (by intros; trivial) (by intros; trivial) (by intros; trivial) (by intros; trivial) (by intros; trivial) (by intros; trivial) (by intros; trivial) n (fun t r _ q => h t r q) (by intros; trivial) (by intros; trivial) A
mutual
noncomputable def T.v : T → V
  | .nil => .none
  | .set s e => .tup [.str .kSet, .int s, e.v, .none]
  | .if_ e a b => .tup [.str .kIf, e.v, a.v, b.v]
  | .case k e pre hasD d post => .tup [.str .kCase, .str k, e.v, .tup (pre.vs ++ ((bif hasD then [.tup [.none, d.v]] else []) ++ post.vs))]
  | .for_ a e step body => .tup [.str .kFor, a.v, e.v, step.v, body.v]
  | .while_ e body => .tup [.str .kWhile, e.v, body.v]
  | .rep e sg body => .tup [.str .kRepeat, e.v, .bool sg, body.v]
  | .block ts => .tup [.str .kBlock, .tup ts.vs, .int (-1)]
  | .forever body => .tup [.str .kForever, body.v]
noncomputable def Ts.vs : Ts → List V
  | .nil => []
  | .cons t r => t.v :: r.vs
noncomputable def As.vs : As → List V
  | .nil => []
  | .cons ls t r => .tup [.tup (ls.map X.v), t.v] :: r.vs
end
theorem T.v_ok (t : T) : t.v.ok := by cases t <;> trivial
noncomputable def T.isNil : T → Bool
  | .nil => true
  | .set _ _ | .if_ _ _ _ | .case _ _ _ _ _ _ | .for_ _ _ _ _ | .while_ _ _ | .rep _ _ _ | .block _ | .forever _ => false
noncomputable def As.nlab : As → Nat
  | .nil => 0
  | .cons ls _ r => ls.length + r.nlab
noncomputable def X.own : X → Nat
  | .const _ _ _ => 0
  | _ => 1
mutual
noncomputable def T.slots : T → Nat
  | .nil => 0
  | .set _ _ => 0
  | .if_ _ a b => a.slots + b.slots
  | .case _ e pre _ d post => e.own + (d.slots + (pre.slots + post.slots))
  | .for_ _ _ _ body => body.slots
  | .while_ _ body => body.slots
  | .rep _ _ body => 1 + body.slots
  | .block ts => ts.slots
  | .forever body => body.slots
noncomputable def Ts.slots : Ts → Nat
  | .nil => 0
  | .cons t r => t.slots + r.slots
noncomputable def As.slots : As → Nat
  | .nil => 0
  | .cons _ t r => t.slots + r.slots
end
mutual
noncomputable def T.len : T → Nat
  | .nil => 0
  | .set _ _ => 1
  | .if_ _ a b => 1 + a.len + (bif b.isNil then 0 else 1 + b.len)
  | .case _ e pre _ d post => e.own + (pre.nlab + post.nlab) + d.len + 1 + (pre.len + post.len)
  | .for_ a _ step body => a.len + (1 + body.len + step.len + 1)
  | .while_ _ body => 1 + body.len + 1
  | .rep _ _ body => 2 + body.len + 1
  | .block ts => ts.len
  | .forever body => body.len + 1
noncomputable def Ts.len : Ts → Nat
  | .nil => 0
  | .cons t r => t.len + r.len
noncomputable def As.len : As → Nat
  | .nil => 0
  | .cons _ t r => t.len + 1 + r.len
end
mutual
noncomputable def T.ht : T → Nat
  | .nil => 0
  | .set _ _ => 1
  | .if_ _ a b => 1 + max a.ht b.ht
  | .case _ _ pre _ d post => 1 + max d.ht (max pre.ht post.ht)
  | .for_ a _ step body => 1 + max a.ht (max step.ht body.ht)
  | .while_ _ body => 1 + body.ht
  | .rep _ _ body => 1 + body.ht
  | .block ts => 1 + ts.ht
  | .forever body => 1 + body.ht
noncomputable def Ts.ht : Ts → Nat
  | .nil => 0
  | .cons t r => max t.ht r.ht
noncomputable def As.ht : As → Nat
  | .nil => 0
  | .cons _ t r => max t.ht r.ht
end
theorem mx1 {a d : Nat} (h : 1 + a ≤ d + 1) : a ≤ d := Nat.le_of_succ_le_succ (Nat.succ_eq_one_add a ▸ h)
theorem mx2 {a b d : Nat} (h : 1 + max a b ≤ d + 1) : a ≤ d ∧ b ≤ d := Nat.max_le.mp (mx1 h)
theorem mx3 {a b c d : Nat} (h : 1 + max a (max b c) ≤ d + 1) : a ≤ d ∧ b ≤ d ∧ c ≤ d := ⟨(mx2 h).1, Nat.max_le.mp (mx2 h).2⟩
noncomputable def isKind (k : Tg) : Prop := k = .kCase ∨ k = .kCasez ∨ k = .kCasex
mutual
noncomputable def T.wf : T → Prop
  | .nil => True
  | .set s e => s < 3 ∧ e.word
  | .if_ e a b => e.test ∧ a.wf ∧ b.wf
  | .case k e pre hasD d post => isKind k ∧ e.word ∧ pre.nlab + post.nlab ≤ 4 ∧ pre.wf ∧ post.wf ∧ d.wf ∧ (hasD = false → d = .nil)
  | .for_ a e step body => e.test ∧ a.wf ∧ step.wf ∧ body.wf ∧ a.slots = 0 ∧ step.slots = 0
  | .while_ e body => e.test ∧ body.wf
  | .rep e _ body => e.word ∧ body.wf
  | .block ts => ts.wf ∧ ts.len ≤ 1000
  | .forever body => body.wf
noncomputable def Ts.wf : Ts → Prop
  | .nil => True
  | .cons t r => t.wf ∧ r.wf
noncomputable def As.wf : As → Prop
  | .nil => True
  | .cons ls t r => (∀ e ∈ ls, e.word) ∧ t.wf ∧ r.wf
end
structure S where
  left : Nat
  hd : Nat → List Nat
  lg : List (X × List Nat)
noncomputable def upd (hd : Nat → List Nat) (s : Nat) (r : List Nat) : Nat → List Nat := fun i => if i = s then r else hd i
noncomputable def X.logs (hd : Nat → List Nat) (e : X) : List (X × List Nat) := match e with
  | .const _ _ _ => []
  | e => [(e, e.codes hd)]
noncomputable def S.dec (σ : S) : S := { σ with left := σ.left - 1 }
noncomputable def S.see (σ : S) (e : X) : S := { σ with lg := σ.lg ++ e.logs σ.hd }
noncomputable def S.put (σ : S) (s : Nat) (e : X) : S := { σ with hd := upd σ.hd s (e.codes σ.hd), lg := σ.lg ++ e.logs σ.hd }
noncomputable def pairOk (k : Tg) (x y : Nat) : Bool := (decide (k = .kCasex) && decide (1 < max x y)) || ((decide (k = .kCasez) && (decide (2 = x) || decide (2 = y))) || decide (x = y))
noncomputable def alike (k : Tg) : List Nat → List Nat → Bool
  | x :: r, y :: q => pairOk k x y && alike k r q
  | _, _ => true
noncomputable def cnt (r : List Nat) (sg : Bool) : Nat := if wide r then 0 else if sg && decide (r.getD 2 0 = 1) then 0 else total r
noncomputable def pickL (k : Tg) (row : List Nat) : List X → S → Bool × S
  | [], σ => (false, σ)
  | l :: r, σ => if alike k row (l.codes σ.hd) then (true, σ.see l) else pickL k row r (σ.see l)
noncomputable def As.pick (k : Tg) (row : List Nat) : As → S → Option T × S
  | .nil, σ => (none, σ)
  | .cons ls t r, σ => match pickL k row ls σ with
    | (true, σ) => (some t, σ)
    | (false, σ) => r.pick k row σ
noncomputable def chosen (k : Tg) (e : X) (pre : As) (d : T) (post : As) (σ : S) : T × S :=
  match pre.pick k (e.codes σ.hd) (σ.see e) with
  | (some t, σ1) => (t, σ1)
  | (none, σ1) => match post.pick k (e.codes σ.hd) σ1 with
    | (some t, σ2) => (t, σ2)
    | (none, σ2) => (d, σ2)
set_option genCtorIdx true
inductive Cmd where
  | one (t : T)
  | parts (ts : Ts)
  | round (ts : Ts)
  | loop (e : X) (ts : Ts)
  | reps (n : Nat) (t : T)
  | ever (t : T)
set_option genCtorIdx false
noncomputable def two (a b : T) : Ts := .cons a (.cons b .nil)
noncomputable def oneT (a : T) : Ts := .cons a .nil
inductive Ev : Cmd → S → Bool → S → Prop
  | out {t : T} {σ : S} : σ.left = 0 → Ev (.one t) σ false σ
  | nil {σ : S} : 0 < σ.left → Ev (.one .nil) σ true σ.dec
  | set {s : Nat} {e : X} {σ : S} : 0 < σ.left → Ev (.one (.set s e)) σ true (σ.dec.put s e)
  | ift {e : X} {a b : T} {σ σ' : S} {r : Bool} : 0 < σ.left → 1 ∈ e.codes σ.hd → Ev (.one a) (σ.dec.see e) r σ' → Ev (.one (.if_ e a b)) σ r σ'
  | iff {e : X} {a b : T} {σ σ' : S} {r : Bool} : 0 < σ.left → 1 ∉ e.codes σ.hd → Ev (.one b) (σ.dec.see e) r σ' → Ev (.one (.if_ e a b)) σ r σ'
  | case {k : Tg} {e : X} {pre : As} {hasD : Bool} {d : T} {post : As} {σ σ' : S} {r : Bool} : 0 < σ.left → Ev (.one (chosen k e pre d post σ.dec).1) (chosen k e pre d post σ.dec).2 r σ' → Ev (.one (.case k e pre hasD d post)) σ r σ'
  | block {ts : Ts} {σ σ' : S} {r : Bool} : 0 < σ.left → Ev (.round ts) σ.dec r σ' → Ev (.one (.block ts)) σ r σ'
  | rep {e : X} {sg : Bool} {t : T} {σ σ' : S} {r : Bool} : 0 < σ.left → Ev (.reps (cnt (e.codes σ.hd) sg) t) (σ.dec.see e) r σ' → Ev (.one (.rep e sg t)) σ r σ'
  | forever {t : T} {σ σ' : S} {r : Bool} : 0 < σ.left → Ev (.ever t) σ.dec r σ' → Ev (.one (.forever t)) σ r σ'
  | while_ {e : X} {t : T} {σ σ' : S} {r : Bool} : 0 < σ.left → Ev (.loop e (oneT t)) σ.dec r σ' → Ev (.one (.while_ e t)) σ r σ'
  | forF {a : T} {e : X} {step body : T} {σ σ' : S} : 0 < σ.left → Ev (.one a) σ.dec false σ' → Ev (.one (.for_ a e step body)) σ false σ'
  | forT {a : T} {e : X} {step body : T} {σ σ1 σ' : S} {r : Bool} : 0 < σ.left → Ev (.one a) σ.dec true σ1 → Ev (.loop e (two body step)) σ1 r σ' → Ev (.one (.for_ a e step body)) σ r σ'
  | pnil {σ : S} : Ev (.parts .nil) σ true σ
  | pF {t : T} {ts : Ts} {σ σ' : S} : Ev (.one t) σ false σ' → Ev (.parts (.cons t ts)) σ false σ'
  | pT {t : T} {ts : Ts} {σ σ1 σ' : S} {r : Bool} : Ev (.one t) σ true σ1 → Ev (.parts ts) σ1 r σ' → Ev (.parts (.cons t ts)) σ r σ'
  | rout {ts : Ts} {σ : S} : σ.left = 0 → Ev (.round ts) σ false σ
  | round {ts : Ts} {σ σ' : S} {r : Bool} : 0 < σ.left → Ev (.parts ts) σ.dec r σ' → Ev (.round ts) σ r σ'
  | lend {e : X} {ts : Ts} {σ : S} : 1 ∉ e.codes σ.hd → Ev (.loop e ts) σ true (σ.see e)
  | lF {e : X} {ts : Ts} {σ σ' : S} : 1 ∈ e.codes σ.hd → Ev (.round ts) (σ.see e) false σ' → Ev (.loop e ts) σ false σ'
  | lT {e : X} {ts : Ts} {σ σ1 σ' : S} {r : Bool} : 1 ∈ e.codes σ.hd → Ev (.round ts) (σ.see e) true σ1 → Ev (.loop e ts) σ1 r σ' → Ev (.loop e ts) σ r σ'
  | n0 {t : T} {σ : S} : Ev (.reps 0 t) σ true σ
  | nF {n : Nat} {t : T} {σ σ' : S} : Ev (.round (oneT t)) σ false σ' → Ev (.reps (n + 1) t) σ false σ'
  | nT {n : Nat} {t : T} {σ σ1 σ' : S} {r : Bool} : Ev (.round (oneT t)) σ true σ1 → Ev (.reps n t) σ1 r σ' → Ev (.reps (n + 1) t) σ r σ'
  | eF {t : T} {σ σ' : S} : Ev (.round (oneT t)) σ false σ' → Ev (.ever t) σ false σ'
  | eT {t : T} {σ σ1 σ' : S} {r : Bool} : Ev (.round (oneT t)) σ true σ1 → Ev (.ever t) σ1 r σ' → Ev (.ever t) σ r σ'
inductive Src where
  | word (e : X)
  | loc (sl : Nat)
noncomputable def Src.v : Src → V
  | .word e => e.v
  | .loc sl => .tup [.str .kLocal, .int 3, .int sl]
inductive Rw where
  | set (s : Nat) (e : X)
  | save (sl : Nat) (e : X)
  | unless (e : X) (tgt : Int)
  | match_ (k : Tg) (s : Src) (l : X) (tgt : Int)
  | jump (tgt : Int)
  | times (sl : Nat) (e : X) (sg : Bool)
  | again (sl : Nat) (tgt : Int)
  | end_
noncomputable def Rw.v : Rw → V
  | .set s e => .tup [.str .kSet, .int s, e.v]
  | .save sl e => .tup [.str .kSave, .int sl, e.v]
  | .unless e t => .tup [.str .kUnless, e.v, .int t]
  | .match_ k s l t => .tup [.str .kMatch, .str k, s.v, l.v, .int t]
  | .jump t => .tup [.str .kJump, .int t]
  | .times sl e sg => .tup [.str .kTimes, .int sl, e.v, .bool sg]
  | .again sl t => .tup [.str .kAgain, .int sl, .int t]
  | .end_ => .tup [.str .kEnd]
noncomputable def X.src (e : X) (sl : Nat) : Src := match e with
  | .const _ _ _ => .word e
  | _ => .loc sl
noncomputable def labAt (code : List Rw) (k : Tg) (s : Src) (tgt : Nat) : List X → Nat → Prop
  | [], _ => True
  | l :: r, p => code[p]? = some (.match_ k s l tgt) ∧ labAt code k s tgt r (p + 1)
noncomputable def As.labsAt (code : List Rw) (k : Tg) (s : Src) : As → Nat → Nat → Prop
  | .nil, _, _ => True
  | .cons ls t r, p, q => labAt code k s q ls p ∧ r.labsAt code k s (p + ls.length) (q + (t.len + 1))
mutual
noncomputable def T.at (code : List Rw) : T → Nat → Nat → Prop
  | .nil, _, _ => True
  | .set s e, p, _ => code[p]? = some (.set s e)
  | .if_ e a b, p, sl => code[p]? = some (.unless e ((p + 1 + a.len + (bif b.isNil then 0 else 1) : Nat) : Int)) ∧ a.at code (p + 1) sl ∧
      (b.isNil = false → code[p + 1 + a.len]? = some (.jump ((p + 2 + a.len + b.len : Nat) : Int)) ∧ b.at code (p + 2 + a.len) (sl + a.slots))
  | .case k e pre _ d post, p, sl =>
      (e.own = 1 → code[p]? = some (.save sl e)) ∧
      pre.labsAt code k (e.src sl) (p + e.own) (p + e.own + (pre.nlab + post.nlab) + d.len + 1) ∧
      post.labsAt code k (e.src sl) (p + e.own + pre.nlab) (p + e.own + (pre.nlab + post.nlab) + d.len + 1 + pre.len) ∧
      d.at code (p + e.own + (pre.nlab + post.nlab)) (sl + e.own) ∧
      code[p + e.own + (pre.nlab + post.nlab) + d.len]? = some (.jump ((p + (e.own + (pre.nlab + post.nlab) + d.len + 1 + (pre.len + post.len)) : Nat) : Int)) ∧
      pre.at code (p + (e.own + (pre.nlab + post.nlab) + d.len + 1 + (pre.len + post.len))) (p + e.own + (pre.nlab + post.nlab) + d.len + 1) (sl + e.own + d.slots) ∧
      post.at code (p + (e.own + (pre.nlab + post.nlab) + d.len + 1 + (pre.len + post.len))) (p + e.own + (pre.nlab + post.nlab) + d.len + 1 + pre.len) (sl + e.own + d.slots + pre.slots)
  | .for_ a e step body, p, sl => a.at code p sl ∧ code[p + a.len]? = some (.unless e ((p + a.len + (1 + body.len + step.len + 1) : Nat) : Int)) ∧
      body.at code (p + a.len + 1) sl ∧ step.at code (p + a.len + 1 + body.len) (sl + body.slots) ∧ code[p + a.len + 1 + body.len + step.len]? = some (.jump ((p + a.len : Nat) : Int))
  | .while_ e body, p, sl => code[p]? = some (.unless e ((p + (1 + body.len + 1) : Nat) : Int)) ∧ body.at code (p + 1) sl ∧ code[p + 1 + body.len]? = some (.jump (p : Int))
  | .rep e sg body, p, sl => code[p]? = some (.times sl e sg) ∧ code[p + 1]? = some (.again sl ((p + (2 + body.len + 1) : Nat) : Int)) ∧ body.at code (p + 2) (sl + 1) ∧
      code[p + 2 + body.len]? = some (.jump ((p + 1 : Nat) : Int))
  | .block ts, p, sl => ts.at code p sl
  | .forever body, p, sl => body.at code p sl ∧ code[p + body.len]? = some (.jump (p : Int))
noncomputable def Ts.at (code : List Rw) : Ts → Nat → Nat → Prop
  | .nil, _, _ => True
  | .cons t r, p, sl => t.at code p sl ∧ r.at code (p + t.len) (sl + t.slots)
noncomputable def As.at (code : List Rw) (fin : Nat) : As → Nat → Nat → Prop
  | .nil, _, _ => True
  | .cons _ t r, p, sl => t.at code p sl ∧ code[p + t.len]? = some (.jump (fin : Int)) ∧ r.at code fin (p + (t.len + 1)) (sl + t.slots)
end
inductive FV where
  | kept | none
  | vec (r : List Nat)
  | cnt (n : Nat)
structure VS where
  pc : Nat
  fr : List FV
  hd : Nat → List Nat
  lg : List (X × List Nat)
noncomputable def VS.see (st : VS) (e : X) : VS := { st with lg := st.lg ++ e.logs st.hd }
inductive Step (base : Nat) (code : List Rw) : VS → VS → Prop
  | set {st : VS} {s : Nat} {e : X} : code[st.pc]? = some (.set s e) → s < 3 → e.word → Step base code st { pc := st.pc + 1, fr := st.fr, hd := upd st.hd s (e.codes st.hd), lg := st.lg ++ e.logs st.hd }
  | save {st : VS} {sl : Nat} {e : X} : code[st.pc]? = some (.save sl e) → e.word → base ≤ sl → sl < st.fr.length → Step base code st { pc := st.pc + 1, fr := st.fr.set sl (.vec (e.codes st.hd)), hd := st.hd, lg := st.lg ++ e.logs st.hd }
  | unlessT {st : VS} {e : X} {t : Nat} : code[st.pc]? = some (.unless e (t : Int)) → e.test → 1 ∈ e.codes st.hd → Step base code st { pc := st.pc + 1, fr := st.fr, hd := st.hd, lg := st.lg ++ e.logs st.hd }
  | unlessF {st : VS} {e : X} {t : Nat} : code[st.pc]? = some (.unless e (t : Int)) → e.test → 1 ∉ e.codes st.hd → Step base code st { pc := t, fr := st.fr, hd := st.hd, lg := st.lg ++ e.logs st.hd }
  | match_ {st : VS} {k : Tg} {s : Src} {l : X} {t : Nat} {row : List Nat} : code[st.pc]? = some (.match_ k s l (t : Int)) → isKind k → l.word → Row3 row →
      (match s with | .word e => (∃ w a b, e = .const w a b) ∧ e.word ∧ row = e.codes st.hd | .loc sl => st.fr[sl]? = some (.vec row)) →
      Step base code st { pc := bif alike k row (l.codes st.hd) then t else st.pc + 1, fr := st.fr, hd := st.hd, lg := st.lg ++ l.logs st.hd }
  | jump {st : VS} {t : Nat} : code[st.pc]? = some (.jump (t : Int)) → Step base code st { st with pc := t }
  | times {st : VS} {sl : Nat} {e : X} {sg : Bool} : code[st.pc]? = some (.times sl e sg) → e.word → base ≤ sl → sl < st.fr.length →
      Step base code st { pc := st.pc + 1, fr := st.fr.set sl (.cnt (cnt (e.codes st.hd) sg)), hd := st.hd, lg := st.lg ++ e.logs st.hd }
  | again0 {st : VS} {sl : Nat} {t : Nat} : code[st.pc]? = some (.again sl (t : Int)) → st.fr[sl]? = some (.cnt 0) → Step base code st { st with pc := t }
  | againS {st : VS} {sl n : Nat} {t : Nat} : code[st.pc]? = some (.again sl (t : Int)) → base ≤ sl → st.fr[sl]? = some (.cnt (n + 1)) → Step base code st { st with pc := st.pc + 1, fr := st.fr.set sl (.cnt n) }
inductive Path (base : Nat) (code : List Rw) : Nat → VS → VS → Prop
  | refl {st : VS} : Path base code 0 st st
  | step {n : Nat} {st st1 st2 : VS} : Step base code st st1 → Path base code n st1 st2 → Path base code (n + 1) st st2
end Mine
namespace Mine
noncomputable def Up (W : List Nat) (H H' : Hp) : Prop := H.length ≤ H'.length ∧ ∀ j o, H[j]? = some o → j ∉ W → H'[j]? = some o
theorem Up.refl {W : List Nat} {H : Hp} : Up W H H := ⟨Nat.le_refl _, fun _ _ h _ => h⟩
theorem Up.trans {W : List Nat} {H H' H'' : Hp} (x : Up W H H') (y : Up W H' H'') : Up W H H'' := ⟨Nat.le_trans x.1 y.1, fun j o h hw => y.2 j o (x.2 j o h hw) hw⟩
theorem Up.mono {W W' : List Nat} {H H' : Hp} (x : Up W H H') (h : ∀ j, j ∈ W → j ∈ W') : Up W' H H' := ⟨x.1, fun j o hj hw => x.2 j o hj fun m => hw (h j m)⟩
theorem Up.app {W : List Nat} {H l : Hp} : Up W H (H ++ l) := ⟨by simp, fun j o h _ => at_add h⟩
theorem Up.set {W : List Nat} {H : Hp} {i : Nat} {o : CO} (h : i ∈ W) : Up W H (H.set i o) := ⟨by simp, fun j o' h' hw => at_set_ne h' (by rintro rfl; exact hw h)⟩
theorem Up.shed {W : List Nat} {w : Nat} {H H' : Hp} (x : Up (w :: W) H H') (h : H.length ≤ w) : Up W H H' :=
  ⟨x.1, fun j o hj hw => x.2 j o hj fun m => by
    rcases List.mem_cons.mp m with rfl | m
    · exact absurd (lt_at hj) (by first | exact le1 hn rfl | exact le2 hn rfl | (first | lia | omega))
    · exact hw m⟩
noncomputable def Held (W : List Nat) (H : Hp) (h : Nat) (hd : Nat → List Nat) : Prop :=
  h ∉ W ∧ ∃ vs : List V, H[h]? = some (.list vs) ∧ vs.length = 3 ∧ ∀ s, s < 3 → Row3 (hd s) ∧ ∃ j, j ∉ W ∧ vs[s]? = some (.obj j) ∧ H[j]? = some (.list (rowV (hd s)))
theorem Held.at {W : List Nat} {H : Hp} {h : Nat} {hd : Nat → List Nat} (x : Held W H h hd) : HeldAt H h hd := by
  obtain ⟨_, vs, a, b, f⟩ := x
  exact ⟨vs, a, b, fun s hs => ⟨(f s hs).1, by obtain ⟨_, j, _, p, q⟩ := f s hs; exact ⟨j, p, q⟩⟩⟩
theorem Held.up {W : List Nat} {H H' : Hp} {h : Nat} {hd : Nat → List Nat} (x : Held W H h hd) (u : Up W H H') : Held W H' h hd := by
  obtain ⟨w, vs, a, b, f⟩ := x
  exact ⟨w, vs, u.2 _ _ a w, b, fun s hs => ⟨(f s hs).1, by obtain ⟨_, j, n, p, q⟩ := f s hs; exact ⟨j, n, p, u.2 _ _ q n⟩⟩⟩
theorem Held.row {W : List Nat} {H : Hp} {h : Nat} {hd : Nat → List Nat} (x : Held W H h hd) {s : Nat} (hs : s < 3) : Row3 (hd s) := by
  obtain ⟨_, vs, a, b, f⟩ := x
  exact (f s hs).1
theorem row3_ne {r : List Nat} (hr : Row3 r) {vs : List V} (h : rowV r = vs) {j : Nat} (m : vs[0]? = some (.obj j)) : False := by
  obtain ⟨a, b, c, rfl, _⟩ := hr
  subst h
  simp [rowV] at m
theorem Held.put {W : List Nat} {H : Hp} {h : Nat} {hd : Nat → List Nat} (x : Held W H h hd) {s j : Nat} {r : List Nat} (hr : Row3 r) (hj : H[j]? = some (.list (rowV r))) (jw : j ∉ W) :
    ∃ vs, H[h]? = some (.list vs) ∧ vs.length = 3 ∧ Held W (H.set h (.list (vs.set s (.obj j)))) h (upd hd s r) := by
  obtain ⟨w, vs, a, b, f⟩ := x
  have far : ∀ i r', Row3 r' → H[i]? = some (.list (rowV r')) → h ≠ i := by
    rintro i r' hr' hi rfl
    rw [a] at hi
    obtain ⟨_, k, _, p, _⟩ := f 0 (by first | exact le1 hn rfl | exact le2 hn rfl | (first | lia | omega))
    exact row3_ne hr' (co_inj (Option.some.inj hi)).symm p
  refine ⟨vs, a, b, w, _, at_set_self a, by simp [b], fun s' hs' => ?_⟩
  unfold upd
  by_cases e : s' = s
  · subst e
    simp only [if_true]
    exact ⟨hr, j, jw, by rw [List.getElem?_set_self (by first | exact le1 hn rfl | exact le2 hn rfl | (first | lia | omega))], at_set_ne hj (far _ _ hr hj)⟩
  · simp only [e, if_false]
    obtain ⟨r3, k, n, p, q⟩ := f s' hs'
    exact ⟨r3, k, n, by rw [List.getElem?_set_ne (Ne.symm e)]; exact p, at_set_ne q (far _ _ r3 q)⟩
noncomputable def entV (p : X × List Nat) : V := .tup [p.1.v, .tup (rowV p.2)]
theorem bit2 (x y : Nat) : x % 2 + 2 * (y % 2) < 4 := by (first | lia | omega)
theorem word_row {e : X} {hd : Nat → List Nat} (he : e.word) (hh : ∀ s, s < 3 → Row3 (hd s)) : Row3 (e.codes hd) := by
  cases e with
  | const w a b =>
    obtain ⟨rfl, _, _⟩ := he
    exact ⟨_, _, _, rfl, bit2 _ _, bit2 _ _, bit2 _ _⟩
  | below s n => exact he.elim
  | var s a =>
    simp only [X.codes]
    split
    · exact hh s he.1
    · split
      · exact ⟨3, 3, 3, rfl, by (first | lia | omega), by (first | lia | omega), by (first | lia | omega)⟩
      · exact ⟨_, _, _, rfl, by (first | lia | omega), by (first | lia | omega), by (first | lia | omega)⟩
theorem test_row {e : X} {hd : Nat → List Nat} (he : e.test) (hh : ∀ s, s < 3 → Row3 (hd s)) : Row3 (e.codes hd) ∨ ∃ a, a < 4 ∧ e.codes hd = [a] := by
  cases e with
  | const w a b =>
    obtain ⟨rfl, _, _⟩ := he
    exact .inr ⟨_, bit2 _ _, rfl⟩
  | below s n =>
    refine .inr ?_
    simp only [X.codes]
    split
    · exact ⟨3, by (first | lia | omega), rfl⟩
    · split
      · exact ⟨1, by (first | lia | omega), rfl⟩
      · exact ⟨0, by (first | lia | omega), rfl⟩
  | var s a =>
    simp only [X.codes, he.2, if_true]
    exact .inl (hh s he.1)
theorem fit_len {e : X} {hd : Nat → List Nat} (he : e.fit) (hh : ∀ s, s < 3 → Row3 (hd s)) : (e.codes hd).length ≤ 3 := by
  rcases he with he | he
  · obtain ⟨a, b, c, e, _⟩ := word_row he hh
    simp [e]
  · rcases test_row he hh with ⟨a, b, c, e, _⟩ | ⟨a, _, e⟩ <;> simp [e]
theorem HeldAt.row {H : Hp} {h : Nat} {hd : Nat → List Nat} (x : HeldAt H h hd) (s : Nat) (hs : s < 3) : Row3 (hd s) := by
  obtain ⟨vs, a, b, f⟩ := x
  exact (f s hs).1
variable {scr : List Int}
theorem seen_ok {H : Hp} {h lg : Nat} {hd : Nat → List Nat} {e : X} {L : List (X × List Nat)} {Q : V → Hp → Prop} {n : Nat} (hn : 2 ≤ n) (he : e.fit) (hh : HeldAt H h hd)
    (hl : H[lg]? = some (.list (L.map entV))) (hL : L.length ≤ 100000)
    (q : ∀ j H', Up [lg] H H' → H.length ≤ j → H'[j]? = some (.list (rowV (e.codes hd))) → H'[lg]? = some (.list ((L ++ e.logs hd).map entV)) → Q (.obj j) H') :
    Cn scr n (.fn .seen) [e.v, .obj h, .obj lg] H Q := by
  obtain ⟨m, rfl⟩ : ∃ m, n = m + 2 := ⟨n - 2, by (first | lia | omega)⟩
  refine ⟨rfl, ?_⟩
  repeat (first | refine guI True.intro ?_ | refine guI (X.v_ok _) ?_ | refine guI (T.v_ok _) ?_ | refine gnI ?_ | refine gtI ?_ | refine gsI rfl ?_)
  refine codes_ok m he hh fun T j hj hr => ?_
  have hl2 := at_add (l := T) hl
  have len := fit_len (e := e) he hh.row
  have fin : ∀ x, x ∈ e.logs hd → Q (.obj j) ((H ++ T).set lg (.list (L.map entV ++ [entV x]))) ∨ e.logs hd ≠ [x] := by
    intro x hx
    by_cases e1 : e.logs hd = [x]
    · refine .inl (q j _ (Up.app.trans (Up.set (by simp))) hj ?_ ?_)
      · by_cases hjl : lg = j
        · exact absurd (lt_at hl) (by first | exact le1 hn rfl | exact le2 hn rfl | (first | lia | omega))
        · exact at_set_ne hr hjl
      · rw [at_set_self hl2, e1, List.map_append]; rfl
    · exact .inr e1
  cases e with
  | const w a b =>
    repeat (first | refine guI True.intro ?_ | refine guI (X.v_ok _) ?_ | refine guI (T.v_ok _) ?_ | refine gnI ?_ | refine gtI ?_ | refine gsI rfl ?_)
    refine q j _ Up.app hj hr ?_
    rw [hl2]; simp [X.logs]
  | var s a =>
    repeat (first | refine guI True.intro ?_ | refine guI (X.v_ok _) ?_ | refine guI (T.v_ok _) ?_ | refine insI hl2 ?_ | refine lisI hl2 ?_ | refine cloI hl2 ?_ | refine optI hl2 ?_ | refine insI hr ?_ | refine lisI hr ?_ | refine cloI hr ?_ | refine optI hr ?_ | refine gnI ?_ | refine gtI ?_ | refine gsI rfl ?_ | ((conv => whnf); first | rw [hl2] | rw [hr] ))
    refine ⟨by simp [rowV]; (first | lia | omega), ?_⟩
    repeat (first | refine guI True.intro ?_ | refine guI (X.v_ok _) ?_ | refine guI (T.v_ok _) ?_ | refine insI hl2 ?_ | refine lisI hl2 ?_ | refine cloI hl2 ?_ | refine optI hl2 ?_ | refine insI hr ?_ | refine lisI hr ?_ | refine cloI hr ?_ | refine optI hr ?_ | refine gnI ?_ | refine gtI ?_ | refine gsI rfl ?_ | ((conv => whnf); first | rw [hl2] | rw [hr] ))
    refine ⟨by simp; (first | lia | omega), ?_⟩
    repeat (first | refine guI True.intro ?_ | refine guI (X.v_ok _) ?_ | refine guI (T.v_ok _) ?_ | refine insI hl2 ?_ | refine lisI hl2 ?_ | refine cloI hl2 ?_ | refine optI hl2 ?_ | refine insI hr ?_ | refine lisI hr ?_ | refine cloI hr ?_ | refine optI hr ?_ | refine gnI ?_ | refine gtI ?_ | refine gsI rfl ?_ | ((conv => whnf); first | rw [hl2] | rw [hr] ))
    rcases fin _ (List.mem_singleton.mpr rfl) with f | f
    · exact f
    · exact absurd rfl f
  | below s k =>
    repeat (first | refine guI True.intro ?_ | refine guI (X.v_ok _) ?_ | refine guI (T.v_ok _) ?_ | refine insI hl2 ?_ | refine lisI hl2 ?_ | refine cloI hl2 ?_ | refine optI hl2 ?_ | refine insI hr ?_ | refine lisI hr ?_ | refine cloI hr ?_ | refine optI hr ?_ | refine gnI ?_ | refine gtI ?_ | refine gsI rfl ?_ | ((conv => whnf); first | rw [hl2] | rw [hr] ))
    refine ⟨by simp [rowV]; (first | lia | omega), ?_⟩
    repeat (first | refine guI True.intro ?_ | refine guI (X.v_ok _) ?_ | refine guI (T.v_ok _) ?_ | refine insI hl2 ?_ | refine lisI hl2 ?_ | refine cloI hl2 ?_ | refine optI hl2 ?_ | refine insI hr ?_ | refine lisI hr ?_ | refine cloI hr ?_ | refine optI hr ?_ | refine gnI ?_ | refine gtI ?_ | refine gsI rfl ?_ | ((conv => whnf); first | rw [hl2] | rw [hr] ))
    refine ⟨by simp; (first | lia | omega), ?_⟩
    repeat (first | refine guI True.intro ?_ | refine guI (X.v_ok _) ?_ | refine guI (T.v_ok _) ?_ | refine insI hl2 ?_ | refine lisI hl2 ?_ | refine cloI hl2 ?_ | refine optI hl2 ?_ | refine insI hr ?_ | refine lisI hr ?_ | refine cloI hr ?_ | refine optI hr ?_ | refine gnI ?_ | refine gtI ?_ | refine gsI rfl ?_ | ((conv => whnf); first | rw [hl2] | rw [hr] ))
    rcases fin _ (List.mem_singleton.mpr rfl) with f | f
    · exact f
    · exact absurd rfl f
end Mine
namespace Mine
variable {scr : List Int}
noncomputable def b_alike : Ss := match t_alike with | .cons (.forR _ _ b) _ => b | _ => .nil
theorem alike_step {C : CallP} {k : Tg} (hk : isKind k) {i j p a b : Nat} {H : Hp} {l r : List V} {tl : List V} (htl : tl = [] ∨ ∃ y, tl = [y]) (hi : H[i]? = some (.list l)) (hj : H[j]? = some (.list r))
    (ha : pyGet l p = some (.int a)) (hb : pyGet r p = some (.int b)) (hp : p < 1000) {K : Fl → List V → Hp → Prop}
    (h1 : pairOk k a b = true → ∀ y, K .next [.str k, .obj i, .obj j, .int p, y] H ∧ K .cont [.str k, .obj i, .obj j, .int p, y] H)
    (h2 : pairOk k a b = false → ∀ loc', K (.ret (.bool false)) loc' H) : wpSs C scr b_alike (.str k :: .obj i :: .obj j :: .int p :: tl) H K := by
  have hs : small (p : Int) = true := small_nat (by first | exact le1 hn rfl | exact le2 hn rfl | (first | lia | omega))
  rcases htl with rfl | ⟨y, rfl⟩
  all_goals
    rcases hk with rfl | rfl | rfl
    · repeat (first | refine guI True.intro ?_ | refine insI hi ?_ | refine lisI hi ?_ | refine cloI hi ?_ | refine optI hi ?_ | refine insI hj ?_ | refine lisI hj ?_ | refine cloI hj ?_ | refine optI hj ?_ | refine insI ha ?_ | refine lisI ha ?_ | refine cloI ha ?_ | refine optI ha ?_ | refine insI hb ?_ | refine lisI hb ?_ | refine cloI hb ?_ | refine optI hb ?_ | refine gnI ?_ | refine gtI ?_ | refine gsI rfl ?_ | ((conv => whnf); first | rw [hi] | rw [hj] | rw [ha] | rw [hb] ))
      refine ⟨hs, ?_⟩
      repeat (first | refine guI True.intro ?_ | refine insI hi ?_ | refine lisI hi ?_ | refine cloI hi ?_ | refine optI hi ?_ | refine insI hj ?_ | refine lisI hj ?_ | refine cloI hj ?_ | refine optI hj ?_ | refine insI ha ?_ | refine lisI ha ?_ | refine cloI ha ?_ | refine optI ha ?_ | refine insI hb ?_ | refine lisI hb ?_ | refine cloI hb ?_ | refine optI hb ?_ | refine gnI ?_ | refine gtI ?_ | refine gsI rfl ?_ | ((conv => whnf); first | rw [hi] | rw [hj] | rw [ha] | rw [hb] ))
      refine ⟨hs, ?_⟩
      repeat (first | refine guI True.intro ?_ | refine insI hi ?_ | refine lisI hi ?_ | refine cloI hi ?_ | refine optI hi ?_ | refine insI hj ?_ | refine lisI hj ?_ | refine cloI hj ?_ | refine optI hj ?_ | refine insI ha ?_ | refine lisI ha ?_ | refine cloI ha ?_ | refine optI ha ?_ | refine insI hb ?_ | refine lisI hb ?_ | refine cloI hb ?_ | refine optI hb ?_ | refine gnI ?_ | refine gtI ?_ | refine gsI rfl ?_ | ((conv => whnf); first | rw [hi] | rw [hj] | rw [ha] | rw [hb] ))
      refine ⟨hs, ?_⟩
      repeat (first | refine guI True.intro ?_ | refine insI hi ?_ | refine lisI hi ?_ | refine cloI hi ?_ | refine optI hi ?_ | refine insI hj ?_ | refine lisI hj ?_ | refine cloI hj ?_ | refine optI hj ?_ | refine insI ha ?_ | refine lisI ha ?_ | refine cloI ha ?_ | refine optI ha ?_ | refine insI hb ?_ | refine lisI hb ?_ | refine cloI hb ?_ | refine optI hb ?_ | refine gnI ?_ | refine gtI ?_ | refine gsI rfl ?_ | ((conv => whnf); first | rw [hi] | rw [hj] | rw [ha] | rw [hb] ))
      refine ⟨hs, ?_⟩
      repeat (first | refine guI True.intro ?_ | refine insI hi ?_ | refine lisI hi ?_ | refine cloI hi ?_ | refine optI hi ?_ | refine insI hj ?_ | refine lisI hj ?_ | refine cloI hj ?_ | refine optI hj ?_ | refine insI ha ?_ | refine lisI ha ?_ | refine cloI ha ?_ | refine optI ha ?_ | refine insI hb ?_ | refine lisI hb ?_ | refine cloI hb ?_ | refine optI hb ?_ | refine gnI ?_ | refine gtI ?_ | refine gsI rfl ?_ | ((conv => whnf); first | rw [hi] | rw [hj] | rw [ha] | rw [hb] ))
      conv => whnf
      cases e : decide ((a : Int) = b)
      · have := of_decide_eq_false e
        exact h2 (by simp [pairOk]; (first | lia | omega)) _
      · have := of_decide_eq_true e
        exact (h1 (by simp [pairOk]; (first | lia | omega)) _).1
    · repeat (first | refine guI True.intro ?_ | refine insI hi ?_ | refine lisI hi ?_ | refine cloI hi ?_ | refine optI hi ?_ | refine insI hj ?_ | refine lisI hj ?_ | refine cloI hj ?_ | refine optI hj ?_ | refine insI ha ?_ | refine lisI ha ?_ | refine cloI ha ?_ | refine optI ha ?_ | refine insI hb ?_ | refine lisI hb ?_ | refine cloI hb ?_ | refine optI hb ?_ | refine gnI ?_ | refine gtI ?_ | refine gsI rfl ?_ | ((conv => whnf); first | rw [hi] | rw [hj] | rw [ha] | rw [hb] ))
      refine ⟨hs, ?_⟩
      repeat (first | refine guI True.intro ?_ | refine insI hi ?_ | refine lisI hi ?_ | refine cloI hi ?_ | refine optI hi ?_ | refine insI hj ?_ | refine lisI hj ?_ | refine cloI hj ?_ | refine optI hj ?_ | refine insI ha ?_ | refine lisI ha ?_ | refine cloI ha ?_ | refine optI ha ?_ | refine insI hb ?_ | refine lisI hb ?_ | refine cloI hb ?_ | refine optI hb ?_ | refine gnI ?_ | refine gtI ?_ | refine gsI rfl ?_ | ((conv => whnf); first | rw [hi] | rw [hj] | rw [ha] | rw [hb] ))
      refine ⟨hs, ?_⟩
      repeat (first | refine guI True.intro ?_ | refine insI hi ?_ | refine lisI hi ?_ | refine cloI hi ?_ | refine optI hi ?_ | refine insI hj ?_ | refine lisI hj ?_ | refine cloI hj ?_ | refine optI hj ?_ | refine insI ha ?_ | refine lisI ha ?_ | refine cloI ha ?_ | refine optI ha ?_ | refine insI hb ?_ | refine lisI hb ?_ | refine cloI hb ?_ | refine optI hb ?_ | refine gnI ?_ | refine gtI ?_ | refine gsI rfl ?_ | ((conv => whnf); first | rw [hi] | rw [hj] | rw [ha] | rw [hb] ))
      conv => whnf
      cases e0 : decide ((2 : Int) = a)
      · have f0 := of_decide_eq_false e0
        conv => whnf
        cases e1 : decide ((2 : Int) = b)
        · have f1 := of_decide_eq_false e1
          repeat (first | refine guI True.intro ?_ | refine insI hi ?_ | refine lisI hi ?_ | refine cloI hi ?_ | refine optI hi ?_ | refine insI hj ?_ | refine lisI hj ?_ | refine cloI hj ?_ | refine optI hj ?_ | refine insI ha ?_ | refine lisI ha ?_ | refine cloI ha ?_ | refine optI ha ?_ | refine insI hb ?_ | refine lisI hb ?_ | refine cloI hb ?_ | refine optI hb ?_ | refine gnI ?_ | refine gtI ?_ | refine gsI rfl ?_ | ((conv => whnf); first | rw [hi] | rw [hj] | rw [ha] | rw [hb] ))
          refine ⟨hs, ?_⟩
          repeat (first | refine guI True.intro ?_ | refine insI hi ?_ | refine lisI hi ?_ | refine cloI hi ?_ | refine optI hi ?_ | refine insI hj ?_ | refine lisI hj ?_ | refine cloI hj ?_ | refine optI hj ?_ | refine insI ha ?_ | refine lisI ha ?_ | refine cloI ha ?_ | refine optI ha ?_ | refine insI hb ?_ | refine lisI hb ?_ | refine cloI hb ?_ | refine optI hb ?_ | refine gnI ?_ | refine gtI ?_ | refine gsI rfl ?_ | ((conv => whnf); first | rw [hi] | rw [hj] | rw [ha] | rw [hb] ))
          refine ⟨hs, ?_⟩
          repeat (first | refine guI True.intro ?_ | refine insI hi ?_ | refine lisI hi ?_ | refine cloI hi ?_ | refine optI hi ?_ | refine insI hj ?_ | refine lisI hj ?_ | refine cloI hj ?_ | refine optI hj ?_ | refine insI ha ?_ | refine lisI ha ?_ | refine cloI ha ?_ | refine optI ha ?_ | refine insI hb ?_ | refine lisI hb ?_ | refine cloI hb ?_ | refine optI hb ?_ | refine gnI ?_ | refine gtI ?_ | refine gsI rfl ?_ | ((conv => whnf); first | rw [hi] | rw [hj] | rw [ha] | rw [hb] ))
          conv => whnf
          cases e : decide ((a : Int) = b)
          · have := of_decide_eq_false e
            exact h2 (by simp [pairOk]; (first | lia | omega)) _
          · have := of_decide_eq_true e
            exact (h1 (by simp [pairOk]; (first | lia | omega)) _).1
        · have f1 := of_decide_eq_true e1
          exact (h1 (by simp [pairOk]; (first | lia | omega)) _).2
      · have f0 := of_decide_eq_true e0
        exact (h1 (by simp [pairOk]; (first | lia | omega)) _).2
    · repeat (first | refine guI True.intro ?_ | refine insI hi ?_ | refine lisI hi ?_ | refine cloI hi ?_ | refine optI hi ?_ | refine insI hj ?_ | refine lisI hj ?_ | refine cloI hj ?_ | refine optI hj ?_ | refine insI ha ?_ | refine lisI ha ?_ | refine cloI ha ?_ | refine optI ha ?_ | refine insI hb ?_ | refine lisI hb ?_ | refine cloI hb ?_ | refine optI hb ?_ | refine gnI ?_ | refine gtI ?_ | refine gsI rfl ?_ | ((conv => whnf); first | rw [hi] | rw [hj] | rw [ha] | rw [hb] ))
      refine ⟨hs, ?_⟩
      repeat (first | refine guI True.intro ?_ | refine insI hi ?_ | refine lisI hi ?_ | refine cloI hi ?_ | refine optI hi ?_ | refine insI hj ?_ | refine lisI hj ?_ | refine cloI hj ?_ | refine optI hj ?_ | refine insI ha ?_ | refine lisI ha ?_ | refine cloI ha ?_ | refine optI ha ?_ | refine insI hb ?_ | refine lisI hb ?_ | refine cloI hb ?_ | refine optI hb ?_ | refine gnI ?_ | refine gtI ?_ | refine gsI rfl ?_ | ((conv => whnf); first | rw [hi] | rw [hj] | rw [ha] | rw [hb] ))
      refine ⟨hs, ?_⟩
      repeat (first | refine guI True.intro ?_ | refine insI hi ?_ | refine lisI hi ?_ | refine cloI hi ?_ | refine optI hi ?_ | refine insI hj ?_ | refine lisI hj ?_ | refine cloI hj ?_ | refine optI hj ?_ | refine insI ha ?_ | refine lisI ha ?_ | refine cloI ha ?_ | refine optI ha ?_ | refine insI hb ?_ | refine lisI hb ?_ | refine cloI hb ?_ | refine optI hb ?_ | refine gnI ?_ | refine gtI ?_ | refine gsI rfl ?_ | ((conv => whnf); first | rw [hi] | rw [hj] | rw [ha] | rw [hb] ))
      conv => whnf
      cases e : decide ((1 : Int) < max (a : Int) b)
      · have e1 := of_decide_eq_false e
        repeat (first | refine guI True.intro ?_ | refine insI hi ?_ | refine lisI hi ?_ | refine cloI hi ?_ | refine optI hi ?_ | refine insI hj ?_ | refine lisI hj ?_ | refine cloI hj ?_ | refine optI hj ?_ | refine insI ha ?_ | refine lisI ha ?_ | refine cloI ha ?_ | refine optI ha ?_ | refine insI hb ?_ | refine lisI hb ?_ | refine cloI hb ?_ | refine optI hb ?_ | refine gnI ?_ | refine gtI ?_ | refine gsI rfl ?_ | ((conv => whnf); first | rw [hi] | rw [hj] | rw [ha] | rw [hb] ))
        refine ⟨hs, ?_⟩
        repeat (first | refine guI True.intro ?_ | refine insI hi ?_ | refine lisI hi ?_ | refine cloI hi ?_ | refine optI hi ?_ | refine insI hj ?_ | refine lisI hj ?_ | refine cloI hj ?_ | refine optI hj ?_ | refine insI ha ?_ | refine lisI ha ?_ | refine cloI ha ?_ | refine optI ha ?_ | refine insI hb ?_ | refine lisI hb ?_ | refine cloI hb ?_ | refine optI hb ?_ | refine gnI ?_ | refine gtI ?_ | refine gsI rfl ?_ | ((conv => whnf); first | rw [hi] | rw [hj] | rw [ha] | rw [hb] ))
        refine ⟨hs, ?_⟩
        repeat (first | refine guI True.intro ?_ | refine insI hi ?_ | refine lisI hi ?_ | refine cloI hi ?_ | refine optI hi ?_ | refine insI hj ?_ | refine lisI hj ?_ | refine cloI hj ?_ | refine optI hj ?_ | refine insI ha ?_ | refine lisI ha ?_ | refine cloI ha ?_ | refine optI ha ?_ | refine insI hb ?_ | refine lisI hb ?_ | refine cloI hb ?_ | refine optI hb ?_ | refine gnI ?_ | refine gtI ?_ | refine gsI rfl ?_ | ((conv => whnf); first | rw [hi] | rw [hj] | rw [ha] | rw [hb] ))
        conv => whnf
        cases e : decide ((a : Int) = b)
        · have := of_decide_eq_false e
          exact h2 (by simp [pairOk]; (first | lia | omega)) _
        · have := of_decide_eq_true e
          exact (h1 (by simp [pairOk]; (first | lia | omega)) _).1
      · have := of_decide_eq_true e
        exact (h1 (by simp [pairOk]; (first | lia | omega)) _).2
theorem alike_ok {n : Nat} (hn : 1 ≤ n) {k : Tg} (hk : isKind k) {i j : Nat} {H : Hp} {r o : List Nat} (hr : Row3 r) (ho : Row3 o) (hi : H[i]? = some (.list (rowV r))) (hj : H[j]? = some (.list (rowV o)))
    {Q : V → Hp → Prop} (q : Q (.bool (alike k r o)) H) : Cn scr n (.fn .alike) [.str k, .obj i, .obj j] H Q := by
  obtain ⟨m, rfl⟩ : ∃ m, n = m + 1 := ⟨n - 1, by (first | lia | omega)⟩
  obtain ⟨a, b, c, rfl, _⟩ := hr
  obtain ⟨x, y, z, rfl, _⟩ := ho
  refine ⟨rfl, ?_⟩
  repeat (first | refine guI True.intro ?_ | refine insI hi ?_ | refine lisI hi ?_ | refine cloI hi ?_ | refine optI hi ?_ | refine gnI ?_ | refine gtI ?_ | refine gsI rfl ?_ | ((conv => whnf); first | rw [hi] ))
  refine ⟨by simp [rowV], ?_⟩
  conv => whnf
  refine ⟨Int.natCast_nonneg _, by simp [rowV], ?_⟩
  conv => whnf
  refine ⟨True.intro, ?_⟩
  refine alike_step hk (.inl rfl) hi hj (p := 0) rfl rfl (by first | exact le1 hn rfl | exact le2 hn rfl | (first | lia | omega)) (fun e0 y0 => ?_) fun e0 loc' => ?_
  · suffices g : forW (fun _ => True) (fun v loc H k => wpSs (Cn scr m) scr b_alike (setL loc 3 v) H k) [.int (1 : Nat), .int (2 : Nat)] [.str k, .obj i, .obj j, .int (0 : Nat), y0] H
        (fun f loc H => match f with | .next => wpSs (Cn scr m) scr (.cons (.ret (.cB true)) .nil) loc H (bodyQ Q) | .cont => (bodyQ Q) .cont loc H | .ret v => (bodyQ Q) (.ret v) loc H) by
      exact ⟨g, g⟩
    refine ⟨True.intro, alike_step hk (.inr ⟨_, rfl⟩) hi hj (p := 1) rfl rfl (by first | exact le1 hn rfl | exact le2 hn rfl | (first | lia | omega)) (fun e1 y1 => ?_) fun e1 loc' => ?_⟩
    · suffices g : forW (fun _ => True) (fun v loc H k => wpSs (Cn scr m) scr b_alike (setL loc 3 v) H k) [.int (2 : Nat)] [.str k, .obj i, .obj j, .int (1 : Nat), y1] H
          (fun f loc H => match f with | .next => wpSs (Cn scr m) scr (.cons (.ret (.cB true)) .nil) loc H (bodyQ Q) | .cont => (bodyQ Q) .cont loc H | .ret v => (bodyQ Q) (.ret v) loc H) by
        exact ⟨g, g⟩
      refine ⟨True.intro, alike_step hk (.inr ⟨_, rfl⟩) hi hj (p := 2) rfl rfl (by first | exact le1 hn rfl | exact le2 hn rfl | (first | lia | omega)) (fun e2 y2 => ?_) fun e2 loc' => ?_⟩
      · have e : alike k [a, b, c] [x, y, z] = true := by simp [alike, e0, e1, e2]
        rw [e] at q
        exact ⟨⟨True.intro, q⟩, ⟨True.intro, q⟩⟩
      · have e : alike k [a, b, c] [x, y, z] = false := by simp [alike, e2]
        rw [e] at q
        exact q
    · have e : alike k [a, b, c] [x, y, z] = false := by simp [alike, e1]
      rw [e] at q
      exact q
  · have e : alike k [a, b, c] [x, y, z] = false := by simp [alike, e0]
    rw [e] at q
    exact q
theorem count_ok {n : Nat} (hn : 1 ≤ n) {i : Nat} {H : Hp} {r : List Nat} {sg : Bool} (hr : Row3 r) (hi : H[i]? = some (.list (rowV r))) {Q : V → Hp → Prop} (q : Q (.int (cnt r sg)) H) :
    Cn scr n (.fn .count) [.obj i, .bool sg] H Q := by
  obtain ⟨m, rfl⟩ : ∃ m, n = m + 1 := ⟨n - 1, by (first | lia | omega)⟩
  obtain ⟨a, b, c, rfl, _⟩ := hr
  have hi' : H[i]? = some (.list [.int a, .int b, .int c]) := hi
  refine ⟨rfl, ?_⟩
  repeat (first | refine guI True.intro ?_ | refine insI hi' ?_ | refine lisI hi' ?_ | refine cloI hi' ?_ | refine optI hi' ?_ | refine gnI ?_ | refine gtI ?_ | refine gsI rfl ?_ | ((conv => whnf); first | rw [hi'] ))
  conv => whnf
  cases hw : decide ((1 : Int) < max (a : Int) (max (b : Int) (c : Int)))
  · have e1 : wide [a, b, c] = false := (wide_eq a b c).symm.trans hw
    repeat (first | refine guI True.intro ?_ | refine insI hi' ?_ | refine lisI hi' ?_ | refine cloI hi' ?_ | refine optI hi' ?_ | refine gnI ?_ | refine gtI ?_ | refine gsI rfl ?_ | ((conv => whnf); first | rw [hi'] ))
    conv => whnf
    cases sg with
    | false =>
      repeat (first | refine guI True.intro ?_ | refine insI hi' ?_ | refine lisI hi' ?_ | refine cloI hi' ?_ | refine optI hi' ?_ | refine gnI ?_ | refine gtI ?_ | refine gsI rfl ?_ | ((conv => whnf); first | rw [hi'] ))
      have e : cnt [a, b, c] false = a + 2 * b + 4 * c := by simp [cnt, e1, total]
      rw [e] at q
      have e2 : ((a + 2 * b + 4 * c : Nat) : Int) = (a : Int) + 2 * b + 4 * c := by (first | lia | omega)
      rw [e2] at q
      exact q
    | true =>
      repeat (first | refine guI True.intro ?_ | refine insI hi' ?_ | refine lisI hi' ?_ | refine cloI hi' ?_ | refine optI hi' ?_ | refine gnI ?_ | refine gtI ?_ | refine gsI rfl ?_ | ((conv => whnf); first | rw [hi'] ))
      conv => whnf
      cases h3 : decide ((c : Int) = 1)
      · have h4 := of_decide_eq_false h3
        repeat (first | refine guI True.intro ?_ | refine insI hi' ?_ | refine lisI hi' ?_ | refine cloI hi' ?_ | refine optI hi' ?_ | refine gnI ?_ | refine gtI ?_ | refine gsI rfl ?_ | ((conv => whnf); first | rw [hi'] ))
        have e : cnt [a, b, c] true = a + 2 * b + 4 * c := by simp [cnt, e1, total]; (first | lia | omega)
        rw [e] at q
        have e2 : ((a + 2 * b + 4 * c : Nat) : Int) = (a : Int) + 2 * b + 4 * c := by (first | lia | omega)
        rw [e2] at q
        exact q
      · have h4 := of_decide_eq_true h3
        have e : cnt [a, b, c] true = 0 := by simp [cnt, e1]; (first | lia | omega)
        rw [e] at q
        exact q
  · have e1 : wide [a, b, c] = true := (wide_eq a b c).symm.trans hw
    have e : cnt [a, b, c] sg = 0 := by simp [cnt, e1]
    rw [e] at q
    exact q
end Mine
namespace Mine
variable {scr : List Int}
structure RA (H : Hp) (lf h lg : Nat) (σ : S) : Prop where
  le : H[lf]? = some (.list [.int σ.left])
  held : Held [lf, lg] H h σ.hd
  lo : H[lg]? = some (.list (σ.lg.map entV))
  ne : lf ≠ lg
theorem amongI_row (r : List Nat) : amongI 1 (rowV r) = some (decide (1 ∈ r)) := by
  induction r with
  | nil => rfl
  | cons a r ih =>
    show (amongI 1 (rowV r)).map _ = _
    rw [ih]
    show some _ = some _
    congr 1
    by_cases h : 1 = a
    · subst h; simp
    · have : ¬ (1 : Int) = a := by (first | lia | omega)
      simp [h, this]
theorem seen_ra {H : Hp} {lf h lg : Nat} {σ : S} {e : X} {Q : V → Hp → Prop} {n : Nat} (hn : 2 ≤ n) (he : e.fit) (R : RA H lf h lg σ) (hL : σ.lg.length ≤ 100000)
    (q : ∀ j H', RA H' lf h lg (σ.see e) → Up [lf, h, lg] H H' → j ∉ [lf, h, lg] → H.length ≤ j → H'[j]? = some (.list (rowV (e.codes σ.hd))) → Q (.obj j) H') :
    Cn scr n (.fn .seen) [e.v, .obj h, .obj lg] H Q := by
  refine seen_ok hn he R.held.at R.lo hL fun j H' u hj hr hl => q j H' ⟨u.2 _ _ R.le (by simp [R.ne]), R.held.up (u.mono (by simp)), hl, R.ne⟩ (u.mono (by simp)) ?_ hj hr
  have h1 := lt_at R.le
  have h2 := lt_at R.lo
  obtain ⟨vs, h3, _⟩ := R.held.at
  have h3 := lt_at h3
  simp only [List.mem_cons, List.not_mem_nil, or_false, not_or]
  (first | lia | omega)
noncomputable def b_arm : Ss := match t_chosen with | .cons _ (.cons _ (.cons (.for2 _ _ _ b) _)) => b | _ => .nil
noncomputable def b_lab : Ss := match b_arm with | .cons _ (.cons (.for_ _ _ b) _) => b | _ => .nil
noncomputable def chB (k : Tg) (ev rv dv : V) (h lg jr : Nat) : List V := [.tup [.str .kCase, .str k, ev, rv], .obj h, .obj lg, .obj jr, dv]
theorem labs_ok {n : Nat} (hn : 4 ≤ n) {k : Tg} (hk : isKind k) {row : List Nat} (hr : Row3 row) {lf h lg jr : Nat} {ev rv dv x y : V} (hy : y.ok) (jw : jr ∉ [lf, h, lg]) {K : Fl → List V → Hp → Prop} : ∀ (ls : List X), (∀ e ∈ ls, e.word) →
    ∀ (σ : S) (H : Hp) (tl : List V), RA H lf h lg σ → H[jr]? = some (.list (rowV row)) → σ.lg.length + ls.length ≤ 5000 → (tl = [] ∨ ∃ z, tl = [z]) →
    (∀ σ' H' tl', pickL k row ls σ = (false, σ') → RA H' lf h lg σ' → Up [lf, h, lg] H H' → (tl' = [] ∨ ∃ z, tl' = [z]) → K .next (chB k ev rv dv h lg jr ++ (x :: y :: tl')) H') →
    (∀ σ' H' loc', pickL k row ls σ = (true, σ') → RA H' lf h lg σ' → Up [lf, h, lg] H H' → K (.ret y) loc' H') →
    forW (fun _ => True) (fun v loc H k => wpSs (Cn scr n) scr b_lab (setL loc 7 v) H k) (ls.map X.v) (chB k ev rv dv h lg jr ++ (x :: y :: tl)) H K := by
  intro ls
  induction ls with
  | nil =>
    intro hw σ H tl R hj hb ht k1 k2
    exact ⟨True.intro, k1 σ H tl rfl R .refl ht⟩
  | cons l r ih0 =>
    intro hw σ H tl R hj hb ht k1 k2
    have hl : l.word := hw l (by simp)
    have rl := word_row hl (fun s hs => R.held.row hs)
    have key : wpSs (Cn scr n) scr b_lab (chB k ev rv dv h lg jr ++ [x, y, l.v]) H (fun f loc H => match f with
        | .next => forW (fun _ => True) (fun v loc H k => wpSs (Cn scr n) scr b_lab (setL loc 7 v) H k) (r.map X.v) loc H K
        | .cont => forW (fun _ => True) (fun v loc H k => wpSs (Cn scr n) scr b_lab (setL loc 7 v) H k) (r.map X.v) loc H K
        | .ret v => K (.ret v) loc H) := by
      unfold chB
      repeat (first | refine guI True.intro ?_ | refine guI (X.v_ok _) ?_ | refine guI (T.v_ok _) ?_ | refine gnI ?_ | refine gtI ?_ | refine gsI rfl ?_)
      refine seen_ra (by first | exact le1 hn rfl | exact le2 hn rfl | (first | lia | omega)) (.inl hl) R (by first | exact le1 hn rfl | exact le2 hn rfl | (first | lia | omega)) fun j H' R' u' _ _ hr' => ?_
      repeat (first | refine guI True.intro ?_ | refine guI (X.v_ok _) ?_ | refine guI (T.v_ok _) ?_ | refine gnI ?_ | refine gtI ?_ | refine gsI rfl ?_)
      refine alike_ok (by first | exact le1 hn rfl | exact le2 hn rfl | (first | lia | omega)) hk hr rl (u'.2 _ _ hj jw) hr' ?_
      conv => whnf
      have hlg : (σ.see l).lg.length ≤ σ.lg.length + 1 := by cases l <;> simp [S.see, X.logs]
      cases e : alike k row (l.codes σ.hd)
      · have ep : pickL k row (l :: r) σ = pickL k row r (σ.see l) := by simp only [pickL, e, if_false, Bool.false_eq_true]
        rw [ep] at k1 k2
        refine ih0 (fun e he => hw e (List.mem_cons_of_mem _ he)) (σ.see l) H' [l.v] R' (u'.2 _ _ hj jw) (by simp at hb; (first | lia | omega)) (.inr ⟨_, rfl⟩) (fun σ' H2 tl' e2 R2 u2 t2 => k1 σ' H2 tl' e2 R2 (u'.trans u2) t2) fun σ' H2 loc' e2 R2 u2 => k2 σ' H2 loc' e2 R2 (u'.trans u2)
      · have ep : pickL k row (l :: r) σ = (true, σ.see l) := by simp only [pickL, e, if_true]
        conv => whnf
        refine ⟨ne_of_ok hy, ?_⟩
        exact k2 _ _ _ ep R' u'
    refine ⟨True.intro, ?_⟩
    rcases ht with rfl | ⟨z, rfl⟩
    · exact key
    · exact key
theorem pickL_len {k : Tg} {row : List Nat} : ∀ {ls : List X} {σ : S} {b : Bool} {σ' : S}, pickL k row ls σ = (b, σ') → σ'.lg.length ≤ σ.lg.length + ls.length ∧ σ'.left = σ.left ∧ σ'.hd = σ.hd := by
  intro ls
  induction ls with
  | nil => intro σ b σ' e; cases e; exact ⟨Nat.le_refl _, rfl, rfl⟩
  | cons l r ih0 =>
    intro σ b σ' e
    have hlg : (σ.see l).lg.length ≤ σ.lg.length + 1 := by cases l <;> simp [S.see, X.logs]
    simp only [pickL] at e
    split at e
    · cases e
      simp only [List.length_cons]
      exact ⟨by (first | lia | omega), rfl, rfl⟩
    · have ih := ih0 e
      simp only [List.length_cons]
      exact ⟨by (first | lia | omega), ih.2.1, ih.2.2⟩
theorem As.pick_len {k : Tg} {row : List Nat} : ∀ {B : As} {σ : S} {b : Option T} {σ' : S}, B.pick k row σ = (b, σ') → σ'.lg.length ≤ σ.lg.length + B.nlab ∧ σ'.left = σ.left ∧ σ'.hd = σ.hd := by
  intro B
  refine _root_.Mine.As.ind (P := fun B => ∀ {σ : S} {b : Option T} {σ' : S}, B.pick k row σ = (b, σ') → σ'.lg.length ≤ σ.lg.length + B.nlab ∧ σ'.left = σ.left ∧ σ'.hd = σ.hd) ?_ ?_ B
  · intro σ b σ' e
    cases e; simp
  · intro ls t r ih0 σ b σ' e
    simp only [As.pick] at e
    split at e
    · rename_i h
      cases e
      have := pickL_len h
      simp only [As.nlab]
      exact ⟨by (first | lia | omega), this.2⟩
    · rename_i h
      have a := pickL_len h
      have b := ih0 e
      simp only [As.nlab]
      exact ⟨by (first | lia | omega), by (first | lia | omega), b.2.2.trans a.2.2⟩
noncomputable def tlOk (tl : List V) : Prop := tl = [] ∨ (∃ x y, tl = [x, y]) ∨ ∃ x y z, tl = [x, y, z]
noncomputable def armStep (C : CallP) (scr : List Int) (v : V) (loc : List V) (H : Hp) (k : Fl → List V → Hp → Prop) : Prop := tupK v fun l => twoK l fun x y => wpSs C scr b_arm (setL (setL loc 5 x) 6 y) H k
theorem arms_ok {n : Nat} (hn : 4 ≤ n) {k : Tg} (hk : isKind k) {row : List Nat} (hr : Row3 row) {lf h lg jr : Nat} {ev rv dv : V} (jw : jr ∉ [lf, h, lg]) {K : Fl → List V → Hp → Prop} (rest : List V) : ∀ (AA : As), AA.wf →
    ∀ (σ : S) (H : Hp) (tl : List V), RA H lf h lg σ → H[jr]? = some (.list (rowV row)) → σ.lg.length + AA.nlab ≤ 5000 → tlOk tl →
    (∀ σ' H' tl', AA.pick k row σ = (none, σ') → RA H' lf h lg σ' → Up [lf, h, lg] H H' → tlOk tl' → forW (fun _ => True) (armStep (Cn scr n) scr) rest (chB k ev rv dv h lg jr ++ tl') H' K) →
    (∀ t σ' H' loc', AA.pick k row σ = (some t, σ') → RA H' lf h lg σ' → Up [lf, h, lg] H H' → K (.ret t.v) loc' H') →
    forW (fun _ => True) (armStep (Cn scr n) scr) (AA.vs ++ rest) (chB k ev rv dv h lg jr ++ tl) H K := by
  intro AA
  refine As.ind (P := fun AA => AA.wf →
    ∀ (σ : S) (H : Hp) (tl : List V), RA H lf h lg σ → H[jr]? = some (.list (rowV row)) → σ.lg.length + AA.nlab ≤ 5000 → tlOk tl →
    (∀ σ' H' tl', AA.pick k row σ = (none, σ') → RA H' lf h lg σ' → Up [lf, h, lg] H H' → tlOk tl' → forW (fun _ => True) (armStep (Cn scr n) scr) rest (chB k ev rv dv h lg jr ++ tl') H' K) →
    (∀ t σ' H' loc', AA.pick k row σ = (some t, σ') → RA H' lf h lg σ' → Up [lf, h, lg] H H' → K (.ret t.v) loc' H') →
    forW (fun _ => True) (armStep (Cn scr n) scr) (AA.vs ++ rest) (chB k ev rv dv h lg jr ++ tl) H K) ?_ ?_ AA
  · intro hw σ H tl R hj hb ht k1 k2
    exact k1 σ H tl rfl R .refl ht
  · intro ls t r ih0 hw σ H tl R hj hb ht k1 k2
    have hb' : σ.lg.length + (ls.length + r.nlab) ≤ 5000 := hb
    have key : ∀ tl, (tl = [] ∨ ∃ z, tl = [z]) → wpSs (Cn scr n) scr b_arm (chB k ev rv dv h lg jr ++ (.tup (ls.map X.v) :: t.v :: tl)) H (fun f loc H => match f with
        | .next => forW (fun _ => True) (armStep (Cn scr n) scr) (r.vs ++ rest) loc H K
        | .cont => forW (fun _ => True) (armStep (Cn scr n) scr) (r.vs ++ rest) loc H K
        | .ret v => K (.ret v) loc H) := by
      intro tl ht
      refine ⟨ne_of_ok True.intro, ?_⟩
      conv => whnf
      refine ⟨ne_of_ok True.intro, ?_⟩
      refine labs_ok hn hk hr (T.v_ok t) jw ls hw.1 σ H tl R hj (by first | exact le1 hn rfl | exact le2 hn rfl | (first | lia | omega)) ht (fun σ' H' tl' e R' u' ht' => ?_) (fun σ' H' loc' e R' u' => k2 t σ' H' loc' ?_ R' u')
      · have ep : As.pick k row (.cons ls t r) σ = r.pick k row σ' := by simp only [As.pick, e]
        rw [ep] at k1 k2
        have hl := pickL_len e
        refine ih0 hw.2.2 σ' H' (.tup (ls.map X.v) :: t.v :: tl') R' (u'.2 _ _ hj jw) (by first | exact le1 hn rfl | exact le2 hn rfl | (first | lia | omega)) (by rcases ht' with rfl | ⟨z, rfl⟩; exact .inr (.inl ⟨_, _, rfl⟩); exact .inr (.inr ⟨_, _, _, rfl⟩)) (fun σ2 H2 tl2 e2 R2 u2 t2 => k1 σ2 H2 tl2 e2 R2 (u'.trans u2) t2) fun t σ2 H2 loc2 e2 R2 u2 => k2 t σ2 H2 loc2 e2 R2 (u'.trans u2)
      · simp only [As.pick, e]
    refine ⟨True.intro, ?_⟩
    rcases ht with rfl | ⟨x, y, rfl⟩ | ⟨x, y, z, rfl⟩
    · exact key [] (.inl rfl)
    · exact key [] (.inl rfl)
    · exact key [z] (.inr ⟨z, rfl⟩)
theorem chosen_ok {n : Nat} (hn : 5 ≤ n) {k : Tg} (hk : isKind k) {e : X} {pre post : As} {hasD : Bool} {d : T} {lf h lg : Nat} {σ : S} {H : Hp} {Q : V → Hp → Prop} (wf : (T.case k e pre hasD d post).wf) (R : RA H lf h lg σ) (hb : σ.lg.length + 5 ≤ 5000)
    (q : ∀ H', RA H' lf h lg (chosen k e pre d post σ).2 → Up [lf, h, lg] H H' → Q (chosen k e pre d post σ).1.v H') :
    Cn scr n (.fn .chosen) [(T.case k e pre hasD d post).v, .obj h, .obj lg] H Q := by
  obtain ⟨m, rfl⟩ : ∃ m, n = m + 1 := ⟨n - 1, by (first | lia | omega)⟩
  obtain ⟨_, he, hl, wpre, wpost, _, hD⟩ := wf
  refine ⟨rfl, ?_⟩
  repeat (first | refine guI True.intro ?_ | refine guI (X.v_ok _) ?_ | refine guI (T.v_ok _) ?_ | refine gnI ?_ | refine gtI ?_ | refine gsI rfl ?_)
  refine seen_ra (by first | exact le1 hn rfl | exact le2 hn rfl | (first | lia | omega)) (.inl he) R (by first | exact le1 hn rfl | exact le2 hn rfl | (first | lia | omega)) fun j H1 R1 u1 jw _ hr => ?_
  have hlg : (σ.see e).lg.length ≤ σ.lg.length + 1 := by cases e <;> simp [S.see, X.logs]
  have hrow := word_row he (fun s hs => R.held.row hs)
  repeat (first | refine guI True.intro ?_ | refine guI (X.v_ok _) ?_ | refine guI (T.v_ok _) ?_ | refine gnI ?_ | refine gtI ?_ | refine gsI rfl ?_)
  show forW (fun _ => True) (armStep (Cn scr m) scr) (pre.vs ++ ((bif hasD then [.tup [.none, d.v]] else []) ++ post.vs)) (chB k e.v (.tup (pre.vs ++ ((bif hasD then [.tup [.none, d.v]] else []) ++ post.vs))) .none h lg j ++ []) H1 _
  refine arms_ok (by first | exact le1 hn rfl | exact le2 hn rfl | (first | lia | omega)) hk hrow jw _ pre wpre _ _ [] R1 hr (by first | exact le1 hn rfl | exact le2 hn rfl | (first | lia | omega)) (.inl rfl) (fun σ2 H2 tl2 e2 R2 u2 t2 => ?_) (fun t σ2 H2 loc2 e2 R2 u2 => ?_)
  · have hl2 := As.pick_len e2
    have fin : ∀ dv rv tl, dv = d.v → tlOk tl → forW (fun _ => True) (armStep (Cn scr m) scr) (post.vs ++ []) (chB k e.v rv dv h lg j ++ tl) H2 (fun f loc H => match f with
        | .next => wpSs (Cn scr m) scr (.cons (.ret (.loc 4)) .nil) loc H (bodyQ Q)
        | .cont => (bodyQ Q) .cont loc H
        | .ret v => (bodyQ Q) (.ret v) loc H) := by
      intro dv rv tl hd ht
      refine arms_ok (by first | exact le1 hn rfl | exact le2 hn rfl | (first | lia | omega)) hk hrow jw _ post wpost _ _ tl R2 (u2.2 _ _ hr jw) (by first | exact le1 hn rfl | exact le2 hn rfl | (first | lia | omega)) ht (fun σ3 H3 tl3 e3 R3 u3 t3 => ⟨True.intro, ?_⟩) (fun t σ3 H3 loc3 e3 R3 u3 => ?_)
      · have ec : chosen k e pre d post σ = (d, σ3) := by simp only [chosen, e2, e3]
        rw [ec] at q
        have g := q H3 R3 ((u1.trans u2).trans u3)
        subst hd
        exact ⟨ne_of_ok (T.v_ok d), g⟩
      · have ec : chosen k e pre d post σ = (t, σ3) := by simp only [chosen, e2, e3]
        rw [ec] at q
        exact q H3 R3 ((u1.trans u2).trans u3)
    cases hasD with
    | false =>
      have := hD rfl
      subst this
      have g := fin .none (.tup (pre.vs ++ ((bif false then [.tup [.none, T.nil.v]] else []) ++ post.vs))) tl2 rfl t2
      rw [List.append_nil] at g
      exact g
    | true =>
      have g := fun tl ht => fin d.v (.tup (pre.vs ++ ((bif true then [.tup [.none, d.v]] else []) ++ post.vs))) tl rfl ht
      rw [List.append_nil] at g
      refine ⟨True.intro, ?_⟩
      rcases t2 with rfl | ⟨x, y, rfl⟩ | ⟨x, y, z, rfl⟩
      all_goals
        refine ⟨ne_of_ok True.intro, ?_⟩
        conv => whnf
        refine ⟨ne_of_ok (T.v_ok d), ?_⟩
      · exact g [.none, d.v] (.inr (.inl ⟨_, _, rfl⟩))
      · exact g [.none, d.v] (.inr (.inl ⟨_, _, rfl⟩))
      · exact g [.none, d.v, z] (.inr (.inr ⟨_, _, _, rfl⟩))
  · have ec : chosen k e pre d post σ = (t, σ2) := by simp only [chosen, e2]
    rw [ec] at q
    exact q H2 R2 (u1.trans u2)
end Mine
namespace Mine
variable {scr : List Int}
theorem X.logs_len {e : X} {hd : Nat → List Nat} : (e.logs hd).length ≤ 1 := by cases e <;> simp [X.logs]
theorem chosen_len {k : Tg} {e : X} {pre post : As} {d : T} {σ : S} : (chosen k e pre d post σ).2.lg.length ≤ σ.lg.length + 1 + (pre.nlab + post.nlab) ∧ (chosen k e pre d post σ).2.left = σ.left := by
  have h0 : (σ.see e).lg.length ≤ σ.lg.length + 1 := by
    have := X.logs_len (e := e) (hd := σ.hd)
    simp only [S.see, List.length_append]; (first | lia | omega)
  unfold chosen
  split
  · rename_i h
    have := As.pick_len h
    exact ⟨by simp only; (first | lia | omega), this.2.1⟩
  · rename_i h
    have a := As.pick_len h
    split
    · rename_i h
      have := As.pick_len h
      exact ⟨by simp only; (first | lia | omega), this.2.1.trans a.2.1⟩
    · rename_i h
      have := As.pick_len h
      exact ⟨by simp only; (first | lia | omega), this.2.1.trans a.2.1⟩
theorem As.pick_some {k : Tg} {row : List Nat} : ∀ {B : As} {σ : S} {t : T} {σ' : S}, B.pick k row σ = (some t, σ') → (B.wf → t.wf) ∧ t.ht ≤ B.ht := by
  intro B
  refine _root_.Mine.As.ind (P := fun B => ∀ {σ : S} {t : T} {σ' : S}, B.pick k row σ = (some t, σ') → (B.wf → t.wf) ∧ t.ht ≤ B.ht) ?_ ?_ B
  · intro σ t σ' e
    cases e
  · intro ls t r ih0 σ t' σ' e
    simp only [As.pick] at e
    split at e
    · cases e
      exact ⟨fun w => w.2.1, Nat.le_max_left _ _⟩
    · have b := ih0 e
      exact ⟨fun w => b.1 w.2.2, Nat.le_trans b.2 (Nat.le_max_right _ _)⟩
theorem chosen_wf {k : Tg} {e : X} {pre post : As} {hasD : Bool} {d : T} {σ : S} (w : (T.case k e pre hasD d post).wf) : (chosen k e pre d post σ).1.wf ∧ (chosen k e pre d post σ).1.ht ≤ max d.ht (max pre.ht post.ht) := by
  obtain ⟨_, _, _, w1, w2, w3, _⟩ := w
  unfold chosen
  split
  · rename_i h
    have := As.pick_some h
    exact ⟨this.1 w1, by simp only; (first | lia | omega)⟩
  · split
    · rename_i h
      have := As.pick_some h
      exact ⟨this.1 w2, by simp only; (first | lia | omega)⟩
    · exact ⟨w3, Nat.le_max_left _ _⟩
noncomputable def Cmd.wf : Cmd → Prop
  | .one t => t.wf
  | .parts ts => ts.wf
  | .round ts => ts.wf
  | .loop e ts => e.test ∧ ts.wf
  | .reps _ t => t.wf
  | .ever t => t.wf
noncomputable def Cmd.extra : Cmd → Nat
  | .loop _ _ => 1
  | _ => 0
noncomputable def Cmd.gain : Cmd → Bool → Nat
  | .round _, true => 1
  | _, _ => 0
theorem Ev.bound {c : Cmd} {σ σ' : S} {r : Bool} (h : Ev c σ r σ') : c.wf → σ'.lg.length + 8 * σ'.left + c.gain r ≤ σ.lg.length + 8 * σ.left + c.extra ∧ σ'.left ≤ σ.left ∧ σ'.left + c.gain r ≤ σ.left := by
  have sl : ∀ (σ : S) (e : X), (σ.see e).lg.length ≤ σ.lg.length + 1 ∧ (σ.see e).left = σ.left := fun σ e => by
    have := X.logs_len (e := e) (hd := σ.hd)
    refine ⟨?_, rfl⟩
    simp only [S.see, List.length_append]; (first | lia | omega)
  have dl : ∀ (σ : S), (S.dec σ).lg = σ.lg ∧ (S.dec σ).left = σ.left - 1 := fun σ => ⟨rfl, rfl⟩
  induction h with
  | out h => intro; simp [Cmd.gain, Cmd.extra]
  | @nil σ h => intro; have := dl σ; simp only [Cmd.gain, Cmd.extra, this.1, this.2]; (first | lia | omega)
  | @set s e σ h =>
    intro
    have := X.logs_len (e := e) (hd := σ.hd)
    have h2 : (σ.dec.put s e).lg.length = σ.lg.length + (e.logs σ.hd).length ∧ (σ.dec.put s e).left = σ.left - 1 := by simp [S.put, S.dec]
    show (σ.dec.put s e).lg.length + 8 * (σ.dec.put s e).left + 0 ≤ σ.lg.length + 8 * σ.left + 0 ∧ (σ.dec.put s e).left ≤ σ.left ∧ (σ.dec.put s e).left + 0 ≤ σ.left
    (first | lia | omega)
  | @ift e a b σ σ' r h0 h1 _ ih =>
    intro w
    have a := ih w.2.1
    have b := sl σ.dec e
    have c := dl σ
    simp only [Cmd.gain, Cmd.extra, c.1, c.2] at *
    (first | lia | omega)
  | @iff e a b σ σ' r h0 h1 _ ih =>
    intro w
    have a := ih w.2.2
    have b := sl σ.dec e
    have c := dl σ
    simp only [Cmd.gain, Cmd.extra, c.1, c.2] at *
    (first | lia | omega)
  | @case k e pre hasD d post σ σ' r h0 _ ih =>
    intro w
    have a := ih (chosen_wf w).1
    have b := chosen_len (k := k) (e := e) (pre := pre) (post := post) (d := d) (σ := σ.dec)
    have c := dl σ
    have w := w.2.2.1
    simp only [Cmd.gain, Cmd.extra, c.1, c.2] at *
    (first | lia | omega)
  | @block ts σ σ' r h0 _ ih =>
    intro w
    have a := ih w.1
    have c := dl σ
    simp only [Cmd.gain, Cmd.extra, c.1, c.2] at *
    (first | lia | omega)
  | @rep e sg t σ σ' r h0 _ ih =>
    intro w
    have a := ih w.2
    have b := sl σ.dec e
    have c := dl σ
    simp only [Cmd.gain, Cmd.extra, c.1, c.2] at *
    (first | lia | omega)
  | @forever t σ σ' r h0 _ ih =>
    intro w
    have a := ih w
    have c := dl σ
    simp only [Cmd.gain, Cmd.extra, c.1, c.2] at *
    (first | lia | omega)
  | @while_ e t σ σ' r h0 _ ih =>
    intro w
    have a := ih ⟨w.1, w.2, True.intro⟩
    have c := dl σ
    simp only [Cmd.gain, Cmd.extra, c.1, c.2] at *
    (first | lia | omega)
  | @forF a e step body σ σ' h0 _ ih =>
    intro w
    have a := ih w.2.1
    have c := dl σ
    simp only [Cmd.gain, Cmd.extra, c.1, c.2] at *
    (first | lia | omega)
  | @forT a e step body σ σ1 σ' r h0 _ _ ih1 ih2 =>
    intro w
    have a := ih1 w.2.1
    have b := ih2 ⟨w.1, w.2.2.2.1, w.2.2.1, True.intro⟩
    have c := dl σ
    simp only [Cmd.gain, Cmd.extra, c.1, c.2] at *
    (first | lia | omega)
  | pnil => intro; simp [Cmd.gain, Cmd.extra]
  | pF _ ih => intro w; have a := ih w.1; simp only [Cmd.gain, Cmd.extra] at *; (first | lia | omega)
  | pT _ _ ih1 ih2 => intro w; have a := ih1 w.1; have b := ih2 w.2; simp only [Cmd.gain, Cmd.extra] at *; (first | lia | omega)
  | rout h => intro; simp [Cmd.gain, Cmd.extra]
  | @round ts σ σ' r h0 _ ih =>
    intro w
    have a := ih w
    have c := dl σ
    cases r <;> simp only [Cmd.gain, Cmd.extra, c.1, c.2] at * <;> (first | lia | omega)
  | @lend e ts σ h => intro w; have b := sl σ e; simp only [Cmd.gain, Cmd.extra]; (first | lia | omega)
  | @lF e ts σ σ' h _ ih => intro w; have a := ih w.2; have b := sl σ e; simp only [Cmd.gain, Cmd.extra] at *; (first | lia | omega)
  | @lT e ts σ σ1 σ' r h _ _ ih1 ih2 => intro w; have a := ih1 w.2; have c := ih2 w; have b := sl σ e; simp only [Cmd.gain, Cmd.extra] at *; (first | lia | omega)
  | n0 => intro; simp [Cmd.gain, Cmd.extra]
  | nF _ ih => intro w; have a := ih ⟨w, True.intro⟩; simp only [Cmd.gain, Cmd.extra] at *; (first | lia | omega)
  | nT _ _ ih1 ih2 => intro w; have a := ih1 ⟨w, True.intro⟩; have b := ih2 w; simp only [Cmd.gain, Cmd.extra] at *; (first | lia | omega)
  | eF _ ih => intro w; have a := ih ⟨w, True.intro⟩; simp only [Cmd.gain, Cmd.extra] at *; (first | lia | omega)
  | eT _ _ ih1 ih2 => intro w; have a := ih1 ⟨w, True.intro⟩; have b := ih2 w; simp only [Cmd.gain, Cmd.extra] at *; (first | lia | omega)
noncomputable def Bd (σ : S) : Prop := σ.lg.length + 8 * σ.left ≤ 4000
noncomputable def RdOk (scr : List Int) (n : Nat) (t : T) : Prop := ∀ (lf h lg : Nat) (σ : S) (H : Hp) (Q : V → Hp → Prop), RA H lf h lg σ → Bd σ →
  (∀ r σ' H', Ev (.one t) σ r σ' → RA H' lf h lg σ' → Up [lf, h, lg] H H' → Q (.bool r) H') → Cn scr n (.fn .reading) [.obj lf, t.v, .obj h, .obj lg] H Q
noncomputable def RnOk (scr : List Int) (n : Nat) (ts : Ts) : Prop := ∀ (lf h lg : Nat) (σ : S) (H : Hp) (Q : V → Hp → Prop), RA H lf h lg σ → Bd σ →
  (∀ r σ' H', Ev (.round ts) σ r σ' → RA H' lf h lg σ' → Up [lf, h, lg] H H' → Q (.bool r) H') → Cn scr n (.fn .round) [.obj lf, .tup ts.vs, .obj h, .obj lg] H Q
theorem RA.dec {H : Hp} {lf h lg : Nat} {σ : S} (R : RA H lf h lg σ) (h0 : 0 < σ.left) : RA (H.set lf (.list [.int ((σ.left : Int) - 1)])) lf h lg σ.dec ∧ Up [lf, h, lg] H (H.set lf (.list [.int ((σ.left : Int) - 1)])) := by
  have e : (σ.left : Int) - 1 = ((σ.left - 1 : Nat) : Int) := by (first | lia | omega)
  refine ⟨⟨?_, R.held.up (Up.set (by simp)), at_set_ne R.lo R.ne, R.ne⟩, Up.set (by simp)⟩
  rw [at_set_self R.le, e]; rfl
noncomputable def t_reading2 : Ss := match t_reading with | .cons _ (.cons _ r) => r | _ => .nil
noncomputable def t_round2 : Ss := match t_round with | .cons _ (.cons _ r) => r | _ => .nil
theorem reading_head {n : Nat} {t : T} {lf h lg : Nat} {σ : S} {H : Hp} {Q : V → Hp → Prop} (R : RA H lf h lg σ) (h0 : σ.left = 0 → Q (.bool false) H)
    (h1 : 0 < σ.left → ∀ H', RA H' lf h lg σ.dec → Up [lf, h, lg] H H' → wpSs (Cn scr n) scr t_reading2 [.obj lf, t.v, .obj h, .obj lg] H' (bodyQ Q)) : Cn scr (n + 1) (.fn .reading) [.obj lf, t.v, .obj h, .obj lg] H Q := by
  have hl := R.le
  refine ⟨rfl, ?_⟩
  repeat (first | refine guI True.intro ?_ | refine insI hl ?_ | refine lisI hl ?_ | refine cloI hl ?_ | refine optI hl ?_ | refine gnI ?_ | refine gtI ?_ | refine gsI rfl ?_ | ((conv => whnf); first | rw [hl] ))
  conv => whnf
  cases e : decide ((σ.left : Int) ≤ 0)
  · have e := of_decide_eq_false e
    repeat (first | refine guI True.intro ?_ | refine insI hl ?_ | refine lisI hl ?_ | refine cloI hl ?_ | refine optI hl ?_ | refine gnI ?_ | refine gtI ?_ | refine gsI rfl ?_ | ((conv => whnf); first | rw [hl] ))
    refine ⟨by simp, ?_⟩
    repeat (first | refine guI True.intro ?_ | refine insI hl ?_ | refine lisI hl ?_ | refine cloI hl ?_ | refine optI hl ?_ | refine gnI ?_ | refine gtI ?_ | refine gsI rfl ?_ | ((conv => whnf); first | rw [hl] ))
    refine ⟨by simp, rfl, ?_⟩
    obtain ⟨R1, u1⟩ := R.dec (by first | exact le1 hn rfl | exact le2 hn rfl | (first | lia | omega))
    exact h1 (by first | exact le1 hn rfl | exact le2 hn rfl | (first | lia | omega)) _ R1 u1
  · have e := of_decide_eq_true e
    exact h0 (by first | exact le1 hn rfl | exact le2 hn rfl | (first | lia | omega))
theorem round_head {n : Nat} {x : V} {lf h lg : Nat} {σ : S} {H : Hp} {Q : V → Hp → Prop} (R : RA H lf h lg σ) (h0 : σ.left = 0 → Q (.bool false) H)
    (h1 : 0 < σ.left → ∀ H', RA H' lf h lg σ.dec → Up [lf, h, lg] H H' → wpSs (Cn scr n) scr t_round2 [.obj lf, x, .obj h, .obj lg] H' (bodyQ Q)) : Cn scr (n + 1) (.fn .round) [.obj lf, x, .obj h, .obj lg] H Q := by
  have hl := R.le
  refine ⟨rfl, ?_⟩
  repeat (first | refine guI True.intro ?_ | refine insI hl ?_ | refine lisI hl ?_ | refine cloI hl ?_ | refine optI hl ?_ | refine gnI ?_ | refine gtI ?_ | refine gsI rfl ?_ | ((conv => whnf); first | rw [hl] ))
  conv => whnf
  cases e : decide ((σ.left : Int) ≤ 0)
  · have e := of_decide_eq_false e
    repeat (first | refine guI True.intro ?_ | refine insI hl ?_ | refine lisI hl ?_ | refine cloI hl ?_ | refine optI hl ?_ | refine gnI ?_ | refine gtI ?_ | refine gsI rfl ?_ | ((conv => whnf); first | rw [hl] ))
    refine ⟨by simp, ?_⟩
    repeat (first | refine guI True.intro ?_ | refine insI hl ?_ | refine lisI hl ?_ | refine cloI hl ?_ | refine optI hl ?_ | refine gnI ?_ | refine gtI ?_ | refine gsI rfl ?_ | ((conv => whnf); first | rw [hl] ))
    refine ⟨by simp, rfl, ?_⟩
    obtain ⟨R1, u1⟩ := R.dec (by first | exact le1 hn rfl | exact le2 hn rfl | (first | lia | omega))
    exact h1 (by first | exact le1 hn rfl | exact le2 hn rfl | (first | lia | omega)) _ R1 u1
  · have e := of_decide_eq_true e
    exact h0 (by first | exact le1 hn rfl | exact le2 hn rfl | (first | lia | omega))
end Mine
namespace Mine
variable {scr : List Int}
theorem RA.put {H : Hp} {lf h lg j : Nat} {σ : S} {e : X} {s : Nat} (R : RA H lf h lg (σ.see e)) (he : e.word) (hj : H[j]? = some (.list (rowV (e.codes σ.hd)))) (jw : j ∉ [lf, h, lg]) :
    ∃ vs, H[h]? = some (.list vs) ∧ vs.length = 3 ∧ RA (H.set h (.list (vs.set s (.obj j)))) lf h lg (σ.put s e) := by
  obtain ⟨vs, a, b, c⟩ := R.held.put (s := s) (word_row he (fun s hs => R.held.row hs)) hj (by simp at jw ⊢; (first | lia | omega))
  have hw := R.held.1
  simp only [List.mem_cons, List.not_mem_nil, or_false, not_or] at hw
  exact ⟨vs, a, b, at_set_ne R.le hw.1, c, at_set_ne R.lo hw.2, R.ne⟩
noncomputable def Ts.has : Ts → T → Prop
  | .nil, _ => False
  | .cons a r, t => t = a ∨ r.has t
theorem parts_ok {n : Nat} {lf h lg : Nat} {x : V} {K : Fl → List V → Hp → Prop} : ∀ (ts : Ts), (∀ t, ts.has t → RdOk scr n t) → ts.wf → ∀ (σ : S) (H : Hp) (tl : List V), RA H lf h lg σ → Bd σ → (tl = [] ∨ ∃ z, tl = [z]) →
    (∀ σ' H' loc', Ev (.parts ts) σ true σ' → RA H' lf h lg σ' → Up [lf, h, lg] H H' → K .next loc' H') →
    (∀ σ' H' loc', Ev (.parts ts) σ false σ' → RA H' lf h lg σ' → Up [lf, h, lg] H H' → K (.ret (.bool false)) loc' H') →
    forW (fun _ => True) (fun v loc H k => wpSs (Cn scr n) scr (match t_round2 with | .cons (.for_ _ _ b) _ => b | _ => .nil) (setL loc 4 v) H k) ts.vs (.obj lf :: x :: .obj h :: .obj lg :: tl) H K := by
  intro ts
  refine Ts.ind (P := fun ts => (∀ t, ts.has t → RdOk scr n t) → ts.wf → ∀ (σ : S) (H : Hp) (tl : List V), RA H lf h lg σ → Bd σ → (tl = [] ∨ ∃ z, tl = [z]) →
    (∀ σ' H' loc', Ev (.parts ts) σ true σ' → RA H' lf h lg σ' → Up [lf, h, lg] H H' → K .next loc' H') →
    (∀ σ' H' loc', Ev (.parts ts) σ false σ' → RA H' lf h lg σ' → Up [lf, h, lg] H H' → K (.ret (.bool false)) loc' H') →
    forW (fun _ => True) (fun v loc H k => wpSs (Cn scr n) scr (match t_round2 with | .cons (.for_ _ _ b) _ => b | _ => .nil) (setL loc 4 v) H k) ts.vs (.obj lf :: x :: .obj h :: .obj lg :: tl) H K) ?_ ?_ ts
  · intro ok wf σ H tl R B ht k1 k2
    exact ⟨True.intro, k1 σ H _ .pnil R .refl⟩
  · intro t r ih0 ok wf σ H tl R B ht k1 k2
    have key : wpSs (Cn scr n) scr (match t_round2 with | .cons (.for_ _ _ b) _ => b | _ => .nil) [.obj lf, x, .obj h, .obj lg, t.v] H (fun f loc H => match f with
        | .next => forW (fun _ => True) (fun v loc H k => wpSs (Cn scr n) scr (match t_round2 with | .cons (.for_ _ _ b) _ => b | _ => .nil) (setL loc 4 v) H k) r.vs loc H K
        | .cont => forW (fun _ => True) (fun v loc H k => wpSs (Cn scr n) scr (match t_round2 with | .cons (.for_ _ _ b) _ => b | _ => .nil) (setL loc 4 v) H k) r.vs loc H K
        | .ret v => K (.ret v) loc H) := by
      repeat (first | refine guI True.intro ?_ | refine guI (X.v_ok _) ?_ | refine guI (T.v_ok _) ?_ | refine gnI ?_ | refine gtI ?_ | refine gsI rfl ?_)
      refine ok t (.inl rfl) lf h lg σ H _ R B fun b σ1 H1 e1 R1 u1 => ?_
      cases b
      · exact k2 σ1 H1 _ (.pF e1) R1 u1
      · have B1 := e1.bound wf.1
        exact ih0 (fun t m => ok t (.inr m)) wf.2 σ1 H1 [t.v] R1 (by unfold Bd at *; simp only [Cmd.gain, Cmd.extra] at B1; (first | lia | omega)) (.inr ⟨_, rfl⟩) (fun σ' H' loc' e R u => k1 σ' H' loc' (.pT e1 e) R (u1.trans u)) fun σ' H' loc' e R u => k2 σ' H' loc' (.pT e1 e) R (u1.trans u)
    refine ⟨True.intro, ?_⟩
    rcases ht with rfl | ⟨z, rfl⟩
    · exact key
    · exact key
theorem round_ok {n : Nat} {ts : Ts} (ok : ∀ t, ts.has t → RdOk scr n t) (wf : ts.wf) (hx : True) : RnOk scr (n + 1) ts := by
  intro lf h lg σ H Q R B q
  refine round_head R (fun h0 => q false σ H (.rout h0) R .refl) fun h0 H1 R1 u1 => ?_
  refine ⟨ne_of_ok True.intro, ?_⟩
  have B1 : Bd σ.dec := by unfold Bd S.dec at *; simp only; (first | lia | omega)
  refine parts_ok ts ok wf σ.dec H1 [] R1 B1 (.inl rfl) (fun σ' H' loc' e R' u => ?_) fun σ' H' loc' e R' u => ?_
  · exact q true σ' H' (.round h0 e) R' (u1.trans u)
  · exact q false σ' H' (.round h0 e) R' (u1.trans u)
theorem loop_ok {n : Nat} (hn : 3 ≤ n) {e : X} {ts : Ts} (he : e.test) (ok : RnOk scr n ts) (wf : ts.wf) {lf h lg : Nat} {x tg u5 : V} {K : Fl → List V → Hp → Prop} {σ : S} {H : Hp} (R : RA H lf h lg σ) (B : σ.lg.length + 8 * σ.left + 1 ≤ 4000)
    (k1 : ∀ σ' H', Ev (.loop e ts) σ true σ' → RA H' lf h lg σ' → Up [lf, h, lg] H H' → K .next [.obj lf, x, .obj h, .obj lg, tg, u5, e.v, .tup ts.vs] H')
    (k2 : ∀ σ' H' loc', Ev (.loop e ts) σ false σ' → RA H' lf h lg σ' → Up [lf, h, lg] H H' → K (.ret (.bool false)) loc' H') :
    wpS (Cn scr n) scr (.while_ (.cmp .in_ (.cI 1) (.call .seen (.cons (.loc 6) (.cons (.loc 2) (.cons (.loc 3) .nil))))) (.cons (.if_ (.not_ (.call .round (.cons (.loc 0) (.cons (.loc 7) (.cons (.loc 2) (.cons (.loc 3) .nil)))))) (.cons (.ret (.cB false)) .nil) .nil) .nil))
      [.obj lf, x, .obj h, .obj lg, tg, u5, e.v, .tup ts.vs] H K := by
  refine ⟨fun m loc' H' => loc' = [.obj lf, x, .obj h, .obj lg, tg, u5, e.v, .tup ts.vs] ∧ ∃ σ1, RA H' lf h lg σ1 ∧ Up [lf, h, lg] H H' ∧ m = σ1.left ∧ σ1.lg.length + 8 * σ1.left + 1 ≤ 4000 ∧ ∀ r σ', Ev (.loop e ts) σ1 r σ' → Ev (.loop e ts) σ r σ',
    σ.left, ⟨rfl, σ, R, .refl, rfl, B, fun _ _ x => x⟩, ?_⟩
  rintro m _ H1 ⟨rfl, σ1, R1, u1, rfl, B1, up⟩
  repeat (first | refine guI True.intro ?_ | refine guI (X.v_ok _) ?_ | refine guI (T.v_ok _) ?_ | refine gnI ?_ | refine gtI ?_ | refine gsI rfl ?_)
  refine seen_ra (by first | exact le1 hn rfl | exact le2 hn rfl | (first | lia | omega)) (.inr he) R1 (by first | exact le1 hn rfl | exact le2 hn rfl | (first | lia | omega)) fun j H2 R2 u2 jw _ hr => ?_
  repeat (first | refine guI True.intro ?_ | refine guI (X.v_ok _) ?_ | refine guI (T.v_ok _) ?_ | refine insI hr ?_ | refine lisI hr ?_ | refine cloI hr ?_ | refine optI hr ?_ | refine insI amongI_row ?_ | refine lisI amongI_row ?_ | refine cloI amongI_row ?_ | refine optI amongI_row ?_ | refine gnI ?_ | refine gtI ?_ | refine gsI rfl ?_ | ((conv => whnf); first | rw [hr] | rw [amongI_row] ))
  conv => whnf
  cases hd : decide (1 ∈ e.codes σ1.hd)
  · have hd := of_decide_eq_false hd
    exact k1 _ _ (up _ _ (.lend hd)) R2 (u1.trans u2)
  · have hd := of_decide_eq_true hd
    repeat (first | refine guI True.intro ?_ | refine guI (X.v_ok _) ?_ | refine guI (T.v_ok _) ?_ | refine gnI ?_ | refine gtI ?_ | refine gsI rfl ?_)
    have B2 : Bd (σ1.see e) := by
      have := X.logs_len (e := e) (hd := σ1.hd)
      unfold Bd S.see
      simp only [List.length_append]; (first | lia | omega)
    refine ok lf h lg (σ1.see e) H2 _ R2 B2 fun b σ3 H3 e3 R3 u3 => ?_
    cases b
    · exact k2 _ _ _ (up _ _ (.lF hd e3)) R3 ((u1.trans u2).trans u3)
    · have B3 := e3.bound wf
      have := X.logs_len (e := e) (hd := σ1.hd)
      have hl : (σ1.see e).lg.length = σ1.lg.length + (e.logs σ1.hd).length ∧ (σ1.see e).left = σ1.left := by simp [S.see]
      simp only [Cmd.gain, Cmd.extra] at B3
      exact ⟨σ3.left, by (first | lia | omega), rfl, σ3, R3, (u1.trans u2).trans u3, rfl, by (first | lia | omega), fun r σ' x => up _ _ (.lT hd e3 x)⟩
theorem reps_ok {n : Nat} {t : T} (ok : RnOk scr n (oneT t)) (wf : t.wf) {lf h lg : Nat} {e : X} {sg : Bool} {tg : V} {K : Fl → List V → Hp → Prop} : ∀ (l : List V) (σ : S) (H : Hp) (tl : List V), RA H lf h lg σ → Bd σ → (tl = [] ∨ ∃ z, tl = [z]) →
    (∀ σ' H' loc', Ev (.reps l.length t) σ true σ' → RA H' lf h lg σ' → Up [lf, h, lg] H H' → K .next loc' H') →
    (∀ σ' H' loc', Ev (.reps l.length t) σ false σ' → RA H' lf h lg σ' → Up [lf, h, lg] H H' → K (.ret (.bool false)) loc' H') →
    forW (fun _ => True) (fun v loc H k => wpSs (Cn scr n) scr (.cons (.if_ (.not_ (.call .round (.cons (.loc 0) (.cons (.tup (.cons (.idx (.loc 1) (.cI 3)) .nil)) (.cons (.loc 2) (.cons (.loc 3) .nil)))))) (.cons (.ret (.cB false)) .nil) .nil) .nil) (setL loc 5 v) H k)
      l (.obj lf :: (T.rep e sg t).v :: .obj h :: .obj lg :: tg :: tl) H K := by
  intro l
  induction l with
  | nil =>
    intro σ H tl R B ht k1 k2
    exact ⟨True.intro, k1 σ H _ .n0 R .refl⟩
  | cons v l ih0 =>
    intro σ H tl R B ht k1 k2
    have key : wpSs (Cn scr n) scr (.cons (.if_ (.not_ (.call .round (.cons (.loc 0) (.cons (.tup (.cons (.idx (.loc 1) (.cI 3)) .nil)) (.cons (.loc 2) (.cons (.loc 3) .nil)))))) (.cons (.ret (.cB false)) .nil) .nil) .nil)
        [.obj lf, (T.rep e sg t).v, .obj h, .obj lg, tg, v] H (fun f loc H => match f with
        | .next => forW (fun _ => True) (fun v loc H k => wpSs (Cn scr n) scr (.cons (.if_ (.not_ (.call .round (.cons (.loc 0) (.cons (.tup (.cons (.idx (.loc 1) (.cI 3)) .nil)) (.cons (.loc 2) (.cons (.loc 3) .nil)))))) (.cons (.ret (.cB false)) .nil) .nil) .nil) (setL loc 5 v) H k) l loc H K
        | .cont => forW (fun _ => True) (fun v loc H k => wpSs (Cn scr n) scr (.cons (.if_ (.not_ (.call .round (.cons (.loc 0) (.cons (.tup (.cons (.idx (.loc 1) (.cI 3)) .nil)) (.cons (.loc 2) (.cons (.loc 3) .nil)))))) (.cons (.ret (.cB false)) .nil) .nil) .nil) (setL loc 5 v) H k) l loc H K
        | .ret v => K (.ret v) loc H) := by
      repeat (first | refine guI True.intro ?_ | refine guI (X.v_ok _) ?_ | refine guI (T.v_ok _) ?_ | refine gnI ?_ | refine gtI ?_ | refine gsI rfl ?_)
      refine ok lf h lg σ H _ R B fun b σ1 H1 e1 R1 u1 => ?_
      cases b
      · exact k2 σ1 H1 _ (.nF e1) R1 u1
      · have B1 := e1.bound ⟨wf, True.intro⟩
        exact ih0 σ1 H1 [v] R1 (by unfold Bd at *; simp only [Cmd.gain, Cmd.extra] at B1; (first | lia | omega)) (.inr ⟨_, rfl⟩) (fun σ' H' loc' e R u => k1 σ' H' loc' (.nT e1 e) R (u1.trans u)) fun σ' H' loc' e R u => k2 σ' H' loc' (.nT e1 e) R (u1.trans u)
    refine ⟨True.intro, ?_⟩
    rcases ht with rfl | ⟨z, rfl⟩
    · exact key
    · exact key
theorem reading_nil {n : Nat} : RdOk scr (n + 1) .nil := by
  intro lf h lg σ H Q R B q
  refine reading_head R (fun h0 => q false σ H (.out h0) R .refl) fun h0 H1 R1 u1 => ?_
  exact ⟨ne_of_ok True.intro, q true σ.dec H1 (.nil h0) R1 u1⟩
theorem cnt_le {r : List Nat} {sg : Bool} (hr : Row3 r) : cnt r sg ≤ 21 := by
  obtain ⟨a, b, c, rfl, _⟩ := hr
  unfold cnt
  split
  · (first | lia | omega)
  · split
    · (first | lia | omega)
    · simp only [total, List.getD_cons_zero, List.getD_cons_succ]; (first | lia | omega)
theorem len_upTo (n : Nat) : (upTo n).length = n := by simp [upTo]
end Mine
namespace Mine
variable {scr : List Int}
set_option maxHeartbeats 1000000 in
theorem rd_set {n d : Nat} {s : Nat} {e : X} (hn : 6 ≤ n) (okR : ∀ t : T, t.ht ≤ d → t.wf → RdOk scr n t) (okN : ∀ ts : Ts, ts.ht ≤ d → ts.wf → RnOk scr n ts) (ht : (T.set s e).ht ≤ d + 1) (wf : (T.set s e).wf) : RdOk scr (n + 1) (.set s e) := by
  intro lf h lg σ H Q R B q
  refine reading_head R (fun h0 => q false σ H (.out h0) R .refl) fun h0 H1 R1 u1 => ?_
  have B1 : σ.dec.lg.length + 8 * σ.dec.left + 8 ≤ 4000 := by unfold Bd S.dec at *; simp only; (first | lia | omega)
  have sl : ∀ e : X, (σ.dec.see e).lg.length ≤ σ.dec.lg.length + 1 ∧ (σ.dec.see e).left = σ.dec.left := fun e => by
    have := X.logs_len (e := e) (hd := σ.dec.hd)
    refine ⟨?_, rfl⟩
    simp only [S.see, List.length_append]; (first | lia | omega)
  have rw3 := fun s hs => R1.held.row (s := s) hs
  repeat (first | refine guI True.intro ?_ | refine guI (X.v_ok _) ?_ | refine guI (T.v_ok _) ?_ | refine gnI ?_ | refine gtI ?_ | refine gsI rfl ?_)
  refine seen_ra (by first | exact le1 hn rfl | exact le2 hn rfl | (first | lia | omega)) (.inl wf.2) R1 (by first | exact le1 hn rfl | exact le2 hn rfl | (first | lia | omega)) fun j H2 R2 u2 jw _ hr => ?_
  obtain ⟨vs, a, b, R3⟩ := R2.put (s := s) wf.2 hr jw
  repeat (first | refine guI True.intro ?_ | refine guI (X.v_ok _) ?_ | refine guI (T.v_ok _) ?_ | refine insI a ?_ | refine lisI a ?_ | refine cloI a ?_ | refine optI a ?_ | refine gnI ?_ | refine gtI ?_ | refine gsI rfl ?_ | ((conv => whnf); first | rw [a] ))
  refine ⟨?_, small_nat (by have := wf.1; (first | lia | omega)), ?_⟩
  · rw [b]; exact wf.1
  repeat (first | refine guI True.intro ?_ | refine guI (X.v_ok _) ?_ | refine guI (T.v_ok _) ?_ | refine gnI ?_ | refine gtI ?_ | refine gsI rfl ?_)
  exact q true _ _ (.set h0) R3 ((u1.trans u2).trans (Up.set (by simp)))
set_option maxHeartbeats 1000000 in
theorem rd_if_ {n d : Nat} {e : X} {a b : T} (hn : 6 ≤ n) (okR : ∀ t : T, t.ht ≤ d → t.wf → RdOk scr n t) (okN : ∀ ts : Ts, ts.ht ≤ d → ts.wf → RnOk scr n ts) (ht : (T.if_ e a b).ht ≤ d + 1) (wf : (T.if_ e a b).wf) : RdOk scr (n + 1) (.if_ e a b) := by
  intro lf h lg σ H Q R B q
  refine reading_head R (fun h0 => q false σ H (.out h0) R .refl) fun h0 H1 R1 u1 => ?_
  have B1 : σ.dec.lg.length + 8 * σ.dec.left + 8 ≤ 4000 := by unfold Bd S.dec at *; simp only; (first | lia | omega)
  have sl : ∀ e : X, (σ.dec.see e).lg.length ≤ σ.dec.lg.length + 1 ∧ (σ.dec.see e).left = σ.dec.left := fun e => by
    have := X.logs_len (e := e) (hd := σ.dec.hd)
    refine ⟨?_, rfl⟩
    simp only [S.see, List.length_append]; (first | lia | omega)
  have rw3 := fun s hs => R1.held.row (s := s) hs
  have ht := mx2 ht
  repeat (first | refine guI True.intro ?_ | refine guI (X.v_ok _) ?_ | refine guI (T.v_ok _) ?_ | refine gnI ?_ | refine gtI ?_ | refine gsI rfl ?_)
  refine seen_ra (by first | exact le1 hn rfl | exact le2 hn rfl | (first | lia | omega)) (.inr wf.1) R1 (by first | exact le1 hn rfl | exact le2 hn rfl | (first | lia | omega)) fun j H2 R2 u2 jw _ hr => ?_
  repeat (first | refine guI True.intro ?_ | refine guI (X.v_ok _) ?_ | refine guI (T.v_ok _) ?_ | refine insI hr ?_ | refine lisI hr ?_ | refine cloI hr ?_ | refine optI hr ?_ | refine insI amongI_row ?_ | refine lisI amongI_row ?_ | refine cloI amongI_row ?_ | refine optI amongI_row ?_ | refine gnI ?_ | refine gtI ?_ | refine gsI rfl ?_ | ((conv => whnf); first | rw [hr] | rw [amongI_row] ))
  conv => whnf
  have B2 : Bd (σ.dec.see e) := by have := sl e; unfold Bd; (first | lia | omega)
  cases hd : decide (1 ∈ e.codes σ.dec.hd)
  · have hd := of_decide_eq_false hd
    repeat (first | refine guI True.intro ?_ | refine guI (X.v_ok _) ?_ | refine guI (T.v_ok _) ?_ | refine gnI ?_ | refine gtI ?_ | refine gsI rfl ?_)
    exact okR b ht.2 wf.2.2 lf h lg _ H2 _ R2 B2 fun r σ' H3 e3 R3 u3 => q r σ' H3 (.iff h0 hd e3) R3 ((u1.trans u2).trans u3)
  · have hd := of_decide_eq_true hd
    repeat (first | refine guI True.intro ?_ | refine guI (X.v_ok _) ?_ | refine guI (T.v_ok _) ?_ | refine gnI ?_ | refine gtI ?_ | refine gsI rfl ?_)
    exact okR a ht.1 wf.2.1 lf h lg _ H2 _ R2 B2 fun r σ' H3 e3 R3 u3 => q r σ' H3 (.ift h0 hd e3) R3 ((u1.trans u2).trans u3)
set_option maxHeartbeats 1000000 in
theorem rd_case {n d : Nat} {k : Tg} {e : X} {pre : As} {hasD : Bool} {dt : T} {post : As} (hn : 6 ≤ n) (okR : ∀ t : T, t.ht ≤ d → t.wf → RdOk scr n t) (okN : ∀ ts : Ts, ts.ht ≤ d → ts.wf → RnOk scr n ts) (ht : (T.case k e pre hasD dt post).ht ≤ d + 1) (wf : (T.case k e pre hasD dt post).wf) : RdOk scr (n + 1) (.case k e pre hasD dt post) := by
  intro lf h lg σ H Q R B q
  refine reading_head R (fun h0 => q false σ H (.out h0) R .refl) fun h0 H1 R1 u1 => ?_
  have B1 : σ.dec.lg.length + 8 * σ.dec.left + 8 ≤ 4000 := by unfold Bd S.dec at *; simp only; (first | lia | omega)
  have sl : ∀ e : X, (σ.dec.see e).lg.length ≤ σ.dec.lg.length + 1 ∧ (σ.dec.see e).left = σ.dec.left := fun e => by
    have := X.logs_len (e := e) (hd := σ.dec.hd)
    refine ⟨?_, rfl⟩
    simp only [S.see, List.length_append]; (first | lia | omega)
  have rw3 := fun s hs => R1.held.row (s := s) hs
  have ht := mx3 ht
  repeat (first | refine guI True.intro ?_ | refine guI (X.v_ok _) ?_ | refine guI (T.v_ok _) ?_ | refine gnI ?_ | refine gtI ?_ | refine gsI rfl ?_)
  refine chosen_ok (by first | exact le1 hn rfl | exact le2 hn rfl | (first | lia | omega)) wf.1 wf R1 (by first | exact le1 hn rfl | exact le2 hn rfl | (first | lia | omega)) fun H2 R2 u2 => ?_
  repeat (first | refine guI True.intro ?_ | refine guI (X.v_ok _) ?_ | refine guI (T.v_ok _) ?_ | refine gnI ?_ | refine gtI ?_ | refine gsI rfl ?_)
  have cw := chosen_wf (σ := σ.dec) wf
  have cl := chosen_len (k := k) (e := e) (pre := pre) (post := post) (d := dt) (σ := σ.dec)
  have := wf.2.2.1
  exact okR _ (Nat.le_trans cw.2 (Nat.max_le.mpr ⟨ht.1, Nat.max_le.mpr ht.2⟩)) cw.1 lf h lg _ H2 _ R2 (by unfold Bd; (first | lia | omega)) fun r σ' H3 e3 R3 u3 => q r σ' H3 (.case h0 e3) R3 ((u1.trans u2).trans u3)
set_option maxHeartbeats 1000000 in
theorem rd_block {n d : Nat} {ts : Ts} (hn : 6 ≤ n) (okR : ∀ t : T, t.ht ≤ d → t.wf → RdOk scr n t) (okN : ∀ ts : Ts, ts.ht ≤ d → ts.wf → RnOk scr n ts) (ht : (T.block ts).ht ≤ d + 1) (wf : (T.block ts).wf) : RdOk scr (n + 1) (.block ts) := by
  intro lf h lg σ H Q R B q
  refine reading_head R (fun h0 => q false σ H (.out h0) R .refl) fun h0 H1 R1 u1 => ?_
  have B1 : σ.dec.lg.length + 8 * σ.dec.left + 8 ≤ 4000 := by unfold Bd S.dec at *; simp only; (first | lia | omega)
  have sl : ∀ e : X, (σ.dec.see e).lg.length ≤ σ.dec.lg.length + 1 ∧ (σ.dec.see e).left = σ.dec.left := fun e => by
    have := X.logs_len (e := e) (hd := σ.dec.hd)
    refine ⟨?_, rfl⟩
    simp only [S.see, List.length_append]; (first | lia | omega)
  have rw3 := fun s hs => R1.held.row (s := s) hs
  have ht := mx1 ht
  repeat (first | refine guI True.intro ?_ | refine guI (X.v_ok _) ?_ | refine guI (T.v_ok _) ?_ | refine gnI ?_ | refine gtI ?_ | refine gsI rfl ?_)
  exact okN ts ht wf.1 lf h lg _ H1 _ R1 (by unfold Bd; (first | lia | omega)) fun r σ' H3 e3 R3 u3 => q r σ' H3 (.block h0 e3) R3 (u1.trans u3)
set_option maxHeartbeats 1000000 in
theorem rd_rep {n d : Nat} {e : X} {sg : Bool} {t : T} (hn : 6 ≤ n) (okR : ∀ t : T, t.ht ≤ d → t.wf → RdOk scr n t) (okN : ∀ ts : Ts, ts.ht ≤ d → ts.wf → RnOk scr n ts) (ht : (T.rep e sg t).ht ≤ d + 1) (wf : (T.rep e sg t).wf) : RdOk scr (n + 1) (.rep e sg t) := by
  intro lf h lg σ H Q R B q
  refine reading_head R (fun h0 => q false σ H (.out h0) R .refl) fun h0 H1 R1 u1 => ?_
  have B1 : σ.dec.lg.length + 8 * σ.dec.left + 8 ≤ 4000 := by unfold Bd S.dec at *; simp only; (first | lia | omega)
  have sl : ∀ e : X, (σ.dec.see e).lg.length ≤ σ.dec.lg.length + 1 ∧ (σ.dec.see e).left = σ.dec.left := fun e => by
    have := X.logs_len (e := e) (hd := σ.dec.hd)
    refine ⟨?_, rfl⟩
    simp only [S.see, List.length_append]; (first | lia | omega)
  have rw3 := fun s hs => R1.held.row (s := s) hs
  have ht := mx1 ht
  repeat (first | refine guI True.intro ?_ | refine guI (X.v_ok _) ?_ | refine guI (T.v_ok _) ?_ | refine gnI ?_ | refine gtI ?_ | refine gsI rfl ?_)
  refine seen_ra (by first | exact le1 hn rfl | exact le2 hn rfl | (first | lia | omega)) (.inl wf.1) R1 (by first | exact le1 hn rfl | exact le2 hn rfl | (first | lia | omega)) fun j H2 R2 u2 jw _ hr => ?_
  repeat (first | refine guI True.intro ?_ | refine guI (X.v_ok _) ?_ | refine guI (T.v_ok _) ?_ | refine gnI ?_ | refine gtI ?_ | refine gsI rfl ?_)
  have r3 := word_row wf.1 rw3
  refine count_ok (by first | exact le1 hn rfl | exact le2 hn rfl | (first | lia | omega)) r3 hr ?_
  have c21 := cnt_le (sg := sg) r3
  conv => whnf
  refine ⟨Int.natCast_nonneg _, by (first | lia | omega), ?_⟩
  have B2 : Bd (σ.dec.see e) := by have := sl e; unfold Bd; (first | lia | omega)
  have el : (upTo ((cnt (e.codes σ.dec.hd) sg : Nat) : Int).toNat).length = cnt (e.codes σ.dec.hd) sg := by rw [len_upTo]; (first | lia | omega)
  refine reps_ok (okN (oneT t) (Nat.max_le.mpr ⟨ht, Nat.zero_le _⟩) ⟨wf.2, True.intro⟩) wf.2 _ _ H2 [] R2 B2 (.inl rfl) (fun σ' H' loc' e3 R3 u3 => ?_) fun σ' H' loc' e3 R3 u3 => ?_
  · rw [el] at e3
    exact q true σ' H' (.rep h0 e3) R3 ((u1.trans u2).trans u3)
  · rw [el] at e3
    exact q false σ' H' (.rep h0 e3) R3 ((u1.trans u2).trans u3)
set_option maxHeartbeats 1000000 in
theorem rd_forever {n d : Nat} {t : T} (hn : 6 ≤ n) (okR : ∀ t : T, t.ht ≤ d → t.wf → RdOk scr n t) (okN : ∀ ts : Ts, ts.ht ≤ d → ts.wf → RnOk scr n ts) (ht : (T.forever t).ht ≤ d + 1) (wf : (T.forever t).wf) : RdOk scr (n + 1) (.forever t) := by
  intro lf h lg σ H Q R B q
  refine reading_head R (fun h0 => q false σ H (.out h0) R .refl) fun h0 H1 R1 u1 => ?_
  have B1 : σ.dec.lg.length + 8 * σ.dec.left + 8 ≤ 4000 := by unfold Bd S.dec at *; simp only; (first | lia | omega)
  have sl : ∀ e : X, (σ.dec.see e).lg.length ≤ σ.dec.lg.length + 1 ∧ (σ.dec.see e).left = σ.dec.left := fun e => by
    have := X.logs_len (e := e) (hd := σ.dec.hd)
    refine ⟨?_, rfl⟩
    simp only [S.see, List.length_append]; (first | lia | omega)
  have rw3 := fun s hs => R1.held.row (s := s) hs
  have ht := mx1 ht
  repeat (first | refine guI True.intro ?_ | refine guI (X.v_ok _) ?_ | refine guI (T.v_ok _) ?_ | refine gnI ?_ | refine gtI ?_ | refine gsI rfl ?_)
  refine ⟨fun m loc' H' => loc' = [.obj lf, (T.forever t).v, .obj h, .obj lg, .str .kForever] ∧ ∃ σ1, RA H' lf h lg σ1 ∧ Up [lf, h, lg] H1 H' ∧ m = σ1.left ∧ Bd σ1 ∧ ∀ r σ', Ev (.ever t) σ1 r σ' → Ev (.ever t) σ.dec r σ',
    σ.dec.left, ⟨rfl, σ.dec, R1, .refl, rfl, by unfold Bd; (first | lia | omega), fun _ _ x => x⟩, ?_⟩
  rintro m _ H2 ⟨rfl, σ1, R2, u2, rfl, B2, up⟩
  repeat (first | refine guI True.intro ?_ | refine guI (X.v_ok _) ?_ | refine guI (T.v_ok _) ?_ | refine gnI ?_ | refine gtI ?_ | refine gsI rfl ?_)
  refine okN (oneT t) (Nat.max_le.mpr ⟨ht, Nat.zero_le _⟩) ⟨wf, True.intro⟩ lf h lg σ1 H2 _ R2 B2 fun b σ3 H3 e3 R3 u3 => ?_
  cases b
  · exact q false _ _ (.forever h0 (up _ _ (.eF e3))) R3 ((u1.trans u2).trans u3)
  · have B3 := e3.bound ⟨wf, True.intro⟩
    simp only [Cmd.gain, Cmd.extra] at B3
    exact ⟨σ3.left, by (first | lia | omega), rfl, σ3, R3, u2.trans u3, rfl, by unfold Bd at *; (first | lia | omega), fun r σ' x => up _ _ (.eT e3 x)⟩
set_option maxHeartbeats 1000000 in
theorem rd_while_ {n d : Nat} {e : X} {t : T} (hn : 6 ≤ n) (okR : ∀ t : T, t.ht ≤ d → t.wf → RdOk scr n t) (okN : ∀ ts : Ts, ts.ht ≤ d → ts.wf → RnOk scr n ts) (ht : (T.while_ e t).ht ≤ d + 1) (wf : (T.while_ e t).wf) : RdOk scr (n + 1) (.while_ e t) := by
  intro lf h lg σ H Q R B q
  refine reading_head R (fun h0 => q false σ H (.out h0) R .refl) fun h0 H1 R1 u1 => ?_
  have B1 : σ.dec.lg.length + 8 * σ.dec.left + 8 ≤ 4000 := by unfold Bd S.dec at *; simp only; (first | lia | omega)
  have sl : ∀ e : X, (σ.dec.see e).lg.length ≤ σ.dec.lg.length + 1 ∧ (σ.dec.see e).left = σ.dec.left := fun e => by
    have := X.logs_len (e := e) (hd := σ.dec.hd)
    refine ⟨?_, rfl⟩
    simp only [S.see, List.length_append]; (first | lia | omega)
  have rw3 := fun s hs => R1.held.row (s := s) hs
  have ht := mx1 ht
  repeat (first | refine guI True.intro ?_ | refine guI (X.v_ok _) ?_ | refine guI (T.v_ok _) ?_ | refine gnI ?_ | refine gtI ?_ | refine gsI rfl ?_)
  conv => whnf
  refine loop_ok (x := (T.while_ e t).v) (tg := .str .kWhile) (u5 := .und) (K := fun f loc H => match f with | .next => wpSs (Cn scr n) scr (.cons (.ret (.cB true)) .nil) loc H (bodyQ Q) | .cont => bodyQ Q .cont loc H | .ret v => bodyQ Q (.ret v) loc H) (by first | exact le1 hn rfl | exact le2 hn rfl | (first | lia | omega)) wf.1 (okN (oneT t) (Nat.max_le.mpr ⟨ht, Nat.zero_le _⟩) ⟨wf.2, True.intro⟩) ⟨wf.2, True.intro⟩ R1 (by first | exact le1 hn rfl | exact le2 hn rfl | (first | lia | omega)) (fun σ' H' e3 R3 u3 => ?_) fun σ' H' loc' e3 R3 u3 => ?_
  · exact q true σ' H' (.while_ h0 e3) R3 (u1.trans u3)
  · exact q false σ' H' (.while_ h0 e3) R3 (u1.trans u3)
set_option maxHeartbeats 1000000 in
theorem rd_for_ {n d : Nat} {a : T} {e : X} {step body : T} (hn : 6 ≤ n) (okR : ∀ t : T, t.ht ≤ d → t.wf → RdOk scr n t) (okN : ∀ ts : Ts, ts.ht ≤ d → ts.wf → RnOk scr n ts) (ht : (T.for_ a e step body).ht ≤ d + 1) (wf : (T.for_ a e step body).wf) : RdOk scr (n + 1) (.for_ a e step body) := by
  intro lf h lg σ H Q R B q
  refine reading_head R (fun h0 => q false σ H (.out h0) R .refl) fun h0 H1 R1 u1 => ?_
  have B1 : σ.dec.lg.length + 8 * σ.dec.left + 8 ≤ 4000 := by unfold Bd S.dec at *; simp only; (first | lia | omega)
  have sl : ∀ e : X, (σ.dec.see e).lg.length ≤ σ.dec.lg.length + 1 ∧ (σ.dec.see e).left = σ.dec.left := fun e => by
    have := X.logs_len (e := e) (hd := σ.dec.hd)
    refine ⟨?_, rfl⟩
    simp only [S.see, List.length_append]; (first | lia | omega)
  have rw3 := fun s hs => R1.held.row (s := s) hs
  have ht := mx3 ht
  repeat (first | refine guI True.intro ?_ | refine guI (X.v_ok _) ?_ | refine guI (T.v_ok _) ?_ | refine gnI ?_ | refine gtI ?_ | refine gsI rfl ?_)
  refine okR a ht.1 wf.2.1 lf h lg _ H1 _ R1 (by unfold Bd; (first | lia | omega)) fun b σ2 H2 e2 R2 u2 => ?_
  cases b
  · exact q false σ2 H2 (.forF h0 e2) R2 (u1.trans u2)
  · have B2 := e2.bound wf.2.1
    simp only [Cmd.gain, Cmd.extra] at B2
    repeat ((conv => whnf); first | refine ⟨ne_of_ok True.intro, ?_⟩ | refine ⟨ne_of_ok (X.v_ok _), ?_⟩ | refine ⟨ne_of_ok (T.v_ok _), ?_⟩ | refine ⟨Int.natCast_nonneg _, ?_⟩ | refine ⟨True.intro, ?_⟩ | refine ⟨(rfl : small _ = true), ?_⟩)
    conv => whnf
    refine loop_ok (x := (T.for_ a e step body).v) (tg := .str .kFor) (u5 := .und) (K := fun f loc H => match f with | .next => wpSs (Cn scr n) scr (.cons (.ret (.cB true)) .nil) loc H (bodyQ Q) | .cont => bodyQ Q .cont loc H | .ret v => bodyQ Q (.ret v) loc H) (by first | exact le1 hn rfl | exact le2 hn rfl | (first | lia | omega)) wf.1 (okN (two body step) (Nat.max_le.mpr ⟨ht.2.2, Nat.max_le.mpr ⟨ht.2.1, Nat.zero_le _⟩⟩) ⟨wf.2.2.2.1, wf.2.2.1, True.intro⟩) ⟨wf.2.2.2.1, wf.2.2.1, True.intro⟩ R2 (by first | exact le1 hn rfl | exact le2 hn rfl | (first | lia | omega)) (fun σ' H' e3 R3 u3 => ?_) fun σ' H' loc' e3 R3 u3 => ?_
    · exact q true σ' H' (.forT h0 e2 e3) R3 ((u1.trans u2).trans u3)
    · exact q false σ' H' (.forT h0 e2 e3) R3 ((u1.trans u2).trans u3)
theorem reading_step {n d : Nat} (hn : 6 ≤ n) (okR : ∀ t : T, t.ht ≤ d → t.wf → RdOk scr n t) (okN : ∀ ts : Ts, ts.ht ≤ d → ts.wf → RnOk scr n ts) (t : T) (ht : t.ht ≤ d + 1) (wf : t.wf) : RdOk scr (n + 1) t := by
  cases t with
  | nil => exact reading_nil
  | set s e => exact rd_set hn okR okN ht wf
  | if_ e a b => exact rd_if_ hn okR okN ht wf
  | case k e pre hasD dt post => exact rd_case hn okR okN ht wf
  | block ts => exact rd_block hn okR okN ht wf
  | rep e sg t => exact rd_rep hn okR okN ht wf
  | forever t => exact rd_forever hn okR okN ht wf
  | while_ e t => exact rd_while_ hn okR okN ht wf
  | for_ a e step body => exact rd_for_ hn okR okN ht wf
theorem Ts.has_ht : ∀ {ts : Ts} {t : T}, ts.has t → t.ht ≤ ts.ht ∧ (ts.wf → t.wf)
  | .cons a r, t, h => by
    rcases h with rfl | h
    · exact ⟨Nat.le_max_left _ _, fun w => w.1⟩
    · have := Ts.has_ht h
      exact ⟨Nat.le_trans this.1 (Nat.le_max_right _ _), fun w => this.2 w.2⟩
theorem reading_ok : ∀ (d n : Nat) (t : T), t.ht ≤ d → t.wf → 2 * d + 7 ≤ n → RdOk scr n t := by
  intro d
  induction d with
  | zero =>
    intro n t ht wf hn
    obtain ⟨m, rfl⟩ : ∃ m, n = m + 1 := ⟨n - 1, by (first | lia | omega)⟩
    cases t <;> simp only [T.ht] at ht <;> first | exact reading_nil | (first | lia | omega)
  | succ d ih0 =>
    intro n t ht wf hn
    obtain ⟨m, rfl⟩ : ∃ m, n = m + 2 := ⟨n - 2, by (first | lia | omega)⟩
    exact reading_step (d := d) (by first | exact le1 hn rfl | exact le2 hn rfl | (first | lia | omega)) (fun t ht wf => ih0 (m + 1) t ht wf (by first | exact le1 hn rfl | exact le2 hn rfl | (first | lia | omega)))
      (fun ts ht wf => round_ok (fun t h => ih0 m t (Nat.le_trans (Ts.has_ht h).1 ht) ((Ts.has_ht h).2 wf) (by first | exact le1 hn rfl | exact le2 hn rfl | (first | lia | omega))) wf True.intro) t ht wf
end Mine
namespace Mine
variable {scr : List Int}
noncomputable def Rw.aim (t : Int) : Rw → Rw
  | .unless e _ => .unless e t
  | .match_ k s l _ => .match_ k s l t
  | .jump _ => .jump t
  | .again sl _ => .again sl t
  | r => r
noncomputable def Rw.aims : Rw → Prop
  | .unless _ _ => True
  | .match_ _ _ _ _ => True
  | .jump _ => True
  | .again _ _ => True
  | _ => False
theorem Rw.v_ok (r : Rw) : r.v.ok := by cases r <;> trivial
structure MK (H : Hp) (m c : Nat) (R : List Rw) (sl : Nat) : Prop where
  me : H[m]? = some (.inst .maker [(.slots, .int sl), (.code, .obj c)])
  co : H[c]? = some (.list (R.map Rw.v))
theorem MK.up {H H' : Hp} {m c : Nat} {R : List Rw} {sl : Nat} {W : List Nat} (M : MK H m c R sl) (u : Up W H H') (h1 : m ∉ W) (h2 : c ∉ W) : MK H' m c R sl := ⟨u.2 _ _ M.me h1, u.2 _ _ M.co h2⟩
theorem MK.ne {H : Hp} {m c : Nat} {R : List Rw} {sl : Nat} (M : MK H m c R sl) : c ≠ m := by
  rintro rfl
  have := M.me.symm.trans M.co
  simp at this
theorem here_ok {n : Nat} (hn : 1 ≤ n) {m c sl : Nat} {R : List Rw} {H : Hp} {Q : V → Hp → Prop} (M : MK H m c R sl) (hl : R.length ≤ 5000) (q : Q (.int R.length) H) : Cn scr n (.mt .here) [.obj m] H Q := by
  obtain ⟨k, rfl⟩ : ∃ k, n = k + 1 := ⟨n - 1, by (first | lia | omega)⟩
  have h1 := M.me
  have h2 := M.co
  refine ⟨rfl, ?_⟩
  repeat (first | refine guI True.intro ?_ | refine insI h1 ?_ | refine lisI h1 ?_ | refine cloI h1 ?_ | refine optI h1 ?_ | refine insI h2 ?_ | refine lisI h2 ?_ | refine cloI h2 ?_ | refine optI h2 ?_ | refine gnI ?_ | refine gtI ?_ | refine gsI rfl ?_ | ((conv => whnf); first | rw [h1] | rw [h2] ))
  refine ⟨by simp; (first | lia | omega), ?_⟩
  have e : (R.map Rw.v).length = R.length := List.length_map ..
  rw [e]
  exact q
theorem emit_ok {n : Nat} (hn : 1 ≤ n) {m c sl : Nat} {R : List Rw} {row : Rw} {H : Hp} {Q : V → Hp → Prop} (M : MK H m c R sl) (hl : R.length ≤ 5000)
    (q : ∀ H', MK H' m c (R ++ [row]) sl → Up [m, c] H H' → Q (.int R.length) H') : Cn scr n (.mt .emit) [.obj m, row.v] H Q := by
  obtain ⟨k, rfl⟩ : ∃ k, n = k + 1 := ⟨n - 1, by (first | lia | omega)⟩
  have h1 := M.me
  have h2 := M.co
  have h3 := at_set_ne (o' := CO.list (R.map Rw.v ++ [getL' [V.obj m, row.v] 1])) h1 M.ne
  have h4 := at_set_self (o' := CO.list (R.map Rw.v ++ [getL' [V.obj m, row.v] 1])) h2
  refine ⟨rfl, ?_⟩
  repeat (first | refine guI True.intro ?_ | refine insI h1 ?_ | refine lisI h1 ?_ | refine cloI h1 ?_ | refine optI h1 ?_ | refine insI h2 ?_ | refine lisI h2 ?_ | refine cloI h2 ?_ | refine optI h2 ?_ | refine gnI ?_ | refine gtI ?_ | refine gsI rfl ?_ | ((conv => whnf); first | rw [h1] | rw [h2] ))
  refine ⟨ne_of_ok row.v_ok, ?_⟩
  repeat (first | refine guI True.intro ?_ | refine insI h1 ?_ | refine lisI h1 ?_ | refine cloI h1 ?_ | refine optI h1 ?_ | refine insI h2 ?_ | refine lisI h2 ?_ | refine cloI h2 ?_ | refine optI h2 ?_ | refine gnI ?_ | refine gtI ?_ | refine gsI rfl ?_ | ((conv => whnf); first | rw [h1] | rw [h2] ))
  refine ⟨by simp; (first | lia | omega), ?_⟩
  repeat (first | refine guI True.intro ?_ | refine insI h1 ?_ | refine lisI h1 ?_ | refine cloI h1 ?_ | refine optI h1 ?_ | refine insI h2 ?_ | refine lisI h2 ?_ | refine cloI h2 ?_ | refine optI h2 ?_ | refine insI h3 ?_ | refine lisI h3 ?_ | refine cloI h3 ?_ | refine optI h3 ?_ | refine insI h4 ?_ | refine lisI h4 ?_ | refine cloI h4 ?_ | refine optI h4 ?_ | refine gnI ?_ | refine gtI ?_ | refine gsI rfl ?_ | ((conv => whnf); first | rw [h1] | rw [h2] | rw [h3] | rw [h4] ))
  refine ⟨by simp; (first | lia | omega), ?_⟩
  conv => whnf
  have e : ((R.map Rw.v ++ [getL' [V.obj m, row.v] 1]).length : Int) - 1 = R.length := by simp
  rw [e]
  exact q _ ⟨h3, by rw [h4, List.map_append]; rfl⟩ (Up.set (by simp))
theorem newSlot_ok {n : Nat} (hn : 1 ≤ n) {m c sl : Nat} {R : List Rw} {H : Hp} {Q : V → Hp → Prop} (M : MK H m c R sl)
    (q : ∀ H', MK H' m c R (sl + 1) → Up [m, c] H H' → Q (.int sl) H') : Cn scr n (.mt .newSlot) [.obj m] H Q := by
  obtain ⟨k, rfl⟩ : ∃ k, n = k + 1 := ⟨n - 1, by (first | lia | omega)⟩
  have h1 := M.me
  refine ⟨rfl, ?_⟩
  repeat (first | refine guI True.intro ?_ | refine insI h1 ?_ | refine lisI h1 ?_ | refine cloI h1 ?_ | refine optI h1 ?_ | refine gnI ?_ | refine gtI ?_ | refine gsI rfl ?_ | ((conv => whnf); first | rw [h1] ))
  refine ⟨by simp, ?_⟩
  repeat (first | refine guI True.intro ?_ | refine insI h1 ?_ | refine lisI h1 ?_ | refine cloI h1 ?_ | refine optI h1 ?_ | refine gnI ?_ | refine gtI ?_ | refine gsI rfl ?_ | ((conv => whnf); first | rw [h1] ))
  refine ⟨by simp, ?_⟩
  repeat (first | refine guI True.intro ?_ | refine gnI ?_ | refine gtI ?_ | refine gsI rfl ?_)
  exact q _ ⟨at_set_self h1, at_set_ne M.co (Ne.symm M.ne)⟩ (Up.set (by simp))
theorem aim_ok {n : Nat} (hn : 2 ≤ n) {m c sl a : Nat} {R : List Rw} {row : Rw} {H : Hp} {Q : V → Hp → Prop} (M : MK H m c R sl) (hl : R.length ≤ 5000) (hr : R[a]? = some row) (ha : row.aims)
    (q : ∀ H', MK H' m c (R.set a (row.aim R.length)) sl → Up [m, c] H H' → Q .none H') : Cn scr n (.mt .aim) [.obj m, .int a] H Q := by
  obtain ⟨k, rfl⟩ : ∃ k, n = k + 1 := ⟨n - 1, by (first | lia | omega)⟩
  have h1 := M.me
  have h2 := M.co
  have hlt : a < R.length := (List.getElem?_eq_some_iff.mp hr).1
  have h3 : pyGet (R.map Rw.v) (a : Int) = some row.v := by
    unfold pyGet
    rw [if_pos (Int.natCast_nonneg a), Int.toNat_natCast, List.getElem?_map, hr]; rfl
  have hs : small (a : Int) = true := small_nat (by first | exact le1 hn rfl | exact le2 hn rfl | (first | lia | omega))
  have fin : ∀ v, v = (row.aim R.length).v → Q .none (H.set c (.list ((R.map Rw.v).set a v))) := by
    rintro v rfl
    refine q _ ⟨at_set_ne h1 M.ne, ?_⟩ (Up.set (by simp))
    rw [at_set_self h2, List.map_set]
  refine ⟨rfl, ?_⟩
  repeat (first | refine guI True.intro ?_ | refine insI h1 ?_ | refine lisI h1 ?_ | refine cloI h1 ?_ | refine optI h1 ?_ | refine insI h2 ?_ | refine lisI h2 ?_ | refine cloI h2 ?_ | refine optI h2 ?_ | refine insI h3 ?_ | refine lisI h3 ?_ | refine cloI h3 ?_ | refine optI h3 ?_ | refine gnI ?_ | refine gtI ?_ | refine gsI rfl ?_ | ((conv => whnf); first | rw [h1] | rw [h2] | rw [h3] ))
  refine ⟨hs, ?_⟩
  cases row with
  | set s e => exact ha.elim
  | save s e => exact ha.elim
  | times s e g => exact ha.elim
  | end_ => exact ha.elim
  | «unless» e t =>
    repeat (first | refine guI True.intro ?_ | refine insI h1 ?_ | refine lisI h1 ?_ | refine cloI h1 ?_ | refine optI h1 ?_ | refine insI h2 ?_ | refine lisI h2 ?_ | refine cloI h2 ?_ | refine optI h2 ?_ | refine insI h3 ?_ | refine lisI h3 ?_ | refine cloI h3 ?_ | refine optI h3 ?_ | refine gnI ?_ | refine gtI ?_ | refine gsI rfl ?_ | ((conv => whnf); first | rw [h1] | rw [h2] | rw [h3] ))
    refine ⟨rfl, by simp, by simp, ?_⟩
    repeat (first | refine guI True.intro ?_ | refine insI h1 ?_ | refine lisI h1 ?_ | refine cloI h1 ?_ | refine optI h1 ?_ | refine insI h2 ?_ | refine lisI h2 ?_ | refine cloI h2 ?_ | refine optI h2 ?_ | refine insI h3 ?_ | refine lisI h3 ?_ | refine cloI h3 ?_ | refine optI h3 ?_ | refine gcI (rfl : Cls.maker = .maker) ?_ | refine gcI (rfl : Mt.cls _ = .maker) ?_ | refine gnI ?_ | refine gtI ?_ | refine gsI rfl ?_ | ((conv => whnf); first | rw [h1] | rw [h2] | rw [h3] ))
    refine here_ok (by first | exact le1 hn rfl | exact le2 hn rfl | (first | lia | omega)) M hl ?_
    repeat (first | refine guI True.intro ?_ | refine gnI ?_ | refine gtI ?_ | refine gsI rfl ?_)
    refine ⟨rfl, by simp, by simp, by simp, ?_⟩
    repeat (first | refine guI True.intro ?_ | refine insI h1 ?_ | refine lisI h1 ?_ | refine cloI h1 ?_ | refine optI h1 ?_ | refine insI h2 ?_ | refine lisI h2 ?_ | refine cloI h2 ?_ | refine optI h2 ?_ | refine insI h3 ?_ | refine lisI h3 ?_ | refine cloI h3 ?_ | refine optI h3 ?_ | refine gnI ?_ | refine gtI ?_ | refine gsI rfl ?_ | ((conv => whnf); first | rw [h1] | rw [h2] | rw [h3] ))
    refine ⟨by simp; (first | lia | omega), hs, ?_⟩
    exact fin _ rfl
  | match_ k s l t =>
    repeat (first | refine guI True.intro ?_ | refine insI h1 ?_ | refine lisI h1 ?_ | refine cloI h1 ?_ | refine optI h1 ?_ | refine insI h2 ?_ | refine lisI h2 ?_ | refine cloI h2 ?_ | refine optI h2 ?_ | refine insI h3 ?_ | refine lisI h3 ?_ | refine cloI h3 ?_ | refine optI h3 ?_ | refine gnI ?_ | refine gtI ?_ | refine gsI rfl ?_ | ((conv => whnf); first | rw [h1] | rw [h2] | rw [h3] ))
    refine ⟨rfl, by simp, by simp, ?_⟩
    repeat (first | refine guI True.intro ?_ | refine insI h1 ?_ | refine lisI h1 ?_ | refine cloI h1 ?_ | refine optI h1 ?_ | refine insI h2 ?_ | refine lisI h2 ?_ | refine cloI h2 ?_ | refine optI h2 ?_ | refine insI h3 ?_ | refine lisI h3 ?_ | refine cloI h3 ?_ | refine optI h3 ?_ | refine gcI (rfl : Cls.maker = .maker) ?_ | refine gcI (rfl : Mt.cls _ = .maker) ?_ | refine gnI ?_ | refine gtI ?_ | refine gsI rfl ?_ | ((conv => whnf); first | rw [h1] | rw [h2] | rw [h3] ))
    refine here_ok (by first | exact le1 hn rfl | exact le2 hn rfl | (first | lia | omega)) M hl ?_
    repeat (first | refine guI True.intro ?_ | refine gnI ?_ | refine gtI ?_ | refine gsI rfl ?_)
    refine ⟨rfl, by simp, by simp, by simp, ?_⟩
    repeat (first | refine guI True.intro ?_ | refine insI h1 ?_ | refine lisI h1 ?_ | refine cloI h1 ?_ | refine optI h1 ?_ | refine insI h2 ?_ | refine lisI h2 ?_ | refine cloI h2 ?_ | refine optI h2 ?_ | refine insI h3 ?_ | refine lisI h3 ?_ | refine cloI h3 ?_ | refine optI h3 ?_ | refine gnI ?_ | refine gtI ?_ | refine gsI rfl ?_ | ((conv => whnf); first | rw [h1] | rw [h2] | rw [h3] ))
    refine ⟨by simp; (first | lia | omega), hs, ?_⟩
    exact fin _ rfl
  | jump t =>
    repeat (first | refine guI True.intro ?_ | refine insI h1 ?_ | refine lisI h1 ?_ | refine cloI h1 ?_ | refine optI h1 ?_ | refine insI h2 ?_ | refine lisI h2 ?_ | refine cloI h2 ?_ | refine optI h2 ?_ | refine insI h3 ?_ | refine lisI h3 ?_ | refine cloI h3 ?_ | refine optI h3 ?_ | refine gnI ?_ | refine gtI ?_ | refine gsI rfl ?_ | ((conv => whnf); first | rw [h1] | rw [h2] | rw [h3] ))
    refine ⟨rfl, by simp, by simp, ?_⟩
    repeat (first | refine guI True.intro ?_ | refine insI h1 ?_ | refine lisI h1 ?_ | refine cloI h1 ?_ | refine optI h1 ?_ | refine insI h2 ?_ | refine lisI h2 ?_ | refine cloI h2 ?_ | refine optI h2 ?_ | refine insI h3 ?_ | refine lisI h3 ?_ | refine cloI h3 ?_ | refine optI h3 ?_ | refine gcI (rfl : Cls.maker = .maker) ?_ | refine gcI (rfl : Mt.cls _ = .maker) ?_ | refine gnI ?_ | refine gtI ?_ | refine gsI rfl ?_ | ((conv => whnf); first | rw [h1] | rw [h2] | rw [h3] ))
    refine here_ok (by first | exact le1 hn rfl | exact le2 hn rfl | (first | lia | omega)) M hl ?_
    repeat (first | refine guI True.intro ?_ | refine gnI ?_ | refine gtI ?_ | refine gsI rfl ?_)
    refine ⟨rfl, by simp, by simp, by simp, ?_⟩
    repeat (first | refine guI True.intro ?_ | refine insI h1 ?_ | refine lisI h1 ?_ | refine cloI h1 ?_ | refine optI h1 ?_ | refine insI h2 ?_ | refine lisI h2 ?_ | refine cloI h2 ?_ | refine optI h2 ?_ | refine insI h3 ?_ | refine lisI h3 ?_ | refine cloI h3 ?_ | refine optI h3 ?_ | refine gnI ?_ | refine gtI ?_ | refine gsI rfl ?_ | ((conv => whnf); first | rw [h1] | rw [h2] | rw [h3] ))
    refine ⟨by simp; (first | lia | omega), hs, ?_⟩
    exact fin _ rfl
  | again s t =>
    repeat (first | refine guI True.intro ?_ | refine insI h1 ?_ | refine lisI h1 ?_ | refine cloI h1 ?_ | refine optI h1 ?_ | refine insI h2 ?_ | refine lisI h2 ?_ | refine cloI h2 ?_ | refine optI h2 ?_ | refine insI h3 ?_ | refine lisI h3 ?_ | refine cloI h3 ?_ | refine optI h3 ?_ | refine gnI ?_ | refine gtI ?_ | refine gsI rfl ?_ | ((conv => whnf); first | rw [h1] | rw [h2] | rw [h3] ))
    refine ⟨rfl, by simp, by simp, ?_⟩
    repeat (first | refine guI True.intro ?_ | refine insI h1 ?_ | refine lisI h1 ?_ | refine cloI h1 ?_ | refine optI h1 ?_ | refine insI h2 ?_ | refine lisI h2 ?_ | refine cloI h2 ?_ | refine optI h2 ?_ | refine insI h3 ?_ | refine lisI h3 ?_ | refine cloI h3 ?_ | refine optI h3 ?_ | refine gcI (rfl : Cls.maker = .maker) ?_ | refine gcI (rfl : Mt.cls _ = .maker) ?_ | refine gnI ?_ | refine gtI ?_ | refine gsI rfl ?_ | ((conv => whnf); first | rw [h1] | rw [h2] | rw [h3] ))
    refine here_ok (by first | exact le1 hn rfl | exact le2 hn rfl | (first | lia | omega)) M hl ?_
    repeat (first | refine guI True.intro ?_ | refine gnI ?_ | refine gtI ?_ | refine gsI rfl ?_)
    refine ⟨rfl, by simp, by simp, by simp, ?_⟩
    repeat (first | refine guI True.intro ?_ | refine insI h1 ?_ | refine lisI h1 ?_ | refine cloI h1 ?_ | refine optI h1 ?_ | refine insI h2 ?_ | refine lisI h2 ?_ | refine cloI h2 ?_ | refine optI h2 ?_ | refine insI h3 ?_ | refine lisI h3 ?_ | refine cloI h3 ?_ | refine optI h3 ?_ | refine gnI ?_ | refine gtI ?_ | refine gsI rfl ?_ | ((conv => whnf); first | rw [h1] | rw [h2] | rw [h3] ))
    refine ⟨by simp; (first | lia | omega), hs, ?_⟩
    exact fin _ rfl
end Mine
namespace Mine
variable {scr : List Int}
noncomputable def As.labs (k : Tg) (s : Src) : As → Nat → List Rw
  | .nil, _ => []
  | .cons ls t r, q => ls.map (fun l => .match_ k s l q) ++ r.labs k s (q + (t.len + 1))
noncomputable def X.saves (e : X) (sl : Nat) : List Rw := match e with
  | .const _ _ _ => []
  | e => [.save sl e]
mutual
noncomputable def T.comp : T → Nat → Nat → List Rw
  | .nil, _, _ => []
  | .set s e, _, _ => [.set s e]
  | .if_ e a b, p, sl => bif b.isNil then .unless e ((p + 1 + a.len : Nat) : Int) :: a.comp (p + 1) sl
    else .unless e ((p + 2 + a.len : Nat) : Int) :: (a.comp (p + 1) sl ++ .jump ((p + 2 + a.len + b.len : Nat) : Int) :: b.comp (p + 2 + a.len) (sl + a.slots))
  | .case k e pre _ d post, p, sl =>
    e.saves sl ++ (pre.labs k (e.src sl) (p + e.own + (pre.nlab + post.nlab) + d.len + 1) ++ (post.labs k (e.src sl) (p + e.own + (pre.nlab + post.nlab) + d.len + 1 + pre.len) ++
      (d.comp (p + e.own + (pre.nlab + post.nlab)) (sl + e.own) ++ (.jump ((p + (e.own + (pre.nlab + post.nlab) + d.len + 1 + (pre.len + post.len)) : Nat) : Int) ::
        (pre.comp ((p + (e.own + (pre.nlab + post.nlab) + d.len + 1 + (pre.len + post.len)) : Nat) : Int) (p + e.own + (pre.nlab + post.nlab) + d.len + 1) (sl + e.own + d.slots) ++
         post.comp ((p + (e.own + (pre.nlab + post.nlab) + d.len + 1 + (pre.len + post.len)) : Nat) : Int) (p + e.own + (pre.nlab + post.nlab) + d.len + 1 + pre.len) (sl + e.own + d.slots + pre.slots))))))
  | .for_ a e step body, p, sl => a.comp p sl ++ (.unless e ((p + a.len + (1 + body.len + step.len + 1) : Nat) : Int) :: (body.comp (p + a.len + 1) sl ++ (step.comp (p + a.len + 1 + body.len) (sl + body.slots) ++ [.jump ((p + a.len : Nat) : Int)])))
  | .while_ e body, p, sl => .unless e ((p + (1 + body.len + 1) : Nat) : Int) :: (body.comp (p + 1) sl ++ [.jump (p : Int)])
  | .rep e sg body, p, sl => .times sl e sg :: .again sl ((p + (2 + body.len + 1) : Nat) : Int) :: (body.comp (p + 2) (sl + 1) ++ [.jump ((p + 1 : Nat) : Int)])
  | .block ts, p, sl => ts.comp p sl
  | .forever body, p, sl => body.comp p sl ++ [.jump (p : Int)]
noncomputable def Ts.comp : Ts → Nat → Nat → List Rw
  | .nil, _, _ => []
  | .cons t r, p, sl => t.comp p sl ++ r.comp (p + t.len) (sl + t.slots)
noncomputable def As.comp : As → Int → Nat → Nat → List Rw
  | .nil, _, _, _ => []
  | .cons _ t r, j, p, sl => t.comp p sl ++ (.jump j :: r.comp j (p + (t.len + 1)) (sl + t.slots))
end
theorem As.labs_len {k : Tg} {s : Src} : ∀ {A : As} {q : Nat}, (A.labs k s q).length = A.nlab
  | .nil, _ => rfl
  | .cons ls t r, q => by simp only [As.labs, As.nlab, List.length_append, List.length_map, As.labs_len]
theorem X.saves_len {e : X} {sl : Nat} : (e.saves sl).length = e.own := by cases e <;> rfl
mutual
theorem T.comp_len : ∀ (t : T) (p sl : Nat), (t.comp p sl).length = t.len
  | .nil, _, _ => rfl
  | .set s e, _, _ => rfl
  | .if_ e a b, p, sl => by
    cases h : b.isNil
    · simp only [T.comp, T.len, h, cond_false, List.length_cons, List.length_append, T.comp_len a, T.comp_len b]; (first | lia | omega)
    · simp only [T.comp, T.len, h, cond_true, List.length_cons, T.comp_len a]; (first | lia | omega)
  | .case k e pre _ d post, p, sl => by
    simp only [T.comp, T.len, List.length_cons, List.length_append, As.labs_len, X.saves_len, T.comp_len d, As.comp_len pre, As.comp_len post]; (first | lia | omega)
  | .for_ a e step body, p, sl => by
    simp only [T.comp, T.len, List.length_cons, List.length_append, List.length_nil, T.comp_len a, T.comp_len step, T.comp_len body]; (first | lia | omega)
  | .while_ e body, p, sl => by simp only [T.comp, T.len, List.length_cons, List.length_append, List.length_nil, T.comp_len body]; (first | lia | omega)
  | .rep e sg body, p, sl => by simp only [T.comp, T.len, List.length_cons, List.length_append, List.length_nil, T.comp_len body]; (first | lia | omega)
  | .block ts, p, sl => Ts.comp_len ts p sl
  | .forever body, p, sl => by simp only [T.comp, T.len, List.length_cons, List.length_append, List.length_nil, T.comp_len body]
theorem Ts.comp_len : ∀ (ts : Ts) (p sl : Nat), (ts.comp p sl).length = ts.len
  | .nil, _, _ => rfl
  | .cons t r, p, sl => by simp only [Ts.comp, Ts.len, List.length_append, T.comp_len t, Ts.comp_len r]
theorem As.comp_len : ∀ (A : As) (j : Int) (p sl : Nat), (A.comp j p sl).length = A.len
  | .nil, _, _, _ => rfl
  | .cons _ t r, j, p, sl => by simp only [As.comp, As.len, List.length_cons, List.length_append, T.comp_len t, As.comp_len r]; (first | lia | omega)
end
noncomputable def Sub (code : List Rw) (p : Nat) (l : List Rw) : Prop := ∀ i r, l[i]? = some r → code[p + i]? = some r
theorem Sub.head {code : List Rw} {p : Nat} {x : Rw} {l : List Rw} (s : Sub code p (x :: l)) : code[p]? = some x := s 0 x rfl
theorem Sub.tail {code : List Rw} {p : Nat} {x : Rw} {l : List Rw} (s : Sub code p (x :: l)) : Sub code (p + 1) l := fun i r h => by
  have := s (i + 1) r h
  rwa [show p + (i + 1) = p + 1 + i by (first | lia | omega)] at this
theorem Sub.left {code : List Rw} {p : Nat} {l r : List Rw} (s : Sub code p (l ++ r)) : Sub code p l := fun i x h => s i x (by
  rw [List.getElem?_append_left (List.getElem?_eq_some_iff.mp h).1]; exact h)
theorem Sub.right {code : List Rw} {p q : Nat} {l r : List Rw} (s : Sub code p (l ++ r)) (e : q = p + l.length) : Sub code q r := fun i x h => by
  have := s (l.length + i) x (by rw [List.getElem?_append_right (by first | exact le1 hn rfl | exact le2 hn rfl | (first | lia | omega))]; rw [show l.length + i - l.length = i by (first | lia | omega)]; exact h)
  rw [e, Nat.add_assoc]; exact this
theorem labAt_of {code : List Rw} {k : Tg} {s : Src} {q : Nat} : ∀ {ls : List X} {p : Nat}, Sub code p (ls.map fun l => .match_ k s l q) → labAt code k s q ls p
  | [], _, _ => True.intro
  | l :: r, p, h => ⟨h.head, labAt_of h.tail⟩
theorem As.labsAt_of {code : List Rw} {k : Tg} {s : Src} : ∀ {A : As} {p q : Nat}, Sub code p (A.labs k s q) → A.labsAt code k s p q
  | .nil, _, _, _ => True.intro
  | .cons ls t r, p, q, h => ⟨labAt_of h.left, As.labsAt_of (h.right (by simp))⟩
theorem T.at_of {code : List Rw} (x : T) : ∀ (p sl : Nat), Sub code p (x.comp p sl) → x.at code p sl := by
  refine T.rec (motive_1 := fun t => ∀ (p sl : Nat), Sub code p (t.comp p sl) → t.at code p sl) (motive_2 := fun ts => ∀ (p sl : Nat), Sub code p (ts.comp p sl) → ts.at code p sl) (motive_3 := fun A => ∀ (fin : Nat) (p sl : Nat), Sub code p (A.comp (fin : Int) p sl) → A.at code fin p sl) ?_ ?_ ?_ ?_ ?_ ?_ ?_ ?_ ?_ ?_ ?_ ?_ ?_ x
  · intro  _  _  _
    exact True.intro
  · intro s e p  sl  h
    exact h.head
  · intro e a b ih_a ih_b p  sl  h
    have h : Sub code p (bif b.isNil then .unless e ((p + 1 + a.len : Nat) : Int) :: a.comp (p + 1) sl else .unless e ((p + 2 + a.len : Nat) : Int) :: (a.comp (p + 1) sl ++ .jump ((p + 2 + a.len + b.len : Nat) : Int) :: b.comp (p + 2 + a.len) (sl + a.slots))) := h
    show code[p]? = some (.unless e ((p + 1 + a.len + (bif b.isNil then 0 else 1) : Nat) : Int)) ∧ a.at code (p + 1) sl ∧ (b.isNil = false → code[p + 1 + a.len]? = some (.jump ((p + 2 + a.len + b.len : Nat) : Int)) ∧ b.at code (p + 2 + a.len) (sl + a.slots))
    cases hb : b.isNil
    · rw [hb] at h
      have h : Sub code p (.unless e ((p + 2 + a.len : Nat) : Int) :: (a.comp (p + 1) sl ++ .jump ((p + 2 + a.len + b.len : Nat) : Int) :: b.comp (p + 2 + a.len) (sl + a.slots))) := h
      have ha := h.tail
      have hb2 := ha.right (q := p + 1 + a.len) (by rw [T.comp_len])
      refine ⟨h.head.trans (congrArg (fun n : Nat => some (Rw.unless e (n : Int))) (by show p + 2 + a.len = p + 1 + a.len + 1; (first | lia | omega))), ih_a _ _ ha.left, fun _ => ⟨hb2.head, ih_b _ _ ?_⟩⟩
      have := hb2.tail
      rwa [show p + 1 + a.len + 1 = p + 2 + a.len by (first | lia | omega)] at this
    · rw [hb] at h
      exact ⟨Sub.head h, ih_a _ _ (Sub.tail h), fun h => by cases h⟩
  · intro k e pre _ d post ih_pre ih_d ih_post p  sl  h
    have h1 := h.right (q := p + e.own) (by rw [X.saves_len])
    have h2 := h1.right (q := p + e.own + pre.nlab) (by rw [As.labs_len])
    have h3 := h2.right (q := p + e.own + (pre.nlab + post.nlab)) (by rw [As.labs_len]; (first | lia | omega))
    have h4 := h3.right (q := p + e.own + (pre.nlab + post.nlab) + d.len) (by rw [T.comp_len])
    have h5 := h4.tail
    have h6 := h5.right (q := p + e.own + (pre.nlab + post.nlab) + d.len + 1 + pre.len) (by rw [As.comp_len])
    refine ⟨fun ho => ?_, As.labsAt_of h1.left, As.labsAt_of h2.left, ih_d _ _ h3.left, h4.head, ih_pre _ _ _ h5.left, ih_post _ _ _ h6⟩
    cases e <;> first | exact h.left.head | cases ho
  · intro a e step body ih_a ih_step ih_body p  sl  h
    have h1 := h.right (q := p + a.len) (by rw [T.comp_len])
    have h2 := h1.tail
    have h3 := h2.right (q := p + a.len + 1 + body.len) (by rw [T.comp_len])
    have h4 := h3.right (q := p + a.len + 1 + body.len + step.len) (by rw [T.comp_len])
    exact ⟨ih_a _ _ h.left, h1.head, ih_body _ _ h2.left, ih_step _ _ h3.left, h4.head⟩
  · intro e body ih_body p  sl  h
    have h2 := h.tail.right (q := p + 1 + body.len) (by rw [T.comp_len])
    exact ⟨h.head, ih_body _ _ h.tail.left, h2.head⟩
  · intro e sg body ih_body p  sl  h
    have h1 := h.tail
    have h2 := h1.tail
    have h3 := h2.right (q := p + 2 + body.len) (by rw [T.comp_len])
    exact ⟨h.head, h1.head, ih_body _ _ h2.left, h3.head⟩
  · intro ts ih_ts p  sl  h
    exact ih_ts p sl h
  · intro body ih_body p  sl  h
    exact ⟨ih_body _ _ h.left, (h.right (q := p + body.len) (by rw [T.comp_len])).head⟩
  · intro  _  _  _
    exact True.intro
  · intro t r ih_t ih_r p  sl  h
    exact ⟨ih_t _ _ (Sub.left h), ih_r _ _ (Sub.right h (by rw [T.comp_len]))⟩
  · intro  _  _  _  _
    exact True.intro
  · intro ls t r ih_t ih_r fin  p  sl  h
    have h1 := h.right (q := p + t.len) (by rw [T.comp_len])
    exact ⟨ih_t _ _ h.left, h1.head, ih_r _ _ _ h1.tail⟩
end Mine
namespace Mine
variable {scr : List Int}
noncomputable def MkOk (scr : List Int) (n : Nat) (t : T) : Prop := ∀ (m c sl : Nat) (R : List Rw) (H : Hp) (Q : V → Hp → Prop), MK H m c R sl → R.length + t.len ≤ 4000 →
  (∀ H', MK H' m c (R ++ t.comp R.length sl) (sl + t.slots) → Up [m, c] H H' → Q .none H') → Cn scr n (.mt .make) [.obj m, t.v] H Q
theorem set_mid {R L : List Rw} {x y : Rw} : (R ++ x :: L).set R.length y = R ++ y :: L := by
  rw [List.set_append_right _ _ (Nat.le_refl _), Nat.sub_self]; rfl
theorem get_mid {R L : List Rw} {x : Rw} : (R ++ x :: L)[R.length]? = some x := by
  rw [List.getElem?_append_right (Nat.le_refl _), Nat.sub_self]; rfl
theorem T.v_tup {t : T} (h : t.isNil = false) : ∃ vs, t.v = .tup vs := by
  cases t <;> first | exact ⟨_, rfl⟩ | cases h
theorem ifs {C : CallP} {c : E} {t e : Ss} {loc : List V} {H : Hp} {K : Fl → List V → Hp → Prop} (b : Bool) (hc : ∀ Q : V → Hp → Prop, Q (.bool b) H → wpE C scr c loc H Q) (h : wpSs C scr (bif b then t else e) loc H K) : wpS C scr (.if_ c t e) loc H K := by
  refine hc _ ?_
  cases b
  · exact h
  · exact h
theorem ifc {C : CallP} {c : E} {t e : Ss} {loc : List V} {H : Hp} {K : Fl → List V → Hp → Prop} (b : Bool) (hc : ∀ Q : V → Hp → Prop, Q (.bool b) H → wpE C scr c loc H Q) (h : wpSs C scr (bif b then t else e) loc H K) : wpSs C scr (.cons (.if_ c t e) .nil) loc H K := by
  have e1 : (fun f loc H => match f with | .next => wpSs C scr .nil loc H K | .cont => K .cont loc H | .ret v => K (.ret v) loc H) = K := by
    funext f loc H
    cases f <;> rfl
  show wpS C scr (.if_ c t e) loc H (fun f loc H => match f with | .next => wpSs C scr .nil loc H K | .cont => K .cont loc H | .ret v => K (.ret v) loc H)
  rw [e1]
  exact ifs b hc h
noncomputable def t_make3 : Ss := match t_make with | .cons _ (.cons _ r) => r | _ => .nil
noncomputable def mkTags : List (Tg × Mt) := [(.kSet, .assignment), (.kIf, .branch), (.kCase, .selection), (.kBlock, .block), (.kFor, .looping), (.kWhile, .looping), (.kRepeat, .looping), (.kForever, .looping)]
theorem make_call {n : Nat} {m : Nat} {tg : Tg} {mt : Mt} {r : List V} {H : Hp} {Q : V → Hp → Prop} {fs : List (At × V)} (ht : (tg, mt) ∈ mkTags) (hm : H[m]? = some (.inst .maker fs)) (h : Cn scr n (.mt mt) [.obj m, .tup (.str tg :: r)] H (fun _ H' => Q .none H')) :
    Cn scr (n + 1) (.mt .make) [.obj m, .tup (.str tg :: r)] H Q := by
  have fin : mt.cls = .maker → wpSs (Cn scr n) scr (.cons (.ex (.meth (.loc 0) mt (.cons (.loc 1) .nil))) .nil) [.obj m, .tup (.str tg :: r), .str tg] H (bodyQ Q) := fun hc => by
    refine And.intro (ne_of_ok True.intro) (insI hm ?_)
    exact ⟨rfl, hc, ne_of_ok True.intro, h⟩
  refine ⟨rfl, ne_of_ok True.intro, ne_of_ok True.intro, rfl, ?_⟩
  show wpSs (Cn scr n) scr t_make3 [.obj m, .tup (.str tg :: r), .str tg] H (bodyQ Q)
  have no : ∀ t (Q : V → Hp → Prop), decide (tg = t) = false → Q (.bool false) H → wpE (Cn scr n) scr (.cmp .eq (.loc 2) (.cS t)) [.obj m, .tup (.str tg :: r), .str tg] H Q := fun t Q e q => by
    refine ⟨ne_of_ok True.intro, ?_⟩
    show Q (.bool (decide (tg = t) == true)) H
    rw [e]; exact q
  have yes : ∀ (Q : V → Hp → Prop), Q (.bool true) H → wpE (Cn scr n) scr (.cmp .eq (.loc 2) (.cS tg)) [.obj m, .tup (.str tg :: r), .str tg] H Q := fun Q q => by
    refine ⟨ne_of_ok True.intro, ?_⟩
    show Q (.bool (decide (tg = tg) == true)) H
    rw [decide_eq_true rfl]; exact q
  simp only [mkTags, List.mem_cons, List.not_mem_nil, or_false, Prod.mk.injEq] at ht
  rcases ht with ⟨rfl, rfl⟩ | ⟨rfl, rfl⟩ | ⟨rfl, rfl⟩ | ⟨rfl, rfl⟩ | ht
  · exact ifc true (fun Q q => yes Q q) (fin rfl)
  · exact ifc false (fun Q q => no _ Q rfl q) (ifc false (fun Q q => no _ Q rfl q) (ifc true (fun Q q => yes Q q) (fin rfl)))
  · exact ifc false (fun Q q => no _ Q rfl q) (ifc false (fun Q q => no _ Q rfl q) (ifc false (fun Q q => no _ Q rfl q) (ifc true (fun Q q => yes Q q) (fin rfl))))
  · exact ifc false (fun Q q => no _ Q rfl q) (ifc false (fun Q q => no _ Q rfl q) (ifc false (fun Q q => no _ Q rfl q) (ifc false (fun Q q => no _ Q rfl q) (ifc true (fun Q q => yes Q q) (fin rfl)))))
  · have hl : mt = .looping := by rcases ht with h | h | h | h <;> exact h.2
    subst hl
    have hi : ∀ (Q : V → Hp → Prop), Q (.bool true) H → wpE (Cn scr n) scr (.cmp .in_ (.loc 2) (.tup (.cons (.cS .kFor) (.cons (.cS .kWhile) (.cons (.cS .kRepeat) (.cons (.cS .kForever) .nil)))))) [.obj m, .tup (.str tg :: r), .str tg] H Q := fun Q q => by
      refine ⟨ne_of_ok True.intro, ?_⟩
      rcases ht with h | h | h | h <;> (have h := h.1; subst h; exact q)
    refine ifc false (fun Q q => no _ Q ?_ q) (ifc false (fun Q q => no _ Q ?_ q) (ifc false (fun Q q => no _ Q ?_ q) (ifc false (fun Q q => no _ Q ?_ q) (ifc false (fun Q q => no _ Q ?_ q) (ifc false (fun Q q => no _ Q ?_ q) (ifc true (fun Q q => hi Q q) (fin rfl)))))))
    all_goals (rcases ht with h | h | h | h <;> (have h := h.1; subst h; rfl))
theorem mk_nil {n : Nat} (hn : 1 ≤ n) : MkOk scr n .nil := by
  intro m c sl R H Q M hl q
  obtain ⟨k, rfl⟩ : ∃ k, n = k + 1 := ⟨n - 1, by (first | lia | omega)⟩
  refine ⟨rfl, ne_of_ok True.intro, ?_⟩
  exact q H (by simpa [T.comp, T.slots] using M) .refl
theorem mk_set {n : Nat} (hn : 4 ≤ n) {s : Nat} {e : X} : MkOk scr n (.set s e) := by
  intro m c sl R H Q M hl q
  obtain ⟨k, rfl⟩ : ∃ k, n = k + 2 := ⟨n - 2, by (first | lia | omega)⟩
  have h1 := M.me
  refine make_call (tg := .kSet) (mt := .assignment) (by simp [mkTags]) h1 ?_
  refine ⟨rfl, ?_⟩
  repeat (first | refine guI True.intro ?_ | refine guI (X.v_ok _) ?_ | refine guI (T.v_ok _) ?_ | refine insI h1 ?_ | refine lisI h1 ?_ | refine cloI h1 ?_ | refine optI h1 ?_ | refine gcI (rfl : Cls.maker = .maker) ?_ | refine gcI (rfl : Mt.cls _ = .maker) ?_ | refine gnI ?_ | refine gtI ?_ | refine gsI rfl ?_ | ((conv => whnf); first | rw [h1] ))
  refine emit_ok (row := .set s e) (by first | exact le1 hn rfl | exact le2 hn rfl | (first | lia | omega)) M (by first | exact le1 hn rfl | exact le2 hn rfl | (first | lia | omega)) fun H1 M1 u1 => ?_
  exact q H1 M1 u1
theorem loop_tag {C : CallP} {m : Nat} {tg : Tg} {r : List V} {H : Hp} (t : Tg) (Q : V → Hp → Prop) (q : Q (.bool (decide (tg = t))) H) : wpE C scr (.cmp .eq (.idx (.loc 1) (.cI 0)) (.cS t)) [.obj m, .tup (.str tg :: r)] H Q := by
  refine ⟨ne_of_ok True.intro, ?_⟩
  refine ⟨rfl, ?_⟩
  show Q (.bool (decide (tg = t) == true)) H
  rw [beq_true]; exact q
theorem mk_forever {n : Nat} (hn : 4 ≤ n) {t : T} (ok : MkOk scr (n - 2) t) : MkOk scr n (.forever t) := by
  intro m c sl R H Q M hl q
  obtain ⟨k, rfl⟩ : ∃ k, n = k + 2 := ⟨n - 2, by (first | lia | omega)⟩
  simp only [T.len] at hl
  have h1 := M.me
  refine make_call (tg := .kForever) (mt := .looping) (by simp [mkTags]) h1 ⟨rfl, ?_⟩
  refine ifc false (fun Q q => loop_tag _ _ q) (ifc false (fun Q q => loop_tag _ _ q) (ifc false (fun Q q => loop_tag _ _ q) ?_))
  repeat (first | refine guI True.intro ?_ | refine guI (X.v_ok _) ?_ | refine guI (T.v_ok _) ?_ | refine insI h1 ?_ | refine lisI h1 ?_ | refine cloI h1 ?_ | refine optI h1 ?_ | refine gcI (rfl : Cls.maker = .maker) ?_ | refine gcI (rfl : Mt.cls _ = .maker) ?_ | refine gnI ?_ | refine gtI ?_ | refine gsI rfl ?_ | ((conv => whnf); first | rw [h1] ))
  refine here_ok (by first | exact le1 hn rfl | exact le2 hn rfl | (first | lia | omega)) M (by first | exact le1 hn rfl | exact le2 hn rfl | (first | lia | omega)) ?_
  repeat (first | refine guI True.intro ?_ | refine guI (X.v_ok _) ?_ | refine guI (T.v_ok _) ?_ | refine insI h1 ?_ | refine lisI h1 ?_ | refine cloI h1 ?_ | refine optI h1 ?_ | refine gcI (rfl : Cls.maker = .maker) ?_ | refine gcI (rfl : Mt.cls _ = .maker) ?_ | refine gnI ?_ | refine gtI ?_ | refine gsI rfl ?_ | ((conv => whnf); first | rw [h1] ))
  refine ok m c sl R H _ M (by first | exact le1 hn rfl | exact le2 hn rfl | (first | lia | omega)) fun H1 M1 u1 => ?_
  have h2 := M1.me
  repeat (first | refine guI True.intro ?_ | refine guI (X.v_ok _) ?_ | refine guI (T.v_ok _) ?_ | refine insI h2 ?_ | refine lisI h2 ?_ | refine cloI h2 ?_ | refine optI h2 ?_ | refine gcI (rfl : Cls.maker = .maker) ?_ | refine gcI (rfl : Mt.cls _ = .maker) ?_ | refine gnI ?_ | refine gtI ?_ | refine gsI rfl ?_ | ((conv => whnf); first | rw [h2] ))
  refine emit_ok (row := .jump R.length) (by first | exact le1 hn rfl | exact le2 hn rfl | (first | lia | omega)) M1 (by rw [List.length_append, T.comp_len]; (first | lia | omega)) fun H2 M2 u2 => ?_
  exact q H2 (by simpa only [T.comp, T.slots, List.append_assoc] using M2) (u1.trans u2)
theorem loop_mk {n : Nat} (hn : 3 ≤ n) {e : X} {body step : T} (ok1 : MkOk scr (n - 1) body) (ok2 : MkOk scr (n - 1) step) {m c sl : Nat} {R : List Rw} {H : Hp} {Q : V → Hp → Prop} (M : MK H m c R sl) (hl : R.length + (1 + body.len + step.len + 1) ≤ 4000)
    (q : ∀ H', MK H' m c (R ++ .unless e ((R.length + (1 + body.len + step.len + 1) : Nat) : Int) :: (body.comp (R.length + 1) sl ++ (step.comp (R.length + 1 + body.len) (sl + body.slots) ++ [.jump (R.length : Int)]))) (sl + body.slots + step.slots) → Up [m, c] H H' → Q .none H') :
    Cn scr n (.mt .loop) [.obj m, e.v, body.v, step.v] H Q := by
  obtain ⟨k, rfl⟩ : ∃ k, n = k + 1 := ⟨n - 1, by (first | lia | omega)⟩
  have h1 := M.me
  refine ⟨rfl, ?_⟩
  repeat (first | refine guI True.intro ?_ | refine guI (X.v_ok _) ?_ | refine guI (T.v_ok _) ?_ | refine insI h1 ?_ | refine lisI h1 ?_ | refine cloI h1 ?_ | refine optI h1 ?_ | refine gcI (rfl : Cls.maker = .maker) ?_ | refine gcI (rfl : Mt.cls _ = .maker) ?_ | refine gnI ?_ | refine gtI ?_ | refine gsI rfl ?_ | ((conv => whnf); first | rw [h1] ))
  refine here_ok (by first | exact le1 hn rfl | exact le2 hn rfl | (first | lia | omega)) M (by first | exact le1 hn rfl | exact le2 hn rfl | (first | lia | omega)) ?_
  repeat (first | refine guI True.intro ?_ | refine guI (X.v_ok _) ?_ | refine guI (T.v_ok _) ?_ | refine insI h1 ?_ | refine lisI h1 ?_ | refine cloI h1 ?_ | refine optI h1 ?_ | refine gcI (rfl : Cls.maker = .maker) ?_ | refine gcI (rfl : Mt.cls _ = .maker) ?_ | refine gnI ?_ | refine gtI ?_ | refine gsI rfl ?_ | ((conv => whnf); first | rw [h1] ))
  refine emit_ok (row := .unless e (-1)) (by first | exact le1 hn rfl | exact le2 hn rfl | (first | lia | omega)) M (by first | exact le1 hn rfl | exact le2 hn rfl | (first | lia | omega)) fun H1 M1 u1 => ?_
  have h2 := M1.me
  repeat (first | refine guI True.intro ?_ | refine guI (X.v_ok _) ?_ | refine guI (T.v_ok _) ?_ | refine insI h2 ?_ | refine lisI h2 ?_ | refine cloI h2 ?_ | refine optI h2 ?_ | refine gcI (rfl : Cls.maker = .maker) ?_ | refine gcI (rfl : Mt.cls _ = .maker) ?_ | refine gnI ?_ | refine gtI ?_ | refine gsI rfl ?_ | ((conv => whnf); first | rw [h2] ))
  refine ok1 m c sl _ H1 _ M1 (by simp; (first | lia | omega)) fun H2 M2 u2 => ?_
  have h3 := M2.me
  repeat (first | refine guI True.intro ?_ | refine guI (X.v_ok _) ?_ | refine guI (T.v_ok _) ?_ | refine insI h3 ?_ | refine lisI h3 ?_ | refine cloI h3 ?_ | refine optI h3 ?_ | refine gcI (rfl : Cls.maker = .maker) ?_ | refine gcI (rfl : Mt.cls _ = .maker) ?_ | refine gnI ?_ | refine gtI ?_ | refine gsI rfl ?_ | ((conv => whnf); first | rw [h3] ))
  have l2 : (R ++ [Rw.unless e (-1)] ++ body.comp (R ++ [Rw.unless e (-1)]).length sl).length = R.length + 1 + body.len := by rw [List.length_append, T.comp_len]; simp
  refine ok2 m c _ _ H2 _ M2 (by rw [l2]; (first | lia | omega)) fun H3 M3 u3 => ?_
  have h4 := M3.me
  repeat (first | refine guI True.intro ?_ | refine guI (X.v_ok _) ?_ | refine guI (T.v_ok _) ?_ | refine insI h4 ?_ | refine lisI h4 ?_ | refine cloI h4 ?_ | refine optI h4 ?_ | refine gcI (rfl : Cls.maker = .maker) ?_ | refine gcI (rfl : Mt.cls _ = .maker) ?_ | refine gnI ?_ | refine gtI ?_ | refine gsI rfl ?_ | ((conv => whnf); first | rw [h4] ))
  refine emit_ok (row := .jump R.length) (by first | exact le1 hn rfl | exact le2 hn rfl | (first | lia | omega)) M3 (by rw [List.length_append, l2, T.comp_len]; (first | lia | omega)) fun H4 M4 u4 => ?_
  have h5 := M4.me
  repeat (first | refine guI True.intro ?_ | refine guI (X.v_ok _) ?_ | refine guI (T.v_ok _) ?_ | refine insI h5 ?_ | refine lisI h5 ?_ | refine cloI h5 ?_ | refine optI h5 ?_ | refine gcI (rfl : Cls.maker = .maker) ?_ | refine gcI (rfl : Mt.cls _ = .maker) ?_ | refine gnI ?_ | refine gtI ?_ | refine gsI rfl ?_ | ((conv => whnf); first | rw [h5] ))
  rw [l2] at M4
  have e1 : (R ++ [Rw.unless e (-1)]).length = R.length + 1 := by simp
  rw [e1] at M4
  simp only [List.append_assoc, List.cons_append, List.nil_append] at M4
  refine aim_ok (by first | exact le1 hn rfl | exact le2 hn rfl | (first | lia | omega)) M4 (by simp [T.comp_len]; (first | lia | omega)) get_mid True.intro fun H5 M5 u5 => ?_
  rw [set_mid] at M5
  refine q H5 ?_ ((((u1.trans u2).trans u3).trans u4).trans u5)
  have l4 : (R ++ Rw.unless e (-1) :: (body.comp (R.length + 1) sl ++ (step.comp (R.length + 1 + body.len) (sl + body.slots) ++ [Rw.jump (R.length : Int)]))).length = R.length + (1 + body.len + step.len + 1) := by simp [T.comp_len]; (first | lia | omega)
  rw [l4] at M5
  exact M5
theorem mk_while {n : Nat} (hn : 6 ≤ n) {e : X} {t : T} (ok : MkOk scr (n - 3) t) : MkOk scr n (.while_ e t) := by
  intro m c sl R H Q M hl q
  obtain ⟨k, rfl⟩ : ∃ k, n = k + 2 := ⟨n - 2, by (first | lia | omega)⟩
  simp only [T.len] at hl
  have h1 := M.me
  refine make_call (tg := .kWhile) (mt := .looping) (by simp [mkTags]) h1 ⟨rfl, ?_⟩
  refine ifc false (fun Q q => loop_tag _ _ q) (ifc true (fun Q q => loop_tag _ _ q) ?_)
  repeat (first | refine guI True.intro ?_ | refine guI (X.v_ok _) ?_ | refine guI (T.v_ok _) ?_ | refine insI h1 ?_ | refine lisI h1 ?_ | refine cloI h1 ?_ | refine optI h1 ?_ | refine gcI (rfl : Cls.maker = .maker) ?_ | refine gcI (rfl : Mt.cls _ = .maker) ?_ | refine gnI ?_ | refine gtI ?_ | refine gsI rfl ?_ | ((conv => whnf); first | rw [h1] ))
  refine loop_mk (n := k) (step := .nil) (by first | exact le1 hn rfl | exact le2 hn rfl | (first | lia | omega)) ok (mk_nil (by first | exact le1 hn rfl | exact le2 hn rfl | (first | lia | omega))) M (by simp only [T.len]; (first | lia | omega)) fun H1 M1 u1 => ?_
  refine q H1 ?_ u1
  simpa only [T.comp, T.slots, T.len, List.nil_append, Nat.add_zero] using M1
theorem mk_for {n : Nat} (hn : 6 ≤ n) {a : T} {e : X} {step body : T} (ok1 : MkOk scr (n - 2) a) (ok2 : MkOk scr (n - 3) body) (ok3 : MkOk scr (n - 3) step) (ha : a.slots = 0) (hs : step.slots = 0) : MkOk scr n (.for_ a e step body) := by
  intro m c sl R H Q M hl q
  obtain ⟨k, rfl⟩ : ∃ k, n = k + 2 := ⟨n - 2, by (first | lia | omega)⟩
  simp only [T.len] at hl
  have h1 := M.me
  refine make_call (tg := .kFor) (mt := .looping) (by simp [mkTags]) h1 ⟨rfl, ?_⟩
  refine ifc true (fun Q q => loop_tag _ _ q) ?_
  repeat (first | refine guI True.intro ?_ | refine guI (X.v_ok _) ?_ | refine guI (T.v_ok _) ?_ | refine insI h1 ?_ | refine lisI h1 ?_ | refine cloI h1 ?_ | refine optI h1 ?_ | refine gcI (rfl : Cls.maker = .maker) ?_ | refine gcI (rfl : Mt.cls _ = .maker) ?_ | refine gnI ?_ | refine gtI ?_ | refine gsI rfl ?_ | ((conv => whnf); first | rw [h1] ))
  refine ok1 m c sl R H _ M (by first | exact le1 hn rfl | exact le2 hn rfl | (first | lia | omega)) fun H1 M1 u1 => ?_
  have h2 := M1.me
  repeat (first | refine guI True.intro ?_ | refine guI (X.v_ok _) ?_ | refine guI (T.v_ok _) ?_ | refine insI h2 ?_ | refine lisI h2 ?_ | refine cloI h2 ?_ | refine optI h2 ?_ | refine gcI (rfl : Cls.maker = .maker) ?_ | refine gcI (rfl : Mt.cls _ = .maker) ?_ | refine gnI ?_ | refine gtI ?_ | refine gsI rfl ?_ | ((conv => whnf); first | rw [h2] ))
  have l1 : (R ++ a.comp R.length sl).length = R.length + a.len := by rw [List.length_append, T.comp_len]
  refine loop_mk (n := k) (by first | exact le1 hn rfl | exact le2 hn rfl | (first | lia | omega)) ok2 ok3 M1 (by rw [l1]; (first | lia | omega)) fun H2 M2 u2 => ?_
  refine q H2 ?_ (u1.trans u2)
  rw [l1] at M2
  simpa only [T.comp, T.slots, T.len, ha, hs, List.append_assoc, Nat.add_zero] using M2
theorem mk_rep {n : Nat} (hn : 6 ≤ n) {e : X} {sg : Bool} {t : T} (ok : MkOk scr (n - 3) t) : MkOk scr n (.rep e sg t) := by
  intro m c sl R H Q M hl q
  obtain ⟨k, rfl⟩ : ∃ k, n = k + 3 := ⟨n - 3, by (first | lia | omega)⟩
  simp only [T.len] at hl
  have h1 := M.me
  refine make_call (tg := .kRepeat) (mt := .looping) (by simp [mkTags]) h1 ⟨rfl, ?_⟩
  refine ifc false (fun Q q => loop_tag _ _ q) (ifc false (fun Q q => loop_tag _ _ q) (ifc true (fun Q q => loop_tag _ _ q) ?_))
  repeat (first | refine guI True.intro ?_ | refine guI (X.v_ok _) ?_ | refine guI (T.v_ok _) ?_ | refine insI h1 ?_ | refine lisI h1 ?_ | refine cloI h1 ?_ | refine optI h1 ?_ | refine gcI (rfl : Cls.maker = .maker) ?_ | refine gcI (rfl : Mt.cls _ = .maker) ?_ | refine gnI ?_ | refine gtI ?_ | refine gsI rfl ?_ | ((conv => whnf); first | rw [h1] ))
  refine ⟨rfl, ?_⟩
  repeat (first | refine guI True.intro ?_ | refine guI (X.v_ok _) ?_ | refine guI (T.v_ok _) ?_ | refine insI h1 ?_ | refine lisI h1 ?_ | refine cloI h1 ?_ | refine optI h1 ?_ | refine gcI (rfl : Cls.maker = .maker) ?_ | refine gcI (rfl : Mt.cls _ = .maker) ?_ | refine gnI ?_ | refine gtI ?_ | refine gsI rfl ?_ | ((conv => whnf); first | rw [h1] ))
  refine newSlot_ok (by first | exact le1 hn rfl | exact le2 hn rfl | (first | lia | omega)) M fun H1 M1 u1 => ?_
  have h2 := M1.me
  repeat (first | refine guI True.intro ?_ | refine guI (X.v_ok _) ?_ | refine guI (T.v_ok _) ?_ | refine insI h2 ?_ | refine lisI h2 ?_ | refine cloI h2 ?_ | refine optI h2 ?_ | refine gcI (rfl : Cls.maker = .maker) ?_ | refine gcI (rfl : Mt.cls _ = .maker) ?_ | refine gnI ?_ | refine gtI ?_ | refine gsI rfl ?_ | ((conv => whnf); first | rw [h2] ))
  refine emit_ok (row := .times sl e sg) (by first | exact le1 hn rfl | exact le2 hn rfl | (first | lia | omega)) M1 (by first | exact le1 hn rfl | exact le2 hn rfl | (first | lia | omega)) fun H2 M2 u2 => ?_
  have h3 := M2.me
  repeat (first | refine guI True.intro ?_ | refine guI (X.v_ok _) ?_ | refine guI (T.v_ok _) ?_ | refine insI h3 ?_ | refine lisI h3 ?_ | refine cloI h3 ?_ | refine optI h3 ?_ | refine gcI (rfl : Cls.maker = .maker) ?_ | refine gcI (rfl : Mt.cls _ = .maker) ?_ | refine gnI ?_ | refine gtI ?_ | refine gsI rfl ?_ | ((conv => whnf); first | rw [h3] ))
  refine emit_ok (row := .again sl (-1)) (by first | exact le1 hn rfl | exact le2 hn rfl | (first | lia | omega)) M2 (by simp; (first | lia | omega)) fun H3 M3 u3 => ?_
  have h4 := M3.me
  repeat (first | refine guI True.intro ?_ | refine guI (X.v_ok _) ?_ | refine guI (T.v_ok _) ?_ | refine insI h4 ?_ | refine lisI h4 ?_ | refine cloI h4 ?_ | refine optI h4 ?_ | refine gcI (rfl : Cls.maker = .maker) ?_ | refine gcI (rfl : Mt.cls _ = .maker) ?_ | refine gnI ?_ | refine gtI ?_ | refine gsI rfl ?_ | ((conv => whnf); first | rw [h4] ))
  have l3 : (R ++ [Rw.times sl e sg] ++ [Rw.again sl (-1)]).length = R.length + 2 := by simp
  refine ok m c _ _ H3 _ M3 (by rw [l3]; (first | lia | omega)) fun H4 M4 u4 => ?_
  have h5 := M4.me
  repeat (first | refine guI True.intro ?_ | refine guI (X.v_ok _) ?_ | refine guI (T.v_ok _) ?_ | refine insI h5 ?_ | refine lisI h5 ?_ | refine cloI h5 ?_ | refine optI h5 ?_ | refine gcI (rfl : Cls.maker = .maker) ?_ | refine gcI (rfl : Mt.cls _ = .maker) ?_ | refine gnI ?_ | refine gtI ?_ | refine gsI rfl ?_ | ((conv => whnf); first | rw [h5] ))
  have l2 : (R ++ [Rw.times sl e sg]).length = R.length + 1 := by simp
  rw [l2]
  refine emit_ok (row := .jump ((R.length + 1 : Nat) : Int)) (by first | exact le1 hn rfl | exact le2 hn rfl | (first | lia | omega)) M4 (by rw [List.length_append, l3, T.comp_len]; (first | lia | omega)) fun H5 M5 u5 => ?_
  have h6 := M5.me
  repeat (first | refine guI True.intro ?_ | refine guI (X.v_ok _) ?_ | refine guI (T.v_ok _) ?_ | refine insI h6 ?_ | refine lisI h6 ?_ | refine cloI h6 ?_ | refine optI h6 ?_ | refine gcI (rfl : Cls.maker = .maker) ?_ | refine gcI (rfl : Mt.cls _ = .maker) ?_ | refine gnI ?_ | refine gtI ?_ | refine gsI rfl ?_ | ((conv => whnf); first | rw [h6] ))
  rw [l3, List.append_assoc _ (T.comp _ _ _), List.append_assoc _ [Rw.again _ _], List.singleton_append] at M5
  rw [← l2]
  refine aim_ok (by first | exact le1 hn rfl | exact le2 hn rfl | (first | lia | omega)) M5 (by simp [T.comp_len]; (first | lia | omega)) get_mid True.intro fun H6 M6 u6 => ?_
  rw [set_mid] at M6
  refine q H6 ?_ (((((u1.trans u2).trans u3).trans u4).trans u5).trans u6)
  have l6 : (R ++ [Rw.times sl e sg] ++ Rw.again sl (-1) :: (t.comp (R.length + 2) (sl + 1) ++ [Rw.jump ((R.length + 1 : Nat) : Int)])).length = R.length + (2 + t.len + 1) := by simp [T.comp_len]; (first | lia | omega)
  rw [l6, List.append_assoc, List.singleton_append] at M6
  simpa only [T.comp, T.slots, Nat.add_assoc, Rw.aim] using M6
end Mine
namespace Mine
variable {scr : List Int}
theorem mk_if {n : Nat} (hn : 4 ≤ n) {e : X} {a b : T} (ok1 : MkOk scr (n - 2) a) (ok2 : MkOk scr (n - 2) b) : MkOk scr n (.if_ e a b) := by
  intro m c sl R H Q M hl q
  obtain ⟨k, rfl⟩ : ∃ k, n = k + 2 := ⟨n - 2, by (first | lia | omega)⟩
  simp only [T.len] at hl
  have h1 := M.me
  refine make_call (tg := .kIf) (mt := .branch) (by simp [mkTags]) h1 ⟨rfl, ?_⟩
  cases hb : b.isNil
  · rw [hb] at hl
    simp only [cond_false] at hl
    obtain ⟨vs, hv⟩ := T.v_tup hb
    have ok2' := ok2
    unfold MkOk at ok2'
    rw [hv] at ok2' ⊢
    repeat (first | refine guI True.intro ?_ | refine guI (X.v_ok _) ?_ | refine guI (T.v_ok _) ?_ | refine insI h1 ?_ | refine lisI h1 ?_ | refine cloI h1 ?_ | refine optI h1 ?_ | refine gcI (rfl : Cls.maker = .maker) ?_ | refine gcI (rfl : Mt.cls _ = .maker) ?_ | refine gnI ?_ | refine gtI ?_ | refine gsI rfl ?_ | ((conv => whnf); first | rw [h1] ))
    refine emit_ok (row := .unless e (-1)) (by first | exact le1 hn rfl | exact le2 hn rfl | (first | lia | omega)) M (by first | exact le1 hn rfl | exact le2 hn rfl | (first | lia | omega)) fun H1 M1 u1 => ?_
    have h2 := M1.me
    repeat (first | refine guI True.intro ?_ | refine guI (X.v_ok _) ?_ | refine guI (T.v_ok _) ?_ | refine insI h2 ?_ | refine lisI h2 ?_ | refine cloI h2 ?_ | refine optI h2 ?_ | refine gcI (rfl : Cls.maker = .maker) ?_ | refine gcI (rfl : Mt.cls _ = .maker) ?_ | refine gnI ?_ | refine gtI ?_ | refine gsI rfl ?_ | ((conv => whnf); first | rw [h2] ))
    refine ok1 m c sl _ H1 _ M1 (by simp; (first | lia | omega)) fun H2 M2 u2 => ?_
    have h3 := M2.me
    repeat (first | refine guI True.intro ?_ | refine guI (X.v_ok _) ?_ | refine guI (T.v_ok _) ?_ | refine insI h3 ?_ | refine lisI h3 ?_ | refine cloI h3 ?_ | refine optI h3 ?_ | refine gcI (rfl : Cls.maker = .maker) ?_ | refine gcI (rfl : Mt.cls _ = .maker) ?_ | refine gnI ?_ | refine gtI ?_ | refine gsI rfl ?_ | ((conv => whnf); first | rw [h3] ))
    have l1 : (R ++ [Rw.unless e (-1)]).length = R.length + 1 := by simp
    rw [l1, List.append_assoc, List.singleton_append] at M2
    have l2 : (R ++ Rw.unless e (-1) :: a.comp (R.length + 1) sl).length = R.length + 1 + a.len := by rw [List.length_append, List.length_cons, T.comp_len]; (first | lia | omega)
    refine emit_ok (row := .jump (-1)) (by first | exact le1 hn rfl | exact le2 hn rfl | (first | lia | omega)) M2 (by rw [l2]; (first | lia | omega)) fun H3 M3 u3 => ?_
    have h4 := M3.me
    repeat (first | refine guI True.intro ?_ | refine guI (X.v_ok _) ?_ | refine guI (T.v_ok _) ?_ | refine insI h4 ?_ | refine lisI h4 ?_ | refine cloI h4 ?_ | refine optI h4 ?_ | refine gcI (rfl : Cls.maker = .maker) ?_ | refine gcI (rfl : Mt.cls _ = .maker) ?_ | refine gnI ?_ | refine gtI ?_ | refine gsI rfl ?_ | ((conv => whnf); first | rw [h4] ))
    rw [List.append_assoc, List.cons_append] at M3
    refine aim_ok (by first | exact le1 hn rfl | exact le2 hn rfl | (first | lia | omega)) M3 (by simp [T.comp_len]; (first | lia | omega)) get_mid True.intro fun H4 M4 u4 => ?_
    rw [set_mid] at M4
    have l4 : (R ++ Rw.unless e (-1) :: (a.comp (R.length + 1) sl ++ [Rw.jump (-1)])).length = R.length + 2 + a.len := by simp [T.comp_len]; (first | lia | omega)
    rw [l4] at M4
    have h5 := M4.me
    repeat (first | refine guI True.intro ?_ | refine guI (X.v_ok _) ?_ | refine guI (T.v_ok _) ?_ | refine insI h5 ?_ | refine lisI h5 ?_ | refine cloI h5 ?_ | refine optI h5 ?_ | refine gcI (rfl : Cls.maker = .maker) ?_ | refine gcI (rfl : Mt.cls _ = .maker) ?_ | refine gnI ?_ | refine gtI ?_ | refine gsI rfl ?_ | ((conv => whnf); first | rw [h5] ))
    have l5 : ∀ t, (R ++ Rw.unless e t :: (a.comp (R.length + 1) sl ++ [Rw.jump (-1)])).length = R.length + 2 + a.len := fun t => by simp [T.comp_len]; (first | lia | omega)
    refine ok2' m c _ _ H4 _ M4 (by show (R ++ Rw.unless e _ :: _).length + _ ≤ _; rw [l5]; (first | lia | omega)) fun H5 M5 u5 => ?_
    have h6 := M5.me
    repeat (first | refine guI True.intro ?_ | refine guI (X.v_ok _) ?_ | refine guI (T.v_ok _) ?_ | refine insI h6 ?_ | refine lisI h6 ?_ | refine cloI h6 ?_ | refine optI h6 ?_ | refine gcI (rfl : Cls.maker = .maker) ?_ | refine gcI (rfl : Mt.cls _ = .maker) ?_ | refine gnI ?_ | refine gtI ?_ | refine gsI rfl ?_ | ((conv => whnf); first | rw [h6] ))
    rw [l2]
    have l6 : (R ++ Rw.unless e ((R.length + 2 + a.len : Nat) : Int) :: a.comp (R.length + 1) sl).length = R.length + 1 + a.len := by simp [T.comp_len]; (first | lia | omega)
    have e5 : R ++ Rw.aim ((R.length + 2 + a.len : Nat) : Int) (Rw.unless e (-1)) :: (a.comp (R.length + 1) sl ++ [Rw.jump (-1)]) ++ b.comp (R ++ Rw.aim ((R.length + 2 + a.len : Nat) : Int) (Rw.unless e (-1)) :: (a.comp (R.length + 1) sl ++ [Rw.jump (-1)])).length (sl + a.slots)
        = (R ++ Rw.unless e ((R.length + 2 + a.len : Nat) : Int) :: a.comp (R.length + 1) sl) ++ Rw.jump (-1) :: b.comp (R.length + 2 + a.len) (sl + a.slots) := by
      show R ++ Rw.unless e ((R.length + 2 + a.len : Nat) : Int) :: _ ++ b.comp (R ++ Rw.unless e ((R.length + 2 + a.len : Nat) : Int) :: _).length _ = _
      rw [l5]; simp only [List.append_assoc, List.cons_append, List.nil_append]
    rw [e5] at M5
    rw [← l6]
    refine aim_ok (by first | exact le1 hn rfl | exact le2 hn rfl | (first | lia | omega)) M5 (by rw [List.length_append, l6, List.length_cons, T.comp_len]; (first | lia | omega)) get_mid True.intro fun H6 M6 u6 => ?_
    rw [set_mid, List.length_append, l6, List.length_cons, T.comp_len] at M6
    refine q H6 ?_ (((((u1.trans u2).trans u3).trans u4).trans u5).trans u6)
    have e6 : R.length + 1 + a.len + (b.len + 1) = R.length + 2 + a.len + b.len := by (first | lia | omega)
    rw [e6] at M6
    simpa only [T.comp, T.slots, hb, cond_false, Rw.aim, Nat.add_assoc, List.append_assoc, List.cons_append] using M6
  · have hb' : b = .nil := by cases b <;> first | rfl | cases hb
    subst hb'
    simp only [T.isNil, cond_true] at hl
    repeat (first | refine guI True.intro ?_ | refine guI (X.v_ok _) ?_ | refine guI (T.v_ok _) ?_ | refine insI h1 ?_ | refine lisI h1 ?_ | refine cloI h1 ?_ | refine optI h1 ?_ | refine gcI (rfl : Cls.maker = .maker) ?_ | refine gcI (rfl : Mt.cls _ = .maker) ?_ | refine gnI ?_ | refine gtI ?_ | refine gsI rfl ?_ | ((conv => whnf); first | rw [h1] ))
    refine emit_ok (row := .unless e (-1)) (by first | exact le1 hn rfl | exact le2 hn rfl | (first | lia | omega)) M (by first | exact le1 hn rfl | exact le2 hn rfl | (first | lia | omega)) fun H1 M1 u1 => ?_
    have h2 := M1.me
    repeat (first | refine guI True.intro ?_ | refine guI (X.v_ok _) ?_ | refine guI (T.v_ok _) ?_ | refine insI h2 ?_ | refine lisI h2 ?_ | refine cloI h2 ?_ | refine optI h2 ?_ | refine gcI (rfl : Cls.maker = .maker) ?_ | refine gcI (rfl : Mt.cls _ = .maker) ?_ | refine gnI ?_ | refine gtI ?_ | refine gsI rfl ?_ | ((conv => whnf); first | rw [h2] ))
    refine ok1 m c sl _ H1 _ M1 (by simp; (first | lia | omega)) fun H2 M2 u2 => ?_
    have h3 := M2.me
    repeat (first | refine guI True.intro ?_ | refine guI (X.v_ok _) ?_ | refine guI (T.v_ok _) ?_ | refine insI h3 ?_ | refine lisI h3 ?_ | refine cloI h3 ?_ | refine optI h3 ?_ | refine gcI (rfl : Cls.maker = .maker) ?_ | refine gcI (rfl : Mt.cls _ = .maker) ?_ | refine gnI ?_ | refine gtI ?_ | refine gsI rfl ?_ | ((conv => whnf); first | rw [h3] ))
    have l1 : (R ++ [Rw.unless e (-1)]).length = R.length + 1 := by simp
    rw [l1, List.append_assoc, List.singleton_append] at M2
    have l2 : (R ++ Rw.unless e (-1) :: a.comp (R.length + 1) sl).length = R.length + 1 + a.len := by rw [List.length_append, List.length_cons, T.comp_len]; (first | lia | omega)
    refine aim_ok (by first | exact le1 hn rfl | exact le2 hn rfl | (first | lia | omega)) M2 (by rw [l2]; (first | lia | omega)) get_mid True.intro fun H3 M3 u3 => ?_
    rw [set_mid, l2] at M3
    exact q H3 (by simpa only [T.comp, T.slots, T.isNil, cond_true, Rw.aim, Nat.add_zero] using M3) ((u1.trans u2).trans u3)
theorem blk_ok {n : Nat} {m c : Nat} {x op : V} {K : Fl → List V → Hp → Prop} : ∀ (ts : Ts), (∀ t, ts.has t → MkOk scr n t) → ∀ (R : List Rw) (sl : Nat) (H : Hp) (tl : List V), MK H m c R sl → R.length + ts.len ≤ 4000 → (tl = [] ∨ ∃ z, tl = [z]) →
    (∀ H' tl', MK H' m c (R ++ ts.comp R.length sl) (sl + ts.slots) → Up [m, c] H H' → (tl' = [] ∨ ∃ z, tl' = [z]) → K .next (.obj m :: x :: op :: tl') H') →
    forW (fun _ => True) (fun v loc H k => wpSs (Cn scr n) scr (.cons (.ex (.meth (.loc 0) .make (.cons (.loc 3) .nil))) .nil) (setL loc 3 v) H k) ts.vs (.obj m :: x :: op :: tl) H K := by
  intro ts
  refine Ts.ind (P := fun ts => (∀ t, ts.has t → MkOk scr n t) → ∀ (R : List Rw) (sl : Nat) (H : Hp) (tl : List V), MK H m c R sl → R.length + ts.len ≤ 4000 → (tl = [] ∨ ∃ z, tl = [z]) →
    (∀ H' tl', MK H' m c (R ++ ts.comp R.length sl) (sl + ts.slots) → Up [m, c] H H' → (tl' = [] ∨ ∃ z, tl' = [z]) → K .next (.obj m :: x :: op :: tl') H') →
    forW (fun _ => True) (fun v loc H k => wpSs (Cn scr n) scr (.cons (.ex (.meth (.loc 0) .make (.cons (.loc 3) .nil))) .nil) (setL loc 3 v) H k) ts.vs (.obj m :: x :: op :: tl) H K) ?_ ?_ ts
  · intro ok R sl H tl M hl ht k
    exact ⟨True.intro, k H tl (by simpa [Ts.comp, Ts.slots] using M) .refl ht⟩
  · intro t r ih0 ok R sl H tl M hl ht k
    simp only [Ts.len] at hl
    have h1 := M.me
    have key : wpSs (Cn scr n) scr (.cons (.ex (.meth (.loc 0) .make (.cons (.loc 3) .nil))) .nil) [.obj m, x, op, t.v] H (fun f loc H => match f with
        | .next => forW (fun _ => True) (fun v loc H k => wpSs (Cn scr n) scr (.cons (.ex (.meth (.loc 0) .make (.cons (.loc 3) .nil))) .nil) (setL loc 3 v) H k) r.vs loc H K
        | .cont => forW (fun _ => True) (fun v loc H k => wpSs (Cn scr n) scr (.cons (.ex (.meth (.loc 0) .make (.cons (.loc 3) .nil))) .nil) (setL loc 3 v) H k) r.vs loc H K
        | .ret v => K (.ret v) loc H) := by
      repeat (first | refine guI True.intro ?_ | refine guI (X.v_ok _) ?_ | refine guI (T.v_ok _) ?_ | refine insI h1 ?_ | refine lisI h1 ?_ | refine cloI h1 ?_ | refine optI h1 ?_ | refine gcI (rfl : Cls.maker = .maker) ?_ | refine gcI (rfl : Mt.cls _ = .maker) ?_ | refine gnI ?_ | refine gtI ?_ | refine gsI rfl ?_ | ((conv => whnf); first | rw [h1] ))
      refine ok t (.inl rfl) m c sl R H _ M (by first | exact le1 hn rfl | exact le2 hn rfl | (first | lia | omega)) fun H1 M1 u1 => ?_
      have l1 : (R ++ t.comp R.length sl).length = R.length + t.len := by rw [List.length_append, T.comp_len]
      refine ih0 (fun t h => ok t (.inr h)) _ _ H1 [t.v] M1 (by rw [l1]; (first | lia | omega)) (.inr ⟨_, rfl⟩) fun H2 tl2 M2 u2 t2 => ?_
      rw [l1] at M2
      exact k H2 tl2 (by simpa only [Ts.comp, Ts.slots, List.append_assoc, Nat.add_assoc] using M2) (u1.trans u2) t2
    refine ⟨True.intro, ?_⟩
    rcases ht with rfl | ⟨z, rfl⟩
    · exact key
    · exact key
theorem scoped_ok {n : Nat} (hn : 1 ≤ n) {m : Nat} {H : Hp} {Q : V → Hp → Prop} (q : Q (.int (-1)) H) : Cn scr n (.mt .scoped) [.obj m, .int (-1)] H Q := by
  obtain ⟨k, rfl⟩ : ∃ k, n = k + 1 := ⟨n - 1, by (first | lia | omega)⟩
  refine ⟨rfl, ?_⟩
  repeat (first | refine guI True.intro ?_ | refine gnI ?_ | refine gtI ?_ | refine gsI rfl ?_)
  exact q
theorem close_ok {n : Nat} (hn : 1 ≤ n) {m : Nat} {H : Hp} {Q : V → Hp → Prop} (q : Q .none H) : Cn scr n (.mt .close) [.obj m, .int (-1), .int (-1)] H Q := by
  obtain ⟨k, rfl⟩ : ∃ k, n = k + 1 := ⟨n - 1, by (first | lia | omega)⟩
  refine ⟨rfl, ?_⟩
  repeat (first | refine guI True.intro ?_ | refine gnI ?_ | refine gtI ?_ | refine gsI rfl ?_)
  exact q
theorem mk_block {n : Nat} (hn : 4 ≤ n) {ts : Ts} (ok : ∀ t, ts.has t → MkOk scr (n - 2) t) : MkOk scr n (.block ts) := by
  intro m c sl R H Q M hl q
  obtain ⟨k, rfl⟩ : ∃ k, n = k + 2 := ⟨n - 2, by (first | lia | omega)⟩
  simp only [T.len] at hl
  have h1 := M.me
  refine make_call (tg := .kBlock) (mt := .block) (by simp [mkTags]) h1 ⟨rfl, ?_⟩
  repeat (first | refine guI True.intro ?_ | refine guI (X.v_ok _) ?_ | refine guI (T.v_ok _) ?_ | refine insI h1 ?_ | refine lisI h1 ?_ | refine cloI h1 ?_ | refine optI h1 ?_ | refine gcI (rfl : Cls.maker = .maker) ?_ | refine gcI (rfl : Mt.cls _ = .maker) ?_ | refine gnI ?_ | refine gtI ?_ | refine gsI rfl ?_ | ((conv => whnf); first | rw [h1] ))
  refine scoped_ok (by first | exact le1 hn rfl | exact le2 hn rfl | (first | lia | omega)) ?_
  refine ⟨ne_of_ok True.intro, rfl, ?_⟩
  refine blk_ok ts ok R sl H [] M hl (.inl rfl) fun H1 tl1 M1 u1 t1 => ?_
  have h2 := M1.me
  rcases t1 with rfl | ⟨z, rfl⟩
  · repeat (first | refine guI True.intro ?_ | refine guI (X.v_ok _) ?_ | refine guI (T.v_ok _) ?_ | refine insI h2 ?_ | refine lisI h2 ?_ | refine cloI h2 ?_ | refine optI h2 ?_ | refine gcI (rfl : Cls.maker = .maker) ?_ | refine gcI (rfl : Mt.cls _ = .maker) ?_ | refine gnI ?_ | refine gtI ?_ | refine gsI rfl ?_ | ((conv => whnf); first | rw [h2] ))
    refine close_ok (by first | exact le1 hn rfl | exact le2 hn rfl | (first | lia | omega)) ?_
    exact q H1 M1 u1
  · repeat (first | refine guI True.intro ?_ | refine guI (X.v_ok _) ?_ | refine guI (T.v_ok _) ?_ | refine insI h2 ?_ | refine lisI h2 ?_ | refine cloI h2 ?_ | refine optI h2 ?_ | refine gcI (rfl : Cls.maker = .maker) ?_ | refine gcI (rfl : Mt.cls _ = .maker) ?_ | refine gnI ?_ | refine gtI ?_ | refine gsI rfl ?_ | ((conv => whnf); first | rw [h2] ))
    refine close_ok (by first | exact le1 hn rfl | exact le2 hn rfl | (first | lia | omega)) ?_
    exact q H1 M1 u1
end Mine
namespace Mine
variable {scr : List Int}
noncomputable def addrs : Nat → Nat → List Nat
  | _, 0 => []
  | a, k + 1 => a :: addrs (a + 1) k
noncomputable def intsV (l : List Nat) : List V := l.map fun (a : Nat) => V.int a
noncomputable def aim1 (R : List Rw) (a : Nat) (q : Int) : List Rw := match R[a]? with
  | some r => R.set a (r.aim q)
  | none => R
noncomputable def aimAll (q : Int) : List Nat → List Rw → List Rw
  | [], R => R
  | a :: r, R => aimAll q r (aim1 R a q)
theorem aim1_len {R : List Rw} {a : Nat} {q : Int} : (aim1 R a q).length = R.length := by
  unfold aim1
  split <;> simp
theorem aim1_mid {C1 C2 : List Rw} {r : Rw} {q : Int} : aim1 (C1 ++ r :: C2) C1.length q = C1 ++ r.aim q :: C2 := by
  unfold aim1
  rw [get_mid]
  exact set_mid
noncomputable def As.labs0 (k : Tg) (s : Src) : As → List Rw
  | .nil => []
  | .cons ls _ r => ls.map (fun l => .match_ k s l (-1)) ++ r.labs0 k s
theorem As.labs0_len {k : Tg} {s : Src} : ∀ {A : As}, (A.labs0 k s).length = A.nlab
  | .nil => rfl
  | .cons ls t r => by simp only [As.labs0, As.nlab, List.length_append, List.length_map, As.labs0_len]
noncomputable def As.ends : As → Nat → List Nat
  | .nil, _ => []
  | .cons _ t r, p => (p + t.len) :: r.ends (p + (t.len + 1))
theorem aimAll_labs {k : Tg} {s : Src} {q : Nat} {C2 : List Rw} : ∀ {ls : List X} {C1 : List Rw}, aimAll q (addrs C1.length ls.length) (C1 ++ (ls.map (fun l => Rw.match_ k s l (-1)) ++ C2)) = C1 ++ (ls.map (fun l => Rw.match_ k s l q) ++ C2)
  | [], C1 => rfl
  | l :: r, C1 => by
    have ih := aimAll_labs (k := k) (s := s) (q := q) (C2 := C2) (ls := r) (C1 := C1 ++ [.match_ k s l q])
    show aimAll q (addrs (C1.length + 1) r.length) (aim1 (C1 ++ Rw.match_ k s l (-1) :: (r.map (fun l => Rw.match_ k s l (-1)) ++ C2)) C1.length q) = _
    rw [aim1_mid]
    simpa [Rw.aim] using ih
theorem aimAll_ends {q : Int} {D : List Rw} : ∀ {A : As} {C : List Rw} {p sl : Nat}, p = C.length → aimAll q (A.ends p) (C ++ (A.comp (-1) p sl ++ D)) = C ++ (A.comp q p sl ++ D) := by
  intro A
  refine As.ind (P := fun A => ∀ {C : List Rw} {p sl : Nat}, p = C.length → aimAll q (A.ends p) (C ++ (A.comp (-1) p sl ++ D)) = C ++ (A.comp q p sl ++ D)) ?_ ?_ A
  · intro C p sl h
    exact rfl
  · intro ls t r ih0 C p sl h
    have ih := ih0 (C := C ++ (t.comp p sl ++ [.jump q])) (p := p + (t.len + 1)) (sl := sl + t.slots) (by simp [T.comp_len, h])
    have e : aim1 (C ++ ((As.cons ls t r).comp (-1) p sl ++ D)) (p + t.len) q = (C ++ t.comp p sl) ++ Rw.jump q :: (r.comp (-1) (p + (t.len + 1)) (sl + t.slots) ++ D) := by
      have e1 : C ++ ((As.cons ls t r).comp (-1) p sl ++ D) = (C ++ t.comp p sl) ++ Rw.jump (-1) :: (r.comp (-1) (p + (t.len + 1)) (sl + t.slots) ++ D) := by
        simp only [As.comp, List.append_assoc, List.cons_append]
      have e2 : p + t.len = (C ++ t.comp p sl).length := by rw [List.length_append, T.comp_len, h]
      rw [e1, e2, aim1_mid]; rfl
    show aimAll q (r.ends (p + (t.len + 1))) (aim1 _ (p + t.len) q) = _
    rw [e]
    simpa only [As.comp, List.append_assoc, List.cons_append, List.nil_append] using ih
noncomputable def canAim (R : List Rw) (as : List Nat) : Prop := ∀ a ∈ as, ∃ r, R[a]? = some r ∧ r.aims
theorem Rw.aims_aim {r : Rw} {q : Int} (h : r.aims) : (r.aim q).aims := by cases r <;> first | exact h | exact h.elim
theorem canAim_tail {R : List Rw} {a : Nat} {as : List Nat} {q : Int} (h : canAim R (a :: as)) : canAim (aim1 R a q) as := by
  intro b hb
  obtain ⟨r, h1, h2⟩ := h b (List.mem_cons_of_mem _ hb)
  unfold aim1
  split
  · rename_i r' h3
    by_cases e : a = b
    · subst e
      rw [h1] at h3
      cases h3
      exact ⟨_, List.getElem?_set_self (List.getElem?_eq_some_iff.mp h1).1, Rw.aims_aim h2⟩
    · exact ⟨r, by rw [List.getElem?_set_ne e]; exact h1, h2⟩
  · exact ⟨r, h1, h2⟩
noncomputable def b_aim : Ss := .cons (.ex (.meth (.loc 0) .aim (.cons (.loc 11) .nil))) .nil
theorem aims_ok {n : Nat} (hn : 2 ≤ n) {m c x sl q : Nat} {items : List V} {b1 b2 b3 b4 b5 b6 b7 b8 b9 b10 : V} {K : Fl → List V → Hp → Prop} (hq : q ≤ 4000) (xw : x ∉ [m, c]) : ∀ (as : List Nat) (R : List Rw) (H : Hp) (tl : List V), MK H m c R sl → R.length = q → H[x]? = some (.list items) → canAim R as →
    (tl = [] ∨ ∃ z, tl = [z]) → (∀ H' tl', MK H' m c (aimAll q as R) sl → Up [m, c] H H' → (tl' = [] ∨ ∃ z, tl' = [z]) → K .next (.obj m :: b1 :: b2 :: b3 :: b4 :: b5 :: b6 :: b7 :: b8 :: b9 :: b10 :: tl') H') →
    forW (stillW (.obj x) items) (fun v loc H k => wpSs (Cn scr n) scr b_aim (setL loc 11 v) H k) (intsV as) (.obj m :: b1 :: b2 :: b3 :: b4 :: b5 :: b6 :: b7 :: b8 :: b9 :: b10 :: tl) H K := by
  intro as
  induction as with
  | nil =>
    intro R H tl M hl hx hc ht k
    exact ⟨hx, k H tl M .refl ht⟩
  | cons a as ih0 =>
    intro R H tl M hl hx hc ht k
    have h1 := M.me
    obtain ⟨row, hr, ha⟩ := hc a (List.mem_cons_self ..)
    have key : wpSs (Cn scr n) scr b_aim [.obj m, b1, b2, b3, b4, b5, b6, b7, b8, b9, b10, .int a] H (fun f loc H => match f with
        | .next => forW (stillW (.obj x) items) (fun v loc H k => wpSs (Cn scr n) scr b_aim (setL loc 11 v) H k) (intsV as) loc H K
        | .cont => forW (stillW (.obj x) items) (fun v loc H k => wpSs (Cn scr n) scr b_aim (setL loc 11 v) H k) (intsV as) loc H K
        | .ret v => K (.ret v) loc H) := by
      repeat (first | refine guI True.intro ?_ | refine insI h1 ?_ | refine lisI h1 ?_ | refine cloI h1 ?_ | refine optI h1 ?_ | refine gcI (rfl : Cls.maker = .maker) ?_ | refine gcI (rfl : Mt.cls _ = .maker) ?_ | refine gnI ?_ | refine gtI ?_ | refine gsI rfl ?_ | ((conv => whnf); first | rw [h1] ))
      refine aim_ok hn M (by first | exact le1 hn rfl | exact le2 hn rfl | (first | lia | omega)) hr ha fun H1 M1 u1 => ?_
      have e : R.set a (row.aim R.length) = aim1 R a q := by unfold aim1; rw [hr, hl]
      rw [e] at M1
      exact ih0 _ H1 [.int a] M1 (by rw [aim1_len, hl]) (u1.2 _ _ hx xw) (canAim_tail hc) (.inr ⟨_, rfl⟩) fun H2 tl2 M2 u2 t2 => k H2 tl2 M2 (u1.trans u2) t2
    refine ⟨hx, ?_⟩
    rcases ht with rfl | ⟨z, rfl⟩
    · exact key
    · exact key
theorem canAim_labs {k : Tg} {s : Src} {C1 C2 : List Rw} {ls : List X} : canAim (C1 ++ (ls.map (fun l => Rw.match_ k s l (-1)) ++ C2)) (addrs C1.length ls.length) := by
  have gen : ∀ (ls : List X) (C1 : List Rw) a, a ∈ addrs C1.length ls.length → ∃ r, (C1 ++ (ls.map (fun l => Rw.match_ k s l (-1)) ++ C2))[a]? = some r ∧ r.aims := by
    intro ls
    induction ls with
    | nil => intro C1 a h; cases h
    | cons l r ih =>
      intro C1 a h
      rcases List.mem_cons.mp h with rfl | h
      · exact ⟨_, get_mid, True.intro⟩
      · have := ih (C1 ++ [.match_ k s l (-1)]) a (by simpa using h)
        simpa using this
  exact gen ls C1
theorem canAim_ends {D : List Rw} : ∀ {A : As} {C : List Rw} {p sl : Nat}, p = C.length → canAim (C ++ (A.comp (-1) p sl ++ D)) (A.ends p) := by
  intro A
  refine As.ind (P := fun A => ∀ {C : List Rw} {p sl : Nat}, p = C.length → canAim (C ++ (A.comp (-1) p sl ++ D)) (A.ends p)) ?_ ?_ A
  · intro C p sl h
    intro a h; cases h
  · intro ls t r ih0 C p sl h
    have ih := ih0 (C := C ++ (t.comp p sl ++ [.jump (-1)])) (p := p + (t.len + 1)) (sl := sl + t.slots) (by simp [T.comp_len, h])
    intro a ha
    rcases List.mem_cons.mp ha with rfl | ha
    · have e1 : C ++ ((As.cons ls t r).comp (-1) p sl ++ D) = (C ++ t.comp p sl) ++ Rw.jump (-1) :: (r.comp (-1) (p + (t.len + 1)) (sl + t.slots) ++ D) := by
        simp only [As.comp, List.append_assoc, List.cons_append]
      have e2 : p + t.len = (C ++ t.comp p sl).length := by rw [List.length_append, T.comp_len, h]
      rw [e1, e2]
      exact ⟨_, get_mid, True.intro⟩
    · have := ih a ha
      simpa only [As.comp, List.append_assoc, List.cons_append, List.nil_append] using this
end Mine
namespace Mine
variable {scr : List Int}
noncomputable def b_sarm : Ss := match t_selection with | .cons _ (.cons _ (.cons _ (.cons _ (.cons (.for2 _ _ _ b) _)))) => b | _ => .nil
noncomputable def b_slab : Ss := match b_sarm with | .cons _ (.cons _ (.cons (.for_ _ _ b) _)) => b | _ => .nil
noncomputable def one' (tl : List V) : Prop := tl = [] ∨ ∃ z, tl = [z]
theorem slabs_ok {n : Nat} (hn : 2 ≤ n) {m c sl pl : Nat} {k : Tg} {rest : List V} {src : Src} {u3 fv dv x y : V} {K : Fl → List V → Hp → Prop} (hp : pl ∉ [m, c]) : ∀ (ls : List X) (R : List Rw) (A : List V) (H : Hp) (tl : List V), MK H m c R sl → H[pl]? = some (.list A) →
    R.length + ls.length ≤ 4000 → A.length + ls.length ≤ 5000 → one' tl →
    (∀ H' tl', MK H' m c (R ++ ls.map (fun l => .match_ k src l (-1))) sl → H'[pl]? = some (.list (A ++ intsV (addrs R.length ls.length))) → Up [pl, m, c] H H' → one' tl' → K .next (.obj m :: .tup (.str .kCase :: .str k :: rest) :: src.v :: u3 :: fv :: dv :: x :: y :: .obj pl :: tl') H') →
    forW (fun _ => True) (fun v loc H k => wpSs (Cn scr n) scr b_slab (setL loc 9 v) H k) (ls.map X.v) (.obj m :: .tup (.str .kCase :: .str k :: rest) :: src.v :: u3 :: fv :: dv :: x :: y :: .obj pl :: tl) H K := by
  intro ls
  induction ls with
  | nil =>
    intro R A H tl M hA hl hb ht q
    exact ⟨True.intro, q H tl (by simpa using M) (by simpa [addrs, intsV] using hA) .refl ht⟩
  | cons l r ih0 =>
    intro R A H tl M hA hl hb ht q
    simp only [List.length_cons] at hl hb
    have h1 := M.me
    have hs : src.v.ok := by cases src <;> first | exact X.v_ok _ | exact True.intro
    have key : wpSs (Cn scr n) scr b_slab [.obj m, .tup (.str .kCase :: .str k :: rest), src.v, u3, fv, dv, x, y, .obj pl, l.v] H (fun f loc H => match f with
        | .next => forW (fun _ => True) (fun v loc H k => wpSs (Cn scr n) scr b_slab (setL loc 9 v) H k) (r.map X.v) loc H K
        | .cont => forW (fun _ => True) (fun v loc H k => wpSs (Cn scr n) scr b_slab (setL loc 9 v) H k) (r.map X.v) loc H K
        | .ret v => K (.ret v) loc H) := by
      repeat (first | refine guI True.intro ?_ | refine guI (X.v_ok _) ?_ | refine guI (T.v_ok _) ?_ | refine insI h1 ?_ | refine lisI h1 ?_ | refine cloI h1 ?_ | refine optI h1 ?_ | refine insI hA ?_ | refine lisI hA ?_ | refine cloI hA ?_ | refine optI hA ?_ | refine gcI (rfl : Cls.maker = .maker) ?_ | refine gcI (rfl : Mt.cls _ = .maker) ?_ | refine gnI ?_ | refine gtI ?_ | refine gsI rfl ?_ | ((conv => whnf); first | rw [h1] | rw [hA] ))
      refine ⟨ne_of_ok hs, ?_⟩
      repeat (first | refine guI True.intro ?_ | refine guI (X.v_ok _) ?_ | refine guI (T.v_ok _) ?_ | refine gnI ?_ | refine gtI ?_ | refine gsI rfl ?_)
      refine emit_ok (row := .match_ k src l (-1)) (by first | exact le1 hn rfl | exact le2 hn rfl | (first | lia | omega)) M (by first | exact le1 hn rfl | exact le2 hn rfl | (first | lia | omega)) fun H1 M1 u1 => ?_
      have hA1 := u1.2 _ _ hA hp
      repeat (first | refine guI True.intro ?_ | refine insI hA1 ?_ | refine lisI hA1 ?_ | refine cloI hA1 ?_ | refine optI hA1 ?_ | refine gnI ?_ | refine gtI ?_ | refine gsI rfl ?_ | ((conv => whnf); first | rw [hA1] ))
      refine ⟨by (first | lia | omega), ?_⟩
      have u2 : Up [pl, m, c] H (H1.set pl (.list (A ++ [.int R.length]))) := (u1.mono (by simp)).trans (Up.set (by simp))
      have hp2 : m ≠ pl ∧ c ≠ pl := by simp at hp; (first | lia | omega)
      refine ih0 _ (A ++ [.int R.length]) _ [l.v] (M1.up (Up.set (W := [pl]) (by simp)) (by simpa using hp2.1) (by simpa using hp2.2)) (at_set_self hA1) (by simp; (first | lia | omega)) (by simp; (first | lia | omega)) (.inr ⟨_, rfl⟩) fun H2 tl2 M2 hA2 u3 t2 => ?_
      refine q H2 tl2 (by simpa using M2) ?_ (u2.trans u3) t2
      rw [hA2]; simp [addrs, intsV]
    refine ⟨True.intro, ?_⟩
    rcases ht with rfl | ⟨z, rfl⟩
    · exact key
    · exact key
noncomputable def Found (W : List Nat) (H : Hp) : As → Nat → List V → Prop
  | .nil, _, F => F = []
  | .cons ls t r, a, F => ∃ pl F', F = .tup [.obj pl, t.v] :: F' ∧ pl ∉ W ∧ H[pl]? = some (.list (intsV (addrs a ls.length))) ∧ Found W H r (a + ls.length) F'
theorem Found.up {W W2 : List Nat} {H H' : Hp} (u : Up W2 H H') : ∀ {A : As} {a : Nat} {F : List V} (hw : ∀ j, j ∈ W2 → j ∈ W), Found W H A a F → Found W H' A a F := by
  intro A
  refine As.ind (P := fun A => ∀ {a : Nat} {F : List V} (hw : ∀ j, j ∈ W2 → j ∈ W), Found W H A a F → Found W H' A a F) ?_ ?_ A
  · intro a F hw h
    exact h
  · intro ls t r ih0 a F hw h
    obtain ⟨pl, F', e, w, hp, f⟩ := h
    exact ⟨pl, F', e, w, u.2 _ _ hp (fun m => w (hw _ m)), ih0 hw f⟩
theorem Found.more {W : List Nat} {H : Hp} {w : Nat} (hw : H.length ≤ w) : ∀ {A : As} {a : Nat} {F : List V}, Found W H A a F → Found (w :: W) H A a F := by
  intro A
  refine As.ind (P := fun A => ∀ {a : Nat} {F : List V}, Found W H A a F → Found (w :: W) H A a F) ?_ ?_ A
  · intro a F h
    exact h
  · intro ls t r ih0 a F h
    obtain ⟨pl, F', e, n, hp, f⟩ := h
    refine ⟨pl, F', e, fun m => ?_, hp, ih0 f⟩
    rcases List.mem_cons.mp m with rfl | m
    · exact absurd (lt_at hp) (by first | exact le1 hn rfl | exact le2 hn rfl | (first | lia | omega))
    · exact n m
theorem Found.len {W : List Nat} {H : Hp} : ∀ {A : As} {a : Nat} {F : List V}, Found W H A a F → F.length ≤ A.len
  | .nil, a, F, h => by subst h; exact Nat.zero_le _
  | .cons ls t r, a, F, h => by
    obtain ⟨pl, F', rfl, n, hp, f⟩ := h
    have := f.len
    simp only [List.length_cons, As.len]; (first | lia | omega)
noncomputable def sArm (C : CallP) (scr : List Int) (v : V) (loc : List V) (H : Hp) (k : Fl → List V → Hp → Prop) : Prop := tupK v fun l => twoK l fun x y => wpSs C scr b_sarm (setL (setL loc 6 x) 7 y) H k
noncomputable def tl4 (tl : List V) : Prop := tl = [] ∨ (∃ x y, tl = [x, y]) ∨ (∃ x y z, tl = [x, y, z]) ∨ ∃ x y z w, tl = [x, y, z, w]
theorem sarms_ok {n : Nat} (hn : 2 ≤ n) {m c sl f : Nat} {k : Tg} {rest : List V} {src : Src} {u3 dv : V} {K : Fl → List V → Hp → Prop} {restA : List V} (hf : f ∉ [m, c]) : ∀ (A : As) (R : List Rw) (F : List V) (H : Hp) (tl : List V), MK H m c R sl → H[f]? = some (.list F) →
    R.length + A.nlab ≤ 4000 → F.length + A.len ≤ 5000 → tl4 tl →
    (∀ H' F' tl', MK H' m c (R ++ A.labs0 k src) sl → H'[f]? = some (.list (F ++ F')) → Found [f, m, c] H' A R.length F' → Up [f, m, c] H H' → tl4 tl' → forW (fun _ => True) (sArm (Cn scr n) scr) restA (.obj m :: .tup (.str .kCase :: .str k :: rest) :: src.v :: u3 :: .obj f :: dv :: tl') H' K) →
    forW (fun _ => True) (sArm (Cn scr n) scr) (A.vs ++ restA) (.obj m :: .tup (.str .kCase :: .str k :: rest) :: src.v :: u3 :: .obj f :: dv :: tl) H K := by
  intro A
  refine As.ind (P := fun A => ∀ (R : List Rw) (F : List V) (H : Hp) (tl : List V), MK H m c R sl → H[f]? = some (.list F) →
    R.length + A.nlab ≤ 4000 → F.length + A.len ≤ 5000 → tl4 tl →
    (∀ H' F' tl', MK H' m c (R ++ A.labs0 k src) sl → H'[f]? = some (.list (F ++ F')) → Found [f, m, c] H' A R.length F' → Up [f, m, c] H H' → tl4 tl' → forW (fun _ => True) (sArm (Cn scr n) scr) restA (.obj m :: .tup (.str .kCase :: .str k :: rest) :: src.v :: u3 :: .obj f :: dv :: tl') H' K) →
    forW (fun _ => True) (sArm (Cn scr n) scr) (A.vs ++ restA) (.obj m :: .tup (.str .kCase :: .str k :: rest) :: src.v :: u3 :: .obj f :: dv :: tl) H K) ?_ ?_ A
  · intro R F H tl M hF hl hb ht q
    exact q H [] tl (by simpa [As.labs0] using M) (by simpa using hF) rfl .refl ht
  · intro ls t r ih0 R F H tl M hF hl hb ht q
    simp only [As.nlab, As.len] at hl hb
    have key : ∀ tl, one' tl → wpSs (Cn scr n) scr (match b_sarm with | .cons _ (.cons _ r) => r | _ => .nil) (.obj m :: .tup (.str .kCase :: .str k :: rest) :: src.v :: u3 :: .obj f :: dv :: .tup (ls.map X.v) :: t.v :: .obj H.length :: tl) (H ++ [.list []]) (fun f' loc H => match f' with
        | .next => forW (fun _ => True) (sArm (Cn scr n) scr) (r.vs ++ restA) loc H K
        | .cont => forW (fun _ => True) (sArm (Cn scr n) scr) (r.vs ++ restA) loc H K
        | .ret v => K (.ret v) loc H) := by
      intro tl ht
      have ff := lt_at hF
      have fm := lt_at M.me
      have fc := lt_at M.co
      refine ⟨ne_of_ok True.intro, ?_⟩
      refine slabs_ok hn (pl := H.length) (by simp; (first | lia | omega)) ls R [] (H ++ [.list []]) tl ⟨at_add M.me, at_add M.co⟩ at_new (by first | exact le1 hn rfl | exact le2 hn rfl | (first | lia | omega)) (by simp; (first | lia | omega)) ht fun H1 tl1 M1 hp1 u1 t1 => ?_
      have u01 : Up [m, c] H H1 := (Up.shed ((Up.app (W := [H.length, m, c])).trans u1) (Nat.le_refl _))
      have hF1 := u01.2 _ _ hF hf
      have fin : ∀ tl, tl4 tl → forW (fun _ => True) (sArm (Cn scr n) scr) (r.vs ++ restA) (.obj m :: .tup (.str .kCase :: .str k :: rest) :: src.v :: u3 :: .obj f :: dv :: tl) (H1.set f (.list (F ++ [.tup [.obj H.length, t.v]]))) K := by
        intro tl ht
        have u2 : Up [f, m, c] H (H1.set f (.list (F ++ [.tup [.obj H.length, t.v]]))) := (u01.mono (by simp)).trans (Up.set (by simp))
        have nm : m ≠ f ∧ c ≠ f := by simp at hf; (first | lia | omega)
        refine ih0 _ _ _ tl (M1.up (Up.set (W := [f]) (by simp)) (by simpa using nm.1) (by simpa using nm.2)) (at_set_self hF1) (by simp; (first | lia | omega)) (by simp; (first | lia | omega)) ht fun H2 F2 tl2 M2 hF2 f2 u3 t2 => ?_
        refine q H2 (.tup [.obj H.length, t.v] :: F2) tl2 (by simpa only [As.labs0, List.append_assoc] using M2) (by simpa using hF2) ?_ (u2.trans u3) t2
        refine ⟨H.length, F2, rfl, by simp; (first | lia | omega), ?_, by simpa using f2⟩
        have hp2 : (H1.set f (.list (F ++ [.tup [.obj H.length, t.v]])))[H.length]? = some (.list ([] ++ intsV (addrs R.length ls.length))) := at_set_ne hp1 (by first | exact le1 hn rfl | exact le2 hn rfl | (first | lia | omega))
        exact u3.2 _ _ hp2 (by simp; (first | lia | omega))
      rcases t1 with rfl | ⟨z, rfl⟩
      · repeat (first | refine guI True.intro ?_ | refine guI (X.v_ok _) ?_ | refine guI (T.v_ok _) ?_ | refine insI hF1 ?_ | refine lisI hF1 ?_ | refine cloI hF1 ?_ | refine optI hF1 ?_ | refine gnI ?_ | refine gtI ?_ | refine gsI rfl ?_ | ((conv => whnf); first | rw [hF1] ))
        refine ⟨by (first | lia | omega), ?_⟩
        exact fin _ (.inr (.inr (.inl ⟨_, _, _, rfl⟩)))
      · repeat (first | refine guI True.intro ?_ | refine guI (X.v_ok _) ?_ | refine guI (T.v_ok _) ?_ | refine insI hF1 ?_ | refine lisI hF1 ?_ | refine cloI hF1 ?_ | refine optI hF1 ?_ | refine gnI ?_ | refine gtI ?_ | refine gsI rfl ?_ | ((conv => whnf); first | rw [hF1] ))
        refine ⟨by (first | lia | omega), ?_⟩
        exact fin _ (.inr (.inr (.inr ⟨_, _, _, _, rfl⟩)))
    refine ⟨True.intro, ?_⟩
    rcases ht with rfl | ⟨x, y, rfl⟩ | ⟨x, y, z, rfl⟩ | ⟨x, y, z, w, rfl⟩
    · exact ⟨ne_of_ok True.intro, key [] (.inl rfl)⟩
    · exact ⟨ne_of_ok True.intro, key [] (.inl rfl)⟩
    · exact ⟨ne_of_ok True.intro, key [] (.inl rfl)⟩
    · exact ⟨ne_of_ok True.intro, key [w] (.inr ⟨_, rfl⟩)⟩
end Mine
namespace Mine
variable {scr : List Int}
noncomputable def b_s2 : Ss := match t_selection with | .cons _ (.cons _ (.cons _ (.cons _ (.cons _ (.cons _ (.cons _ (.cons (.for2 _ _ _ b) _))))))) => b | _ => .nil
noncomputable def s2Step (C : CallP) (scr : List Int) (v : V) (loc : List V) (H : Hp) (k : Fl → List V → Hp → Prop) : Prop := tupK v fun l => twoK l fun x y => wpSs C scr b_s2 (setL (setL loc 8 x) 7 y) H k
noncomputable def As.has : As → T → Prop
  | .nil, _ => False
  | .cons _ a r, t => t = a ∨ r.has t
theorem s2_ok {n : Nat} (hn : 2 ≤ n) {m c f en : Nat} {k : Tg} {src : Src} {b1 b2 b3 b4 b5 b6 b9 : V} {items : List V} {K : Fl → List V → Hp → Prop} {restF : List V} (hf : f ∉ [en, m, c]) (hen : en ∉ [m, c]) :
    ∀ (A : As), (∀ t, A.has t → MkOk scr n t) → ∀ (C1 C2 : List Rw) (E : List Nat) (F : List V) (sl : Nat) (H : Hp) (b7 b8 : V) (tl : List V), MK H m c (C1 ++ (A.labs0 k src ++ C2)) sl → Found [en, f, m, c] H A C1.length F → H[f]? = some (.list items) →
    H[en]? = some (.list (intsV E)) → C1.length + A.nlab + C2.length + A.len ≤ 4000 → E.length + A.len ≤ 4000 → one' tl →
    (∀ H' b7' b8' tl', MK H' m c (C1 ++ (A.labs k src (C1.length + A.nlab + C2.length) ++ (C2 ++ A.comp (-1) (C1.length + A.nlab + C2.length) sl))) (sl + A.slots) → H'[en]? = some (.list (intsV (E ++ A.ends (C1.length + A.nlab + C2.length)))) →
      Up [en, m, c] H H' → one' tl' → forW (stillW (.obj f) items) (s2Step (Cn scr n) scr) restF (.obj m :: b1 :: b2 :: b3 :: b4 :: b5 :: b6 :: b7' :: b8' :: b9 :: .obj en :: tl') H' K) →
    forW (stillW (.obj f) items) (s2Step (Cn scr n) scr) (F ++ restF) (.obj m :: b1 :: b2 :: b3 :: b4 :: b5 :: b6 :: b7 :: b8 :: b9 :: .obj en :: tl) H K := by
  intro A
  refine As.ind (P := fun A => (∀ t, A.has t → MkOk scr n t) → ∀ (C1 C2 : List Rw) (E : List Nat) (F : List V) (sl : Nat) (H : Hp) (b7 b8 : V) (tl : List V), MK H m c (C1 ++ (A.labs0 k src ++ C2)) sl → Found [en, f, m, c] H A C1.length F → H[f]? = some (.list items) →
    H[en]? = some (.list (intsV E)) → C1.length + A.nlab + C2.length + A.len ≤ 4000 → E.length + A.len ≤ 4000 → one' tl →
    (∀ H' b7' b8' tl', MK H' m c (C1 ++ (A.labs k src (C1.length + A.nlab + C2.length) ++ (C2 ++ A.comp (-1) (C1.length + A.nlab + C2.length) sl))) (sl + A.slots) → H'[en]? = some (.list (intsV (E ++ A.ends (C1.length + A.nlab + C2.length)))) →
      Up [en, m, c] H H' → one' tl' → forW (stillW (.obj f) items) (s2Step (Cn scr n) scr) restF (.obj m :: b1 :: b2 :: b3 :: b4 :: b5 :: b6 :: b7' :: b8' :: b9 :: .obj en :: tl') H' K) →
    forW (stillW (.obj f) items) (s2Step (Cn scr n) scr) (F ++ restF) (.obj m :: b1 :: b2 :: b3 :: b4 :: b5 :: b6 :: b7 :: b8 :: b9 :: .obj en :: tl) H K) ?_ ?_ A
  · intro ok C1 C2 E F sl H b7 b8 tl M fd hF hE hl hb ht q
    have fd : F = [] := fd
    subst fd
    exact q H b7 b8 tl (by simpa [As.labs0, As.labs, As.comp, As.slots] using M) (by simpa [As.ends] using hE) .refl ht
  · intro ls t r ih0 ok C1 C2 E F sl H b7 b8 tl M fd hF hE hl hb ht q
    obtain ⟨pl, F', rfl, pw, hp, fd⟩ := fd
    simp only [As.nlab, As.len] at hl hb
    have pmc : pl ∉ [m, c] := fun h => pw (by simp at h ⊢; (first | lia | omega))
    have fmc : f ∉ [m, c] := fun h => hf (by simp at h ⊢; (first | lia | omega))
    simp only [As.labs0, List.append_assoc] at M
    have lR : (C1 ++ (ls.map (fun l => Rw.match_ k src l (-1)) ++ (r.labs0 k src ++ C2))).length = C1.length + (ls.length + r.nlab) + C2.length := by simp [As.labs0_len]; (first | lia | omega)
    have key : wpSs (Cn scr n) scr b_s2 (.obj m :: b1 :: b2 :: b3 :: b4 :: b5 :: b6 :: t.v :: .obj pl :: b9 :: .obj en :: tl) H (fun f' loc H => match f' with
        | .next => forW (stillW (.obj f) items) (s2Step (Cn scr n) scr) (F' ++ restF) loc H K
        | .cont => forW (stillW (.obj f) items) (s2Step (Cn scr n) scr) (F' ++ restF) loc H K
        | .ret v => K (.ret v) loc H) := by
      refine ⟨ne_of_ok True.intro, ?_⟩
      first | refine insI (hp) ?_ | refine lisI (hp) ?_ | ((conv => whnf); rw [hp])
      refine aims_ok (q := C1.length + (ls.length + r.nlab) + C2.length) hn (by first | exact le1 hn rfl | exact le2 hn rfl | (first | lia | omega)) pmc (addrs C1.length ls.length) _ H tl M lR hp canAim_labs ht fun H1 tl1 M1 u1 t1 => ?_
      rw [aimAll_labs] at M1
      have h1 := M1.me
      have lR1 : (C1 ++ (ls.map (fun l => Rw.match_ k src l ((C1.length + (ls.length + r.nlab) + C2.length : Nat) : Int)) ++ (r.labs0 k src ++ C2))).length = C1.length + (ls.length + r.nlab) + C2.length := by simp [As.labs0_len]; (first | lia | omega)
      have go : ∀ tl1, one' tl1 → wpSs (Cn scr n) scr (match b_s2 with | .cons _ r => r | _ => .nil) (.obj m :: b1 :: b2 :: b3 :: b4 :: b5 :: b6 :: t.v :: .obj pl :: b9 :: .obj en :: tl1) H1 (fun f' loc H => match f' with
        | .next => forW (stillW (.obj f) items) (s2Step (Cn scr n) scr) (F' ++ restF) loc H K
        | .cont => forW (stillW (.obj f) items) (s2Step (Cn scr n) scr) (F' ++ restF) loc H K
        | .ret v => K (.ret v) loc H) := by
        intro tl1 t1
        refine ⟨ne_of_ok True.intro, ?_⟩
        first | refine insI (h1) ?_ | refine lisI (h1) ?_ | ((conv => whnf); rw [h1])
        refine ⟨rfl, rfl, ne_of_ok (T.v_ok t), ?_⟩
        refine ok t (.inl rfl) m c sl _ H1 _ M1 (by rw [lR1]; (first | lia | omega)) fun H2 M2 u2 => ?_
        have h2 := M2.me
        have hE2 := (u1.trans u2).2 _ _ hE hen
        refine ⟨ne_of_ok True.intro, ?_⟩
        first | refine insI (hE2) ?_ | refine lisI (hE2) ?_ | ((conv => whnf); rw [hE2])
        refine ⟨ne_of_ok True.intro, ?_⟩
        first | refine insI (h2) ?_ | refine lisI (h2) ?_ | ((conv => whnf); rw [h2])
        refine ⟨rfl, rfl, ?_⟩
        rw [lR1] at M2
        have lR2 : ∀ (L : List Rw), L.length = ls.length → (C1 ++ (L ++ (r.labs0 k src ++ C2)) ++ t.comp (C1.length + (ls.length + r.nlab) + C2.length) sl).length = C1.length + (ls.length + r.nlab) + C2.length + t.len := fun L hL => by simp [As.labs0_len, T.comp_len, hL]; (first | lia | omega)
        refine emit_ok (row := .jump (-1)) (by first | exact le1 hn rfl | exact le2 hn rfl | (first | lia | omega)) M2 (by rw [lR2 _ (by simp)]; (first | lia | omega)) fun H3 M3 u3 => ?_
        have hE3 := u3.2 _ _ hE2 hen
        rw [lR2 _ (by simp)]
        first | refine insI (hE3) ?_ | refine lisI (hE3) ?_ | ((conv => whnf); rw [hE3])
        refine ⟨by simp [intsV]; (first | lia | omega), ?_⟩
        have u4 : Up [en, m, c] H (H3.set en (.list (intsV E ++ [.int ((C1.length + (ls.length + r.nlab) + C2.length + t.len : Nat) : Int)]))) := (((u1.trans u2).trans u3).mono (by simp)).trans (Up.set (by simp))
        have nm : m ≠ en ∧ c ≠ en := by simp at hen; (first | lia | omega)
        have M4 := M3.up (Up.set (W := [en]) (H := H3) (i := en) (o := .list (intsV E ++ [.int ((C1.length + (ls.length + r.nlab) + C2.length + t.len : Nat) : Int)])) (by simp)) (by simpa using nm.1) (by simpa using nm.2)
        have e1 : (C1 ++ ls.map (fun l => Rw.match_ k src l ((C1.length + (ls.length + r.nlab) + C2.length : Nat) : Int))).length = C1.length + ls.length := by simp
        have e2 : (C2 ++ (t.comp (C1.length + (ls.length + r.nlab) + C2.length) sl ++ [Rw.jump (-1)])).length = C2.length + (t.len + 1) := by simp [T.comp_len]
        refine ih0 (fun t h => ok t (.inr h)) (C1 ++ ls.map (fun l => Rw.match_ k src l ((C1.length + (ls.length + r.nlab) + C2.length : Nat) : Int))) (C2 ++ (t.comp (C1.length + (ls.length + r.nlab) + C2.length) sl ++ [Rw.jump (-1)]))
          (E ++ [C1.length + (ls.length + r.nlab) + C2.length + t.len]) F' (sl + t.slots) _ _ _ tl1 (by simpa only [List.append_assoc] using M4) ?_ (u4.2 _ _ hF hf) ?_ (by rw [e1, e2]; (first | lia | omega)) (by simp; (first | lia | omega)) t1 fun H5 b7' b8' tl5 M5 hE5 u5 t5 => ?_
        · rw [e1]
          exact Found.up u4 (fun j hj => by simp at hj ⊢; (first | lia | omega)) fd
        · rw [at_set_self hE3]; simp [intsV]
        · rw [e1, e2] at M5 hE5
          have e3 : C1.length + ls.length + r.nlab + (C2.length + (t.len + 1)) = C1.length + (ls.length + r.nlab) + C2.length + (t.len + 1) := by (first | lia | omega)
          rw [e3] at M5 hE5
          refine q H5 b7' b8' tl5 ?_ ?_ (u4.trans u5) t5
          · simpa only [As.nlab, As.labs, As.comp, As.slots, List.append_assoc, List.cons_append, List.nil_append, Nat.add_assoc] using M5
          · simpa only [As.nlab, As.ends, List.append_assoc, List.cons_append, List.nil_append, Nat.add_assoc] using hE5
      exact go tl1 t1
    refine ⟨hF, ?_⟩
    rcases ht with rfl | ⟨z, rfl⟩
    · exact key
    · exact key
end Mine
namespace Mine
variable {scr : List Int}
theorem aimAll_append {q : Int} : ∀ {l1 l2 : List Nat} {R : List Rw}, aimAll q (l1 ++ l2) R = aimAll q l2 (aimAll q l1 R)
  | [], _, _ => rfl
  | a :: r, l2, R => aimAll_append (l1 := r)
theorem canAim_append {R : List Rw} {l1 l2 : List Nat} (h1 : canAim R l1) (h2 : canAim R l2) : canAim R (l1 ++ l2) := fun a h => (List.mem_append.mp h).elim (h1 a) (h2 a)
theorem As.ends_len : ∀ {A : As} {p : Nat}, (A.ends p).length ≤ A.len
  | .nil, _ => Nat.zero_le _
  | .cons _ t r, p => by
    have := As.ends_len (A := r) (p := p + (t.len + 1))
    simp only [As.ends, As.len, List.length_cons]; (first | lia | omega)
noncomputable def t_sel8 : Ss := match t_selection with | .cons _ (.cons _ (.cons _ (.cons _ (.cons _ (.cons _ (.cons _ r)))))) => r | _ => .nil
theorem sel_ends {n : Nat} (hn : 2 ≤ n) {m c f en sl : Nat} {k : Tg} {src : Src} {b1 b2 b3 b5 b6 b7 b8 b9 : V} {pre post : As} {R D : List Rw} {F1 F2 : List V} {H : Hp} {K : Fl → List V → Hp → Prop} (hf : f ∉ [en, m, c]) (hen : en ∉ [m, c])
    (ok1 : ∀ t, pre.has t → MkOk scr n t) (ok2 : ∀ t, post.has t → MkOk scr n t) (hl : R.length + (pre.nlab + post.nlab) + D.length + 1 + (pre.len + post.len) ≤ 4000)
    (M : MK H m c (R ++ (pre.labs0 k src ++ (post.labs0 k src ++ (D ++ [.jump (-1)])))) sl) (fd1 : Found [en, f, m, c] H pre R.length F1) (fd2 : Found [en, f, m, c] H post (R.length + pre.nlab) F2) (hF : H[f]? = some (.list (F1 ++ F2)))
    (hE : H[en]? = some (.list (intsV [R.length + (pre.nlab + post.nlab) + D.length])))
    (q : ∀ H' loc', MK H' m c (R ++ (pre.labs k src (R.length + (pre.nlab + post.nlab) + D.length + 1) ++ (post.labs k src (R.length + (pre.nlab + post.nlab) + D.length + 1 + pre.len) ++ (D ++ (.jump ((R.length + (pre.nlab + post.nlab) + D.length + 1 + pre.len + post.len : Nat) : Int) ::
      (pre.comp ((R.length + (pre.nlab + post.nlab) + D.length + 1 + pre.len + post.len : Nat) : Int) (R.length + (pre.nlab + post.nlab) + D.length + 1) sl ++ post.comp ((R.length + (pre.nlab + post.nlab) + D.length + 1 + pre.len + post.len : Nat) : Int) (R.length + (pre.nlab + post.nlab) + D.length + 1 + pre.len) (sl + pre.slots))))))) (sl + pre.slots + post.slots) →
      Up [en, m, c] H H' → K .next loc' H') :
    wpSs (Cn scr n) scr t_sel8 [.obj m, b1, b2, b3, .obj f, b5, b6, b7, b8, b9, .obj en] H K := by
  have l1 := fd1.len
  have l2 := fd2.len
  have len1 : R.length + pre.nlab + (post.labs0 k src ++ (D ++ [Rw.jump (-1)])).length = R.length + (pre.nlab + post.nlab) + D.length + 1 := by simp [As.labs0_len]; (first | lia | omega)
  refine ⟨ne_of_ok True.intro, ?_⟩
  first | refine insI (hF) ?_ | refine lisI (hF) ?_ | ((conv => whnf); rw [hF])
  refine s2_ok hn hf hen pre ok1 R (post.labs0 k src ++ (D ++ [Rw.jump (-1)])) [R.length + (pre.nlab + post.nlab) + D.length] F1 sl H b7 b8 [] M fd1 hF hE (by rw [len1]; (first | lia | omega)) (by simp; (first | lia | omega)) (.inl rfl) fun H1 b7 b8 tl1 M1 hE1 u1 t1 => ?_
  rw [len1] at M1 hE1
  have len2 : (R ++ pre.labs k src (R.length + (pre.nlab + post.nlab) + D.length + 1)).length = R.length + pre.nlab := by simp [As.labs_len]
  have len3 : R.length + pre.nlab + post.nlab + (D ++ [Rw.jump (-1)] ++ pre.comp (-1) (R.length + (pre.nlab + post.nlab) + D.length + 1) sl).length = R.length + (pre.nlab + post.nlab) + D.length + 1 + pre.len := by simp [As.comp_len]; (first | lia | omega)
  have fd2' : Found [en, f, m, c] H1 post (R ++ pre.labs k src (R.length + (pre.nlab + post.nlab) + D.length + 1)).length F2 := by
    rw [len2]; exact Found.up u1 (fun j hj => by simp at hj ⊢; (first | lia | omega)) fd2
  have M1' : MK H1 m c ((R ++ pre.labs k src (R.length + (pre.nlab + post.nlab) + D.length + 1)) ++ (post.labs0 k src ++ (D ++ [Rw.jump (-1)] ++ pre.comp (-1) (R.length + (pre.nlab + post.nlab) + D.length + 1) sl))) (sl + pre.slots) := by
    simpa only [List.append_assoc] using M1
  have e0 := As.ends_len (A := pre) (p := R.length + (pre.nlab + post.nlab) + D.length + 1)
  rw [← List.append_nil F2]
  refine s2_ok hn hf hen post ok2 _ _ _ F2 (sl + pre.slots) H1 b7 b8 tl1 M1' fd2' (by rw [List.append_nil]; exact u1.2 _ _ hF hf) hE1 (by rw [len2, len3]; (first | lia | omega)) (by simp; (first | lia | omega)) t1 fun H2 b7 b8 tl2 M2 hE2 u2 t2 => ?_
  rw [len2, len3] at M2 hE2
  have e1 := As.ends_len (A := post) (p := R.length + (pre.nlab + post.nlab) + D.length + 1 + pre.len)
  generalize hq0 : R.length + (pre.nlab + post.nlab) + D.length + 1 = q0 at *
  refine ⟨by rw [List.append_nil]; exact (u1.trans u2).2 _ _ hF hf, ?_⟩
  have go : ∀ tl, one' tl → wpSs (Cn scr n) scr (.cons (.for_ 11 (.loc 10) b_aim) .nil) (.obj m :: b1 :: b2 :: b3 :: .obj f :: b5 :: b6 :: b7 :: b8 :: b9 :: .obj en :: tl) H2 K := by
    intro tl ht
    refine ⟨ne_of_ok True.intro, ?_⟩
    first | refine insI (hE2) ?_ | refine lisI (hE2) ?_ | ((conv => whnf); rw [hE2])
    -- the code, cut at the jumps
    have c0 : R ++ pre.labs k src q0 ++ (post.labs k src (q0 + pre.len) ++ (D ++ [Rw.jump (-1)] ++ pre.comp (-1) q0 sl ++ post.comp (-1) (q0 + pre.len) (sl + pre.slots)))
        = (R ++ (pre.labs k src q0 ++ (post.labs k src (q0 + pre.len) ++ D))) ++ Rw.jump (-1) :: (pre.comp (-1) q0 sl ++ post.comp (-1) (q0 + pre.len) (sl + pre.slots)) := by
      simp only [List.append_assoc, List.cons_append, List.nil_append]
    have lc : (R ++ (pre.labs k src q0 ++ (post.labs k src (q0 + pre.len) ++ D))).length = R.length + (pre.nlab + post.nlab) + D.length := by simp [As.labs_len]; (first | lia | omega)
    generalize hC : R ++ (pre.labs k src q0 ++ (post.labs k src (q0 + pre.len) ++ D)) = C at c0 lc
    rw [c0] at M2
    have p0 : ∀ j, q0 = (C ++ [Rw.jump j]).length := fun j => by simp; (first | lia | omega)
    have p1 : ∀ j, q0 + pre.len = (C ++ (Rw.jump j :: pre.comp j q0 sl)).length := fun j => by simp [As.comp_len]; (first | lia | omega)
    have can : canAim (C ++ Rw.jump (-1) :: (pre.comp (-1) q0 sl ++ post.comp (-1) (q0 + pre.len) (sl + pre.slots))) ([R.length + (pre.nlab + post.nlab) + D.length] ++ pre.ends q0 ++ post.ends (q0 + pre.len)) := by
      refine canAim_append (canAim_append ?_ ?_) ?_
      · intro a ha
        rw [List.mem_singleton.mp ha, ← lc]
        exact ⟨_, get_mid, True.intro⟩
      · have := canAim_ends (D := post.comp (-1) (q0 + pre.len) (sl + pre.slots)) (A := pre) (C := C ++ [Rw.jump (-1)]) (sl := sl) (p0 (-1))
        simpa only [List.append_assoc, List.cons_append, List.nil_append] using this
      · have := canAim_ends (D := []) (A := post) (C := C ++ (Rw.jump (-1) :: pre.comp (-1) q0 sl)) (sl := sl + pre.slots) (p1 (-1))
        simpa only [List.append_assoc, List.cons_append, List.nil_append, List.append_nil] using this
    have ea : ∀ j : Int, aimAll j ([R.length + (pre.nlab + post.nlab) + D.length] ++ pre.ends q0 ++ post.ends (q0 + pre.len)) (C ++ Rw.jump (-1) :: (pre.comp (-1) q0 sl ++ post.comp (-1) (q0 + pre.len) (sl + pre.slots)))
        = C ++ Rw.jump j :: (pre.comp j q0 sl ++ post.comp j (q0 + pre.len) (sl + pre.slots)) := by
      intro j
      rw [aimAll_append, aimAll_append]
      have a1 : aimAll j [R.length + (pre.nlab + post.nlab) + D.length] (C ++ Rw.jump (-1) :: (pre.comp (-1) q0 sl ++ post.comp (-1) (q0 + pre.len) (sl + pre.slots))) = C ++ Rw.jump j :: (pre.comp (-1) q0 sl ++ post.comp (-1) (q0 + pre.len) (sl + pre.slots)) := by
        show aim1 _ (R.length + (pre.nlab + post.nlab) + D.length) j = _
        rw [← lc, aim1_mid]; rfl
      rw [a1]
      have a2 := aimAll_ends (q := j) (D := post.comp (-1) (q0 + pre.len) (sl + pre.slots)) (A := pre) (C := C ++ [Rw.jump j]) (sl := sl) (p0 j)
      simp only [List.append_assoc, List.cons_append, List.nil_append] at a2
      rw [a2]
      have a3 := aimAll_ends (q := j) (D := []) (A := post) (C := C ++ (Rw.jump j :: pre.comp j q0 sl)) (sl := sl + pre.slots) (p1 j)
      simpa only [List.append_assoc, List.cons_append, List.nil_append, List.append_nil] using a3
    have lq : (C ++ Rw.jump (-1) :: (pre.comp (-1) q0 sl ++ post.comp (-1) (q0 + pre.len) (sl + pre.slots))).length = q0 + pre.len + post.len := by simp [As.comp_len]; (first | lia | omega)
    refine aims_ok (q := q0 + pre.len + post.len) hn (by first | exact le1 hn rfl | exact le2 hn rfl | (first | lia | omega)) hen _ _ H2 tl M2 lq hE2 can ht fun H3 tl3 M3 u3 t3 => ?_
    rw [ea, ← hC] at M3
    refine q H3 _ ?_ ((u1.trans u2).trans (u3.mono (by simp)))
    simpa only [List.append_assoc, List.cons_append] using M3
  exact go tl2 t2
end Mine
namespace Mine
variable {scr : List Int}
theorem sel_pad {b0 b1 b2 b3 b4 b5 v : V} {tl : List V} (h : tl4 tl) : ∃ t6 t7 t8 t9, setL (b0 :: b1 :: b2 :: b3 :: b4 :: b5 :: tl) 10 v = [b0, b1, b2, b3, b4, b5, t6, t7, t8, t9, v] := by
  rcases h with rfl | ⟨x, y, rfl⟩ | ⟨x, y, z, rfl⟩ | ⟨x, y, z, w, rfl⟩ <;> exact ⟨_, _, _, _, rfl⟩
noncomputable def t_sel5 : Ss := match t_selection with | .cons _ (.cons _ (.cons _ (.cons _ r))) => r | _ => .nil
theorem sel_rest {n : Nat} (hn : 2 ≤ n) {m c f sl : Nat} {k : Tg} {src : Src} {ev u3 : V} {pre post : As} {hasD : Bool} {d : T} {R : List Rw} {H : Hp} {Q : V → Hp → Prop} (hf : f ∉ [m, c]) (hD : hasD = false → d = .nil)
    (okd : MkOk scr n d) (ok1 : ∀ t, pre.has t → MkOk scr n t) (ok2 : ∀ t, post.has t → MkOk scr n t) (hl : R.length + (pre.nlab + post.nlab) + d.len + 1 + (pre.len + post.len) ≤ 4000)
    (M : MK H m c R sl) (hF : H[f]? = some (.list []))
    (q : ∀ H', MK H' m c (R ++ (pre.labs k src (R.length + (pre.nlab + post.nlab) + d.len + 1) ++ (post.labs k src (R.length + (pre.nlab + post.nlab) + d.len + 1 + pre.len) ++ (d.comp (R.length + (pre.nlab + post.nlab)) sl ++ (.jump ((R.length + (pre.nlab + post.nlab) + d.len + 1 + pre.len + post.len : Nat) : Int) ::
      (pre.comp ((R.length + (pre.nlab + post.nlab) + d.len + 1 + pre.len + post.len : Nat) : Int) (R.length + (pre.nlab + post.nlab) + d.len + 1) (sl + d.slots) ++ post.comp ((R.length + (pre.nlab + post.nlab) + d.len + 1 + pre.len + post.len : Nat) : Int) (R.length + (pre.nlab + post.nlab) + d.len + 1 + pre.len) (sl + d.slots + pre.slots))))))) (sl + d.slots + pre.slots + post.slots) →
      Up [f, m, c] H H' → Q .none H') :
    wpSs (Cn scr n) scr t_sel5 [.obj m, .tup [.str .kCase, .str k, ev, .tup (pre.vs ++ ((bif hasD then [.tup [.none, d.v]] else []) ++ post.vs))], src.v, u3, .obj f, .none] H (bodyQ Q) := by
  refine ⟨ne_of_ok True.intro, ?_⟩
  refine ⟨rfl, ?_⟩
  show forW (fun _ => True) (sArm (Cn scr n) scr) (pre.vs ++ ((bif hasD then [.tup [.none, d.v]] else []) ++ post.vs)) (.obj m :: .tup (.str .kCase :: .str k :: [ev, .tup (pre.vs ++ ((bif hasD then [.tup [.none, d.v]] else []) ++ post.vs))]) :: src.v :: u3 :: .obj f :: .none :: []) H _
  refine sarms_ok hn hf pre R [] H [] M hF (by first | exact le1 hn rfl | exact le2 hn rfl | (first | lia | omega)) (by simp; (first | lia | omega)) (.inl rfl) fun H1 F1 tl1 M1 hF1 fd1 u1 t1 => ?_
  have len1 : (R ++ pre.labs0 k src).length = R.length + pre.nlab := by simp [As.labs0_len]
  have fl1 := fd1.len
  have fin : ∀ rest dv tl, dv = d.v → tl4 tl → forW (fun _ => True) (sArm (Cn scr n) scr) (post.vs ++ []) (.obj m :: .tup (.str .kCase :: .str k :: rest) :: src.v :: u3 :: .obj f :: dv :: tl) H1 (fun f loc H => match f with
      | .next => wpSs (Cn scr n) scr (match t_sel5 with | .cons _ r => r | _ => .nil) loc H (bodyQ Q)
      | .cont => bodyQ Q .cont loc H
      | .ret v => bodyQ Q (.ret v) loc H) := by
    intro rest dv tl hd ht
    refine sarms_ok hn hf post _ _ H1 tl M1 hF1 (by rw [len1]; (first | lia | omega)) (by rw [List.nil_append]; (first | lia | omega)) ht fun H2 F2 tl2 M2 hF2 fd2 u2 t2 => ⟨True.intro, ?_⟩
    rw [len1] at fd2
    have fl2 := fd2.len
    have h2 := M2.me
    subst hd
    have len2 : (R ++ pre.labs0 k src ++ post.labs0 k src).length = R.length + (pre.nlab + post.nlab) := by rw [List.length_append, len1, As.labs0_len, Nat.add_assoc]
    refine ⟨ne_of_ok True.intro, ?_⟩
    first | refine insI (h2) ?_ | refine lisI (h2) ?_ | ((conv => whnf); rw [h2])
    refine ⟨rfl, rfl, ne_of_ok (T.v_ok d), ?_⟩
    refine okd m c sl _ H2 _ M2 (by rw [len2]; (first | lia | omega)) fun H3 M3 w3 => ?_
    rw [len2] at M3
    have h3 := M3.me
    refine ⟨ne_of_ok True.intro, ?_⟩
    first | refine insI (h3) ?_ | refine lisI (h3) ?_ | ((conv => whnf); rw [h3])
    refine ⟨rfl, rfl, ?_⟩
    have len3 : (R ++ pre.labs0 k src ++ post.labs0 k src ++ d.comp (R.length + (pre.nlab + post.nlab)) sl).length = R.length + (pre.nlab + post.nlab) + d.len := by rw [List.length_append, len2, T.comp_len]
    refine emit_ok (row := .jump (-1)) (by first | exact le1 hn rfl | exact le2 hn rfl | (first | lia | omega)) M3 (by rw [len3]; (first | lia | omega)) fun H4 M4 u4 => ?_
    rw [len3]
    show wpSs (Cn scr n) scr t_sel8 (setL (.obj m :: .tup (.str .kCase :: .str k :: rest) :: src.v :: u3 :: .obj f :: d.v :: tl2) 10 (.obj H4.length)) (H4 ++ [.list [.int ((R.length + (pre.nlab + post.nlab) + d.len : Nat) : Int)]]) (bodyQ Q)
    obtain ⟨t6, t7, t8, t9, es⟩ := sel_pad (b0 := .obj m) (b1 := .tup (.str .kCase :: .str k :: rest)) (b2 := src.v) (b3 := u3) (b4 := .obj f) (b5 := d.v) (v := .obj H4.length) t2
    rw [es]
    have u24 := w3.trans u4
    have u14 : Up [f, m, c] H1 H4 := u2.trans (u24.mono (by simp))
    have u04 : Up [f, m, c] H H4 := u1.trans u14
    have fmc := hf
    have hF4 := u24.2 _ _ hF2 hf
    have lf := lt_at hF4
    have lm := lt_at M4.me
    have lc := lt_at M4.co
    have dl : (d.comp (R.length + (pre.nlab + post.nlab)) sl).length = d.len := T.comp_len ..
    have fa1 : Found [f, m, c] H4 pre R.length F1 := (Found.up u14 (fun j hj => hj) fd1)
    have fa2 : Found [f, m, c] H4 post (R.length + pre.nlab) F2 := Found.up u24 (fun j hj => by simp at hj ⊢; (first | lia | omega)) fd2
    refine sel_ends hn (src := src) (k := k) (sl := sl + d.slots) (D := d.comp (R.length + (pre.nlab + post.nlab)) sl) (F1 := F1) (F2 := F2) (by simp at hf ⊢; (first | lia | omega)) (by simp; (first | lia | omega)) ok1 ok2 (by rw [dl]; (first | lia | omega)) (M := ?_) (fd1 := Found.up Up.app (fun j hj => hj) (fa1.more (Nat.le_refl _))) (fd2 := Found.up Up.app (fun j hj => hj) (fa2.more (Nat.le_refl _))) (hF := ?_) (hE := ?_) (q := ?_)
    · have e : R ++ (pre.labs0 k src ++ (post.labs0 k src ++ (d.comp (R.length + (pre.nlab + post.nlab)) sl ++ [Rw.jump (-1)]))) = R ++ pre.labs0 k src ++ post.labs0 k src ++ d.comp (R.length + (pre.nlab + post.nlab)) sl ++ [Rw.jump (-1)] := by simp only [List.append_assoc]
      rw [e]
      exact ⟨at_add M4.me, at_add M4.co⟩
    · exact at_add hF4
    · rw [dl]; exact at_new
    · intro H5 loc5 M5 u5
      rw [dl] at M5
      refine q H5 M5 (u04.trans ?_)
      exact Up.shed (w := H4.length) ((Up.app).trans (u5.mono (by simp <;> (first | lia | omega)))) (Nat.le_refl _)
  cases hasD with
  | false =>
    have := hD rfl
    subst this
    have g := fin [ev, .tup (pre.vs ++ ((bif false then [.tup [.none, T.nil.v]] else []) ++ post.vs))] .none tl1 rfl t1
    rw [List.append_nil] at g
    exact g
  | true =>
    have g := fun tl ht => fin [ev, .tup (pre.vs ++ ((bif true then [.tup [.none, d.v]] else []) ++ post.vs))] d.v tl rfl ht
    rw [List.append_nil] at g
    refine ⟨True.intro, ?_⟩
    rcases t1 with rfl | ⟨x, y, rfl⟩ | ⟨x, y, z, rfl⟩ | ⟨x, y, z, w, rfl⟩
    all_goals
      refine ⟨ne_of_ok True.intro, ?_⟩
      conv => whnf
      refine ⟨ne_of_ok (T.v_ok d), ?_⟩
    · exact g [.none, d.v] (.inr (.inl ⟨_, _, rfl⟩))
    · exact g [.none, d.v] (.inr (.inl ⟨_, _, rfl⟩))
    · exact g [.none, d.v, z] (.inr (.inr (.inl ⟨_, _, _, rfl⟩)))
    · exact g [.none, d.v, z, w] (.inr (.inr (.inr ⟨_, _, _, _, rfl⟩)))
theorem if_skip {C : CallP} {c : E} {t r : Ss} {loc : List V} {H : Hp} {K : Fl → List V → Hp → Prop} (hc : ∀ Q : V → Hp → Prop, Q (.bool false) H → wpE C scr c loc H Q) (h : wpSs C scr r loc H K) : wpSs C scr (.cons (.if_ c t .nil) r) loc H K := by
  show wpS C scr (.if_ c t .nil) loc H (fun f loc H => match f with | .next => wpSs C scr r loc H K | .cont => K .cont loc H | .ret v => K (.ret v) loc H)
  exact ifs false hc h
theorem if_take {C : CallP} {c : E} {t e r : Ss} {loc : List V} {H : Hp} {K : Fl → List V → Hp → Prop} (hc : ∀ Q : V → Hp → Prop, Q (.bool true) H → wpE C scr c loc H Q) (h : wpSs C scr t loc H (fun f loc H => match f with | .next => wpSs C scr r loc H K | .cont => K .cont loc H | .ret v => K (.ret v) loc H)) : wpSs C scr (.cons (.if_ c t e) r) loc H K := by
  show wpS C scr (.if_ c t e) loc H (fun f loc H => match f with | .next => wpSs C scr r loc H K | .cont => K .cont loc H | .ret v => K (.ret v) loc H)
  exact ifs true hc h
noncomputable def t_sel2 : Ss := match t_selection with | .cons _ r => r | _ => .nil
noncomputable def t_sel3 : Ss := match t_selection with | .cons _ (.cons _ r) => r | _ => .nil
theorem sel_front {C : CallP} {m : Nat} {s v : V} {u : List V} {H : Hp} {K : Fl → List V → Hp → Prop} (hu : u = [] ∨ ∃ z, u = [z]) (h : wpSs C scr t_sel5 [.obj m, s, v, u.headD .und, .obj H.length, .none] (H ++ [.list []]) K) : wpSs C scr t_sel3 (.obj m :: s :: v :: u) H K := by
  rcases hu with rfl | ⟨z, rfl⟩
  · exact h
  · exact h
theorem sel_first {C : CallP} {m : Nat} {k : Tg} {ev rv : V} {H : Hp} {K : Fl → List V → Hp → Prop} (h : wpSs C scr t_sel2 [.obj m, .tup [.str .kCase, .str k, ev, rv], ev] H K) : wpSs C scr t_selection [.obj m, .tup [.str .kCase, .str k, ev, rv]] H K := by
  refine ⟨ne_of_ok True.intro, ?_⟩
  exact ⟨rfl, h⟩
theorem sel_const {C : CallP} {m : Nat} {k : Tg} {r : List V} {rv : V} {H : Hp} {K : Fl → List V → Hp → Prop} (h : wpSs C scr t_sel5 [.obj m, .tup [.str .kCase, .str k, .tup (.str .kConst :: r), rv], .tup (.str .kConst :: r), .und, .obj H.length, .none] (H ++ [.list []]) K) :
    wpSs C scr t_selection [.obj m, .tup [.str .kCase, .str k, .tup (.str .kConst :: r), rv]] H K :=
  sel_first (if_skip (fun Q q => ⟨ne_of_ok True.intro, rfl, q⟩) (sel_front (.inl rfl) h))
theorem mk_case {n : Nat} (hn : 4 ≤ n) {k : Tg} {e : X} {pre post : As} {hasD : Bool} {d : T} (he : e.word) (hD : hasD = false → d = .nil) (okd : MkOk scr (n - 2) d) (ok1 : ∀ t, pre.has t → MkOk scr (n - 2) t) (ok2 : ∀ t, post.has t → MkOk scr (n - 2) t) :
    MkOk scr n (.case k e pre hasD d post) := by
  intro m c sl R H Q M hl q
  obtain ⟨j, rfl⟩ : ∃ j, n = j + 2 := ⟨n - 2, by (first | lia | omega)⟩
  simp only [T.len] at hl
  have h1 := M.me
  have lm := lt_at M.me
  have lc := lt_at M.co
  refine make_call (tg := .kCase) (mt := .selection) (by simp [mkTags]) h1 ⟨rfl, ?_⟩
  have okd : MkOk scr j d := okd
  have ok1 : ∀ t, pre.has t → MkOk scr j t := ok1
  have ok2 : ∀ t, post.has t → MkOk scr j t := ok2
  have e1 : R.length + (e.own + (pre.nlab + post.nlab) + d.len + 1 + (pre.len + post.len)) = R.length + e.own + (pre.nlab + post.nlab) + d.len + 1 + pre.len + post.len := by (first | lia | omega)
  cases e with
  | below s n => exact he.elim
  | const w a b =>
    refine sel_const ?_
    simp only [X.own] at hl e1
    refine sel_rest (n := j) (k := k) (ev := (X.const w a b).v) (u3 := .und) (hasD := hasD) (src := .word (.const w a b)) (by first | exact le1 hn rfl | exact le2 hn rfl | (first | lia | omega)) (f := H.length) (by simp; (first | lia | omega)) hD okd ok1 ok2 (by first | exact le1 hn rfl | exact le2 hn rfl | (first | lia | omega)) ⟨at_add M.me, at_add M.co⟩ at_new fun H1 M1 u1 => ?_
    refine q H1 ?_ (Up.shed (Up.app.trans u1) (Nat.le_refl _))
    simp only [T.comp, T.slots, X.own, X.saves, X.src, e1]
    simpa only [Nat.add_assoc, Nat.add_zero, Nat.zero_add, List.nil_append] using M1
  | var s a =>
    refine sel_first ?_
    refine if_take (r := t_sel3) (fun Q q => ⟨ne_of_ok True.intro, rfl, q⟩) ?_
    repeat (first | refine guI True.intro ?_ | refine guI (X.v_ok _) ?_ | refine guI (T.v_ok _) ?_ | refine insI h1 ?_ | refine lisI h1 ?_ | refine cloI h1 ?_ | refine optI h1 ?_ | refine gcI (rfl : Cls.maker = .maker) ?_ | refine gcI (rfl : Mt.cls _ = .maker) ?_ | refine gnI ?_ | refine gtI ?_ | refine gsI rfl ?_ | ((conv => whnf); first | rw [h1] ))
    refine newSlot_ok (by first | exact le1 hn rfl | exact le2 hn rfl | (first | lia | omega)) M fun H1 M1 u1 => ?_
    have h2 := M1.me
    repeat (first | refine guI True.intro ?_ | refine guI (X.v_ok _) ?_ | refine guI (T.v_ok _) ?_ | refine insI h2 ?_ | refine lisI h2 ?_ | refine cloI h2 ?_ | refine optI h2 ?_ | refine gcI (rfl : Cls.maker = .maker) ?_ | refine gcI (rfl : Mt.cls _ = .maker) ?_ | refine gnI ?_ | refine gtI ?_ | refine gsI rfl ?_ | ((conv => whnf); first | rw [h2] ))
    refine emit_ok (row := .save sl (.var s a)) (by first | exact le1 hn rfl | exact le2 hn rfl | (first | lia | omega)) M1 (by simp only [X.own] at hl; (first | lia | omega)) fun H2 M2 u2 => ?_
    refine ⟨ne_of_ok True.intro, rfl, ne_of_ok True.intro, ?_⟩
    refine sel_front (v := (Src.loc sl).v) (u := [.int sl]) (.inr ⟨_, rfl⟩) ?_
    simp only [X.own] at hl e1
    have lR : (R ++ [Rw.save sl (.var s a)]).length = R.length + 1 := by simp
    have lm := lt_at M2.me
    have lc := lt_at M2.co
    refine sel_rest (n := j) (k := k) (ev := (X.var s a).v) (u3 := .int sl) (hasD := hasD) (src := .loc sl) (by first | exact le1 hn rfl | exact le2 hn rfl | (first | lia | omega)) (f := H2.length) (by simp; (first | lia | omega)) hD okd ok1 ok2 (by rw [lR]; (first | lia | omega)) ⟨at_add M2.me, at_add M2.co⟩ at_new fun H3 M3 u3 => ?_
    refine q H3 ?_ ((u1.trans u2).trans (Up.shed (Up.app.trans u3) (Nat.le_refl _)))
    rw [lR] at M3
    simp only [T.comp, T.slots, X.own, X.saves, X.src, e1]
    simpa only [Nat.add_assoc, List.append_assoc] using M3
theorem As.has_ht : ∀ {A : As} {t : T}, A.has t → t.ht ≤ A.ht ∧ (A.wf → t.wf)
  | .cons ls a r, t, h => by
    rcases h with rfl | h
    · exact ⟨Nat.le_max_left _ _, fun w => w.2.1⟩
    · have := As.has_ht h
      exact ⟨Nat.le_trans this.1 (Nat.le_max_right _ _), fun w => this.2 w.2.2⟩
theorem make_ok : ∀ (h n : Nat) (t : T), t.ht ≤ h → t.wf → 3 * h + 4 ≤ n → MkOk scr n t := by
  intro h
  induction h with
  | zero =>
    intro n t ht wf hn
    cases t <;> simp only [T.ht] at ht <;> first | exact mk_nil (by first | exact le1 hn rfl | exact le2 hn rfl | (first | lia | omega)) | (first | lia | omega)
  | succ h ih0 =>
    intro n t ht wf hn
    have ok2 : ∀ t : T, t.ht ≤ h → t.wf → MkOk scr (n - 2) t := fun t ht wf => ih0 (n - 2) t ht wf (by first | exact le1 hn rfl | exact le2 hn rfl | (first | lia | omega))
    have ok3 : ∀ t : T, t.ht ≤ h → t.wf → MkOk scr (n - 3) t := fun t ht wf => ih0 (n - 3) t ht wf (by first | exact le1 hn rfl | exact le2 hn rfl | (first | lia | omega))
    cases t
    · exact mk_nil (by first | exact le1 hn rfl | exact le2 hn rfl | (first | lia | omega))
    · exact mk_set (by first | exact le1 hn rfl | exact le2 hn rfl | (first | lia | omega))
    · exact mk_if (by first | exact le1 hn rfl | exact le2 hn rfl | (first | lia | omega)) (ok2 _ (mx2 ht).1 wf.2.1) (ok2 _ (mx2 ht).2 wf.2.2)
    · exact mk_case (by first | exact le1 hn rfl | exact le2 hn rfl | (first | lia | omega)) wf.2.1 wf.2.2.2.2.2.2 (ok2 _ (mx3 ht).1 wf.2.2.2.2.2.1) (fun t m => ok2 t (Nat.le_trans (As.has_ht m).1 (mx3 ht).2.1) ((As.has_ht m).2 wf.2.2.2.1)) (fun t m => ok2 t (Nat.le_trans (As.has_ht m).1 (mx3 ht).2.2) ((As.has_ht m).2 wf.2.2.2.2.1))
    · exact mk_for (by first | exact le1 hn rfl | exact le2 hn rfl | (first | lia | omega)) (ok2 _ (mx3 ht).1 wf.2.1) (ok3 _ (mx3 ht).2.2 wf.2.2.2.1) (ok3 _ (mx3 ht).2.1 wf.2.2.1) wf.2.2.2.2.1 wf.2.2.2.2.2
    · exact mk_while (by first | exact le1 hn rfl | exact le2 hn rfl | (first | lia | omega)) (ok3 _ (mx1 ht) wf.2)
    · exact mk_rep (by first | exact le1 hn rfl | exact le2 hn rfl | (first | lia | omega)) (ok3 _ (mx1 ht) wf.2)
    · exact mk_block (by first | exact le1 hn rfl | exact le2 hn rfl | (first | lia | omega)) (fun t m => ok2 t (Nat.le_trans (Ts.has_ht m).1 (mx1 ht)) ((Ts.has_ht m).2 wf.1))
    · exact mk_forever (by first | exact le1 hn rfl | exact le2 hn rfl | (first | lia | omega)) (ok2 _ (mx1 ht) wf)
end Mine
namespace Mine
variable {scr : List Int}
theorem T.isNil_eq {t : T} (h : t.isNil = true) : t = .nil := by cases t <;> first | rfl | cases h
theorem asg_ok {C : CallP} {i : Nat} {e : E} {v : V} {r : Ss} {loc : List V} {H : Hp} {K : Fl → List V → Hp → Prop} (he : ∀ Q : V → Hp → Prop, Q v H → wpE C scr e loc H Q) (h : wpSs C scr r (setL loc i v) H K) : wpSs C scr (.cons (.asg i e) r) loc H K := he _ h
mutual
theorem T.slots_le : ∀ t : T, t.slots ≤ t.len
  | .nil => Nat.le_refl _
  | .set _ _ => Nat.zero_le _
  | .if_ _ a b => by
    have := T.slots_le a
    have := T.slots_le b
    simp only [T.slots, T.len]
    cases h : b.isNil
    · simp only [cond_false]; (first | lia | omega)
    · have := T.isNil_eq h
      subst this
      show a.slots + 0 ≤ 1 + a.len + 0
      (first | lia | omega)
  | .case _ e pre _ d post => by
    have := T.slots_le d
    have := As.slots_le pre
    have := As.slots_le post
    simp only [T.slots, T.len]; (first | lia | omega)
  | .for_ a _ step body => by have := T.slots_le body; simp only [T.slots, T.len]; (first | lia | omega)
  | .while_ _ body => by have := T.slots_le body; simp only [T.slots, T.len]; (first | lia | omega)
  | .rep _ _ body => by have := T.slots_le body; simp only [T.slots, T.len]; (first | lia | omega)
  | .block ts => Ts.slots_le ts
  | .forever body => by have := T.slots_le body; simp only [T.slots, T.len]; (first | lia | omega)
theorem Ts.slots_le : ∀ t : Ts, t.slots ≤ t.len
  | .nil => Nat.le_refl _
  | .cons t r => by have := T.slots_le t; have := Ts.slots_le r; simp only [Ts.slots, Ts.len]; (first | lia | omega)
theorem As.slots_le : ∀ t : As, t.slots ≤ t.len
  | .nil => Nat.le_refl _
  | .cons _ t r => by have := T.slots_le t; have := As.slots_le r; simp only [As.slots, As.len]; (first | lia | omega)
end
noncomputable def Ts.list : Ts → List T
  | .nil => []
  | .cons t r => t :: r.list
theorem Ts.list_vs : ∀ ts : Ts, ts.vs = ts.list.map T.v
  | .nil => rfl
  | .cons t r => by simp only [Ts.vs, Ts.list, List.map_cons, Ts.list_vs r]
theorem Ts.list_slots : ∀ ts : Ts, ts.slots = (ts.list.map T.slots).sum
  | .nil => rfl
  | .cons t r => by simp only [Ts.slots, Ts.list, List.map_cons, List.sum_cons, Ts.list_slots r]
theorem Ts.list_has : ∀ (ts : Ts) (t : T), t ∈ ts.list → ts.has t ∧ t.len ≤ ts.len
  | .cons a r, t, h => by
    simp only [Ts.list, List.mem_cons] at h
    rcases h with rfl | h
    · exact ⟨.inl rfl, by simp only [Ts.len]; (first | lia | omega)⟩
    · have := Ts.list_has r t h
      exact ⟨.inr this.1, by simp only [Ts.len]; (first | lia | omega)⟩
noncomputable def rowV2 (p : V × T) : V := .tup [p.1, p.2.v]
noncomputable def As.rows : As → List (V × T)
  | .nil => []
  | .cons ls t r => (.tup (ls.map X.v), t) :: r.rows
theorem As.rows_vs : ∀ A : As, A.vs = A.rows.map rowV2
  | .nil => rfl
  | .cons ls t r => by simp only [As.vs, As.rows, List.map_cons, As.rows_vs r]; rfl
theorem As.rows_slots : ∀ A : As, A.slots = (A.rows.map fun p => p.2.slots).sum
  | .nil => rfl
  | .cons _ t r => by simp only [As.slots, As.rows, List.map_cons, List.sum_cons, As.rows_slots r]
theorem As.rows_has : ∀ (A : As) (p : V × T), p ∈ A.rows → A.has p.2 ∧ p.2.len ≤ A.len
  | .cons ls a r, p, h => by
    simp only [As.rows, List.mem_cons] at h
    rcases h with rfl | h
    · exact ⟨.inl rfl, by simp only [As.len]; (first | lia | omega)⟩
    · have := As.rows_has r p h
      exact ⟨.inr this.1, by simp only [As.len]; (first | lia | omega)⟩
theorem As.rows_len : ∀ A : As, A.rows.length ≤ A.len
  | .nil => Nat.le_refl _
  | .cons ls t r => by have := As.rows_len r; simp only [As.rows, As.len, List.length_cons]; (first | lia | omega)
theorem Ts.list_len : ∀ ts : Ts, ts.list.length = ts.vs.length := fun ts => by rw [ts.list_vs]; simp
theorem sumI_nat {α : Type} {f : α → Nat} : ∀ (l : List α), (∀ a ∈ l, f a ≤ 100000) → sumI (l.map fun a => V.int (f a)) = some (((l.map f).sum : Nat) : Int) := by
  intro l
  induction l with
  | nil =>
    intro _
    exact rfl
  | cons a r ih0 =>
    intro h
    have h1 := h a (by simp)
    have h2 := ih0 fun a m => h a (List.mem_cons_of_mem _ m)
    show (if (f a : Int).natAbs < 1000000000 then (sumI (r.map fun a => V.int (f a))).map (fun b => (f a : Int) + b) else none) = _
    rw [if_pos (by simp; (first | lia | omega)), h2]
    show some _ = some _
    rw [List.map_cons, List.sum_cons, Int.natCast_add]
theorem Ts.has_len : ∀ {ts : Ts} {t : T}, ts.has t → t.len ≤ ts.len
  | .cons a r, t, h => by
    rcases h with rfl | h
    · simp only [Ts.len]; (first | lia | omega)
    · have := Ts.has_len h; simp only [Ts.len]; (first | lia | omega)
theorem As.has_len : ∀ {ts : As} {t : T}, ts.has t → t.len ≤ ts.len
  | .cons _ a r, t, h => by
    rcases h with rfl | h
    · simp only [As.len]; (first | lia | omega)
    · have := As.has_len h; simp only [As.len]; (first | lia | omega)
mutual
noncomputable def T.kids : T → Prop
  | .nil => True
  | .set _ _ => True
  | .if_ _ a b => a.kids ∧ b.kids
  | .case _ _ pre _ d post => d.kids ∧ pre.kids ∧ post.kids
  | .for_ _ _ _ body => body.kids
  | .while_ _ body => body.kids
  | .rep _ _ body => body.kids
  | .block ts => ts.vs.length ≤ 4000 ∧ ts.kids
  | .forever body => body.kids
noncomputable def Ts.kids : Ts → Prop
  | .nil => True
  | .cons t r => t.kids ∧ r.kids
noncomputable def As.kids : As → Prop
  | .nil => True
  | .cons _ t r => t.kids ∧ r.kids
end
theorem Ts.has_kids : ∀ {ts : Ts} {t : T}, ts.has t → ts.kids → t.kids
  | .cons a r, t, h, k => by
    rcases h with rfl | h
    · exact k.1
    · exact Ts.has_kids h k.2
theorem As.has_kids : ∀ {ts : As} {t : T}, ts.has t → ts.kids → t.kids
  | .cons _ a r, t, h, k => by
    rcases h with rfl | h
    · exact k.1
    · exact As.has_kids h k.2
noncomputable def SlOk (scr : List Int) (n : Nat) (t : T) : Prop := ∀ (H : Hp) (Q : V → Hp → Prop), (∀ L, Q (.int t.slots) (H ++ L)) → Cn scr n (.fn .slots) [t.v] H Q
theorem comp_gen {α : Type} {v : α → V} {f : α → Nat} {C : CallP} {elt : E} : ∀ (l : List α) (hs : ∀ a ∈ l, ∀ (H : Hp) (Q : V → Hp → Prop), (∀ L, Q (.int (f a)) (H ++ L)) → wpE C scr elt [v a] H Q) (acc : List V) (H : Hp) (K : List V → Hp → Prop)
    (q : ∀ L, K (acc ++ l.map fun a => V.int (f a)) (H ++ L)), compW (fun _ => True) (fun v H k => wpE C scr elt (setL ([].map (getL' [])) 0 v) H k) (l.map v) acc H K := by
  intro l
  induction l with
  | nil =>
    intro _ acc H K q
    exact ⟨True.intro, by have := q []; simpa using this⟩
  | cons a r ih0 =>
    intro hs acc H K q
    exact ⟨True.intro, hs a (by simp) H _ fun L => ih0 (fun a m => hs a (List.mem_cons_of_mem _ m)) _ _ K fun L2 => by
      have := q (L ++ L2)
      simpa only [List.append_assoc, List.map_cons, List.cons_append, List.nil_append] using this⟩
theorem comp_sum {α : Type} {v : α → V} {f : α → Nat} {C : CallP} {src elt : E} {l : List α} {loc : List V} {H : Hp} {Q : V → Hp → Prop} (hl : l.length ≤ 4000) (hf : ∀ a ∈ l, f a ≤ 100000)
    (hsrc : ∀ Q' : V → Hp → Prop, Q' (.tup (l.map v)) H → wpE C scr src loc H Q') (hs : ∀ a ∈ l, ∀ (H : Hp) (Q : V → Hp → Prop), (∀ L, Q (.int (f a)) (H ++ L)) → wpE C scr elt [v a] H Q)
    (q : ∀ L, Q (.int ((l.map f).sum : Nat)) (H ++ L)) : wpE C scr (.sum_ (.comp src [] 0 elt)) loc H Q := by
  refine hsrc _ ?_
  refine ⟨by simp; (first | lia | omega), ?_⟩
  refine comp_gen l hs [] H _ fun L => ?_
  show itemsW (.obj (H ++ L).length) ((H ++ L) ++ [.list _]) _
  refine lisI at_new ?_
  rw [List.nil_append]
  show optK (sumI (l.map fun a => V.int (f a))) _
  rw [sumI_nat l hf]
  refine ⟨by simp; (first | lia | omega), ?_⟩
  rw [List.append_assoc]
  exact q _
theorem sl_nil {n : Nat} (hn : 1 ≤ n) : SlOk scr n .nil := by
  intro H Q q
  obtain ⟨m, rfl⟩ : ∃ m, n = m + 1 := ⟨n - 1, by (first | lia | omega)⟩
  refine ⟨rfl, ?_⟩
  repeat (first | refine guI True.intro ?_ | refine gnI ?_ | refine gtI ?_ | refine gsI rfl ?_)
  have := q []
  rw [List.append_nil] at this
  exact this
theorem sl_set {n : Nat} (hn : 1 ≤ n) {s : Nat} {e : X} : SlOk scr n (.set s e) := by
  intro H Q q
  obtain ⟨m, rfl⟩ : ∃ m, n = m + 1 := ⟨n - 1, by (first | lia | omega)⟩
  refine ⟨rfl, ?_⟩
  repeat (first | refine guI True.intro ?_ | refine gnI ?_ | refine gtI ?_ | refine gsI rfl ?_)
  have := q []
  rw [List.append_nil] at this
  exact this
theorem sl_last {n : Nat} {t : T} {tg : Tg} {r : List V} (hr : (r ++ [t.v]).length ≤ 5) (ht : tg = .kFor ∨ tg = .kWhile ∨ tg = .kForever) (hn : 2 ≤ n) (ok : SlOk scr (n - 1) t) {H : Hp} {Q : V → Hp → Prop} (q : ∀ L, Q (.int t.slots) (H ++ L)) :
    Cn scr n (.fn .slots) [.tup (.str tg :: (r ++ [t.v]))] H Q := by
  obtain ⟨m, rfl⟩ : ∃ m, n = m + 1 := ⟨n - 1, by (first | lia | omega)⟩
  have ok : SlOk scr m t := ok
  have e : pyGet (V.str tg :: (r ++ [t.v])) (-1) = some t.v := by
    unfold pyGet
    rw [if_neg (by first | exact le1 hn rfl | exact le2 hn rfl | (first | lia | omega)), if_pos (by simp; (first | lia | omega))]
    have : ((-1 : Int) + ((V.str tg :: (r ++ [t.v])).length : Int)).toNat = (V.str tg :: r).length := by simp; (first | lia | omega)
    rw [this, ← List.cons_append, List.getElem?_append_right (Nat.le_refl _), Nat.sub_self]; rfl
  rcases ht with rfl | rfl | rfl
  all_goals
    refine ⟨rfl, ?_⟩
    repeat (first | refine guI True.intro ?_ | refine insI e ?_ | refine lisI e ?_ | refine cloI e ?_ | refine optI e ?_ | refine gnI ?_ | refine gtI ?_ | refine gsI rfl ?_ | ((conv => whnf); first | rw [e] ))
    exact ok H _ q
theorem sl_if {n : Nat} (hn : 2 ≤ n) {e : X} {a b : T} (oka : SlOk scr (n - 1) a) (okb : SlOk scr (n - 1) b) : SlOk scr n (.if_ e a b) := by
  intro H Q q
  obtain ⟨m, rfl⟩ : ∃ m, n = m + 1 := ⟨n - 1, by (first | lia | omega)⟩
  refine ⟨rfl, ?_⟩
  repeat (first | refine guI True.intro ?_ | refine gnI ?_ | refine gtI ?_ | refine gsI rfl ?_)
  refine oka H _ fun L => ?_
  repeat (first | refine guI True.intro ?_ | refine gnI ?_ | refine gtI ?_ | refine gsI rfl ?_)
  refine okb _ _ fun L2 => ?_
  conv => whnf
  rw [List.append_assoc]
  exact q _
theorem sl_rep {n : Nat} (hn : 2 ≤ n) {e : X} {sg : Bool} {a : T} (oka : SlOk scr (n - 1) a) : SlOk scr n (.rep e sg a) := by
  intro H Q q
  obtain ⟨m, rfl⟩ : ∃ m, n = m + 1 := ⟨n - 1, by (first | lia | omega)⟩
  refine ⟨rfl, ?_⟩
  repeat (first | refine guI True.intro ?_ | refine gnI ?_ | refine gtI ?_ | refine gsI rfl ?_)
  refine oka H _ fun L => ?_
  conv => whnf
  have := q L
  simp only [T.slots, Int.natCast_add] at this
  exact this
theorem sl_block {n : Nat} (hn : 2 ≤ n) {ts : Ts} (hl : ts.len ≤ 4000) (hk : ts.vs.length ≤ 4000) (ok : ∀ t, ts.has t → SlOk scr (n - 1) t) : SlOk scr n (.block ts) := by
  intro H Q q
  obtain ⟨m, rfl⟩ : ∃ m, n = m + 1 := ⟨n - 1, by (first | lia | omega)⟩
  refine ⟨rfl, ?_⟩
  refine if_skip (fun Q q => ?_) (if_skip (fun Q q => ?_) (if_take (fun Q q => ?_) ?_))
  · repeat (first | refine guI True.intro ?_ | refine gnI ?_ | refine gtI ?_ | refine gsI rfl ?_)
    exact q
  · repeat (first | refine guI True.intro ?_ | refine gnI ?_ | refine gtI ?_ | refine gsI rfl ?_)
    exact q
  · repeat (first | refine guI True.intro ?_ | refine gnI ?_ | refine gtI ?_ | refine gsI rfl ?_)
    exact q
  · show wpE (Cn scr m) scr (.sum_ (.comp (.idx (.loc 0) (.cI 1)) [] 0 (.call .slots (.cons (.loc 0) .nil)))) [(T.block ts).v] H _
    refine comp_sum (v := T.v) (f := T.slots) (l := ts.list) (by rw [Ts.list_len]; exact hk) (fun a m => ?_) (fun Q' q' => ?_) (fun a m H Q q => ?_) fun L => ?_
    · have := (Ts.list_has ts a m).2
      have := T.slots_le a
      (first | lia | omega)
    · rw [← Ts.list_vs] at q'
      repeat (first | refine guI True.intro ?_ | refine gnI ?_ | refine gtI ?_ | refine gsI rfl ?_)
      exact q'
    · refine ⟨ne_of_ok (T.v_ok _), ?_⟩
      exact ok a (Ts.list_has ts a m).1 H Q q
    · have := q L
      simp only [T.slots, Ts.list_slots] at this
      exact this
theorem sl_case {n : Nat} (hn : 2 ≤ n) {k : Tg} {e : X} {pre post : As} {hasD : Bool} {d : T} (he : e.word) (hD : hasD = false → d = .nil) (hl : d.len + pre.len + post.len ≤ 3900) (okd : SlOk scr (n - 1) d) (ok1 : ∀ t, pre.has t → SlOk scr (n - 1) t) (ok2 : ∀ t, post.has t → SlOk scr (n - 1) t) : SlOk scr n (.case k e pre hasD d post) := by
  intro H Q q
  obtain ⟨m, rfl⟩ : ∃ m, n = m + 1 := ⟨n - 1, by (first | lia | omega)⟩
  have okd : SlOk scr m d := okd
  have ok1 : ∀ t, pre.has t → SlOk scr m t := ok1
  have ok2 : ∀ t, post.has t → SlOk scr m t := ok2
  have key : ∀ o : Nat, o = e.own → wpE (Cn scr m) scr (.bin .add (.loc 1) (.sum_ (.comp (.idx (.loc 0) (.cI 3)) [] 0 (.call .slots (.cons (.idx (.loc 0) (.cI 1)) .nil))))) [(T.case k e pre hasD d post).v, .int o] H Q := by
    rintro o rfl
    refine ⟨ne_of_ok True.intro, ?_⟩
    have e1 := pre.rows_len
    have e2 := post.rows_len
    refine comp_sum (v := rowV2) (f := fun p => p.2.slots) (l := pre.rows ++ ((bif hasD then [(V.none, d)] else []) ++ post.rows)) ?_ (fun a m => ?_) (fun Q' q' => ?_) (fun a m H Q q => ?_) fun L => ?_
    · cases hasD <;> simp <;> (first | lia | omega)
    · have := T.slots_le a.2
      simp only [List.mem_append] at m
      rcases m with m | m | m
      · have := (As.rows_has _ _ m).2; (first | lia | omega)
      · cases hasD
        · cases m
        · simp at m; subst m; simp only at *; (first | lia | omega)
      · have := (As.rows_has _ _ m).2; (first | lia | omega)
    · have ev : (pre.rows ++ ((bif hasD then [(V.none, d)] else []) ++ post.rows)).map rowV2 = pre.vs ++ ((bif hasD then [.tup [.none, d.v]] else []) ++ post.vs) := by
        rw [List.map_append, List.map_append, ← As.rows_vs, ← As.rows_vs]
        cases hasD <;> rfl
      rw [ev] at q'
      repeat (first | refine guI True.intro ?_ | refine gnI ?_ | refine gtI ?_ | refine gsI rfl ?_)
      exact q'
    · have : SlOk scr ‹_› a.2 := by
        simp only [List.mem_append] at m
        rcases m with m | m | m
        · exact ok1 _ (As.rows_has _ _ m).1
        · cases hasD
          · cases m
          · simp at m; subst m; exact okd
        · exact ok2 _ (As.rows_has _ _ m).1
      repeat (first | refine guI True.intro ?_ | refine gnI ?_ | refine gtI ?_ | refine gsI rfl ?_)
      exact this H Q q
    · have := q L
      have es : ((pre.rows ++ ((bif hasD then [(V.none, d)] else []) ++ post.rows)).map fun p => p.2.slots).sum = d.slots + (pre.slots + post.slots) := by
        rw [List.map_append, List.map_append, List.sum_append, List.sum_append, ← As.rows_slots, ← As.rows_slots]
        cases hasD
        · have := hD rfl; subst this; simp [T.slots]
        · simp; (first | lia | omega)
      rw [es]
      simp only [T.slots, Int.natCast_add] at this ⊢
      exact this
  refine ⟨rfl, ?_⟩
  refine if_skip (fun Q q => ?_) (if_take (fun Q q => ?_) ?_)
  · repeat (first | refine guI True.intro ?_ | refine gnI ?_ | refine gtI ?_ | refine gsI rfl ?_)
    exact q
  · repeat (first | refine guI True.intro ?_ | refine gnI ?_ | refine gtI ?_ | refine gsI rfl ?_)
    exact q
  · cases e with
    | below s n => exact he.elim
    | const w a b =>
      refine asg_ok (v := .int 0) (fun Q q => ?_) ?_
      · repeat (first | refine guI True.intro ?_ | refine gnI ?_ | refine gtI ?_ | refine gsI rfl ?_)
        exact q
      · exact key 0 rfl
    | var s a =>
      refine asg_ok (v := .int 1) (fun Q q => ?_) ?_
      · repeat (first | refine guI True.intro ?_ | refine gnI ?_ | refine gtI ?_ | refine gsI rfl ?_)
        exact q
      · exact key 1 rfl
theorem slots_ok : ∀ (h n : Nat) (t : T), t.ht ≤ h → t.wf → t.len ≤ 3800 → t.kids → h + 2 ≤ n → SlOk scr n t := by
  intro h
  induction h with
  | zero =>
    intro n t ht wf hl kd hn
    cases t <;> simp only [T.ht] at ht <;> first | exact sl_nil (by first | exact le1 hn rfl | exact le2 hn rfl | (first | lia | omega)) | (first | lia | omega)
  | succ h ih0 =>
    intro n t ht wf hl kd hn
    have ok : ∀ t : T, t.ht ≤ h → t.wf → t.len ≤ 3800 → t.kids → SlOk scr (n - 1) t := fun t ht wf hl kd => ih0 (n - 1) t ht wf hl kd (by first | exact le1 hn rfl | exact le2 hn rfl | (first | lia | omega))
    cases t with
    | nil => exact sl_nil (by first | exact le1 hn rfl | exact le2 hn rfl | (first | lia | omega))
    | set s e => exact sl_set (by first | exact le1 hn rfl | exact le2 hn rfl | (first | lia | omega))
    | if_ e a b =>
      have ht := mx2 ht
      simp only [T.len] at hl
      refine sl_if (by first | exact le1 hn rfl | exact le2 hn rfl | (first | lia | omega)) (ok _ ht.1 wf.2.1 (by first | exact le1 hn rfl | exact le2 hn rfl | (first | lia | omega)) kd.1) (ok _ ht.2 wf.2.2 ?_ kd.2)
      cases hb : b.isNil
      · rw [hb] at hl; simp only [cond_false] at hl; (first | lia | omega)
      · have := T.isNil_eq hb
        subst this
        exact Nat.zero_le _
    | case k e pre hasD d post =>
      have ht := mx3 ht
      simp only [T.len] at hl
      obtain ⟨w1, w2, w3, w4, w5, w6, w7⟩ := wf
      exact sl_case (by first | exact le1 hn rfl | exact le2 hn rfl | (first | lia | omega)) w2 w7 (by first | exact le1 hn rfl | exact le2 hn rfl | (first | lia | omega)) (ok _ ht.1 w6 (by first | exact le1 hn rfl | exact le2 hn rfl | (first | lia | omega)) kd.1) (fun t m => ok t (Nat.le_trans (As.has_ht m).1 ht.2.1) ((As.has_ht m).2 w4) (by have := As.has_len m; (first | lia | omega)) (As.has_kids m kd.2.1))
        (fun t m => ok t (Nat.le_trans (As.has_ht m).1 ht.2.2) ((As.has_ht m).2 w5) (by have := As.has_len m; (first | lia | omega)) (As.has_kids m kd.2.2))
    | for_ a e step body =>
      have ht := mx3 ht
      simp only [T.len] at hl
      intro H Q q
      exact sl_last (t := body) (r := [a.v, e.v, step.v]) (by simp) (.inl rfl) (by first | exact le1 hn rfl | exact le2 hn rfl | (first | lia | omega)) (ok _ ht.2.2 wf.2.2.2.1 (by first | exact le1 hn rfl | exact le2 hn rfl | (first | lia | omega)) kd) q
    | while_ e body =>
      have ht := mx1 ht
      simp only [T.len] at hl
      intro H Q q
      exact sl_last (t := body) (r := [e.v]) (by simp) (.inr (.inl rfl)) (by first | exact le1 hn rfl | exact le2 hn rfl | (first | lia | omega)) (ok _ ht wf.2 (by first | exact le1 hn rfl | exact le2 hn rfl | (first | lia | omega)) kd) q
    | rep e sg body =>
      have ht := mx1 ht
      simp only [T.len] at hl
      exact sl_rep (by first | exact le1 hn rfl | exact le2 hn rfl | (first | lia | omega)) (ok _ ht wf.2 (by first | exact le1 hn rfl | exact le2 hn rfl | (first | lia | omega)) kd)
    | block ts =>
      have ht := mx1 ht
      simp only [T.len] at hl
      exact sl_block (by first | exact le1 hn rfl | exact le2 hn rfl | (first | lia | omega)) (by first | exact le1 hn rfl | exact le2 hn rfl | (first | lia | omega)) kd.1 (fun t m => ok t (Nat.le_trans (Ts.has_ht m).1 ht) ((Ts.has_ht m).2 wf.1) (by have := Ts.has_len m; (first | lia | omega)) (Ts.has_kids m kd.2))
    | forever body =>
      have ht := mx1 ht
      simp only [T.len] at hl
      intro H Q q
      exact sl_last (t := body) (r := []) (by simp) (.inr (.inr rfl)) (by first | exact le1 hn rfl | exact le2 hn rfl | (first | lia | omega)) (ok _ ht wf (by first | exact le1 hn rfl | exact le2 hn rfl | (first | lia | omega)) kd) q
end Mine
namespace Mine
noncomputable def Hd3 (hd : Nat → List Nat) : Prop := ∀ s, s < 3 → Row3 (hd s)
theorem Hd3.upd {hd : Nat → List Nat} (h : Hd3 hd) {s : Nat} {r : List Nat} (hr : Row3 r) : Hd3 (upd hd s r) := fun i hi => by
  unfold Mine.upd
  split
  · exact hr
  · exact h i hi
noncomputable def SameF (fr fr' : List FV) (lo hi : Nat) : Prop := fr'.length = fr.length ∧ ∀ i, (i < lo ∨ hi ≤ i) → fr'[i]? = fr[i]?
theorem SameF.refl {fr : List FV} {lo hi : Nat} : SameF fr fr lo hi := ⟨rfl, fun _ _ => rfl⟩
theorem SameF.trans {a b c : List FV} {lo hi : Nat} (x : SameF a b lo hi) (y : SameF b c lo hi) : SameF a c lo hi := ⟨y.1.trans x.1, fun i h => (y.2 i h).trans (x.2 i h)⟩
theorem SameF.mono {a b : List FV} {lo hi lo' hi' : Nat} (x : SameF a b lo hi) (h1 : lo' ≤ lo) (h2 : hi ≤ hi') : SameF a b lo' hi' := ⟨x.1, fun i h => x.2 i (by first | exact le1 hn rfl | exact le2 hn rfl | (first | lia | omega))⟩
theorem SameF.set {fr : List FV} {lo hi i : Nat} {v : FV} (h1 : lo ≤ i) (h2 : i < hi) : SameF fr (fr.set i v) lo hi := ⟨List.length_set, fun j h => List.getElem?_set_ne (by first | exact le1 hn rfl | exact le2 hn rfl | (first | lia | omega))⟩
variable {base : Nat} {code : List Rw}
theorem Path.trans {n m : Nat} {a b c : VS} (x : Path base code n a b) (y : Path base code m b c) : Path base code (n + m) a c := by
  induction x with
  | refl => rw [Nat.zero_add]; exact y
  | step s _ ih => rw [Nat.add_right_comm]; exact .step s (ih y)
theorem Path.one {a b : VS} (s : Step base code a b) : Path base code 1 a b := .step s .refl
noncomputable def Cmd.ex : Cmd → Nat
  | .loop _ _ => 2
  | .reps _ _ => 2
  | _ => 0
noncomputable def Cmd.slots : Cmd → Nat
  | .one t => t.slots
  | .parts ts => ts.slots
  | .round ts => ts.slots
  | .loop _ ts => ts.slots
  | .reps _ t => 1 + t.slots
  | .ever t => t.slots
noncomputable def Cmd.place (code : List Rw) : Cmd → Nat → Nat → Nat → Prop
  | .one t, p, sl, q => t.at code p sl ∧ q = p + t.len
  | .parts ts, p, sl, q => ts.at code p sl ∧ q = p + ts.len
  | .round ts, p, sl, q => ts.at code p sl ∧ q = p + ts.len
  | .loop e ts, p, sl, q => code[p]? = some (.unless e (q : Int)) ∧ ts.at code (p + 1) sl ∧ code[p + 1 + ts.len]? = some (.jump (p : Int))
  | .reps _ t, p, sl, q => code[p]? = some (.again sl (q : Int)) ∧ t.at code (p + 1) (sl + 1) ∧ code[p + 1 + t.len]? = some (.jump (p : Int))
  | .ever t, p, sl, _ => t.at code p sl ∧ code[p + t.len]? = some (.jump (p : Int))
noncomputable def Cmd.fr0 : Cmd → List FV → Nat → Prop
  | .reps n _, fr, sl => fr[sl]? = some (.cnt n)
  | _, _, _ => True
inductive RT (base : Nat) (code : List Rw) (c : Cmd) (σ σ' : S) (p sl q : Nat) (fr : List FV) : Prop
  | mk (n : Nat) (fr' : List FV) : Path base code n ⟨p, fr, σ.hd, σ.lg⟩ ⟨q, fr', σ'.hd, σ'.lg⟩ → n + 8 * σ'.left + 8 * c.gain true ≤ 8 * σ.left + c.ex → Hd3 σ'.hd → SameF fr fr' sl (sl + c.slots) → RT base code c σ σ' p sl q fr
inductive RF (base : Nat) (code : List Rw) (c : Cmd) (σ σ' : S) (p : Nat) (fr : List FV) : Prop
  | mk (n : Nat) (st' : VS) : Path base code n ⟨p, fr, σ.hd, σ.lg⟩ st' → n + 8 * σ'.left ≤ 8 * σ.left + c.ex → st'.lg = σ'.lg → RF base code c σ σ' p fr
noncomputable def Reach (base : Nat) (code : List Rw) (c : Cmd) (σ : S) (r : Bool) (σ' : S) (p sl q : Nat) (fr : List FV) : Prop := match r with
  | true => RT base code c σ σ' p sl q fr
  | false => RF base code c σ σ' p fr
theorem Reach.glue {c c2 : Cmd} {σ0 σ σ' : S} {r : Bool} {p0 p sl0 sl q q2 n0 m2 : Nat} {fr0 fr : List FV} (h : Reach base code c σ r σ' p sl q fr) (pre : Path base code n0 ⟨p0, fr0, σ0.hd, σ0.lg⟩ ⟨p, fr, σ.hd, σ.lg⟩)
    (post : r = true → ∀ fr', ∃ n2, n2 ≤ m2 ∧ Path base code n2 ⟨q, fr', σ'.hd, σ'.lg⟩ ⟨q2, fr', σ'.hd, σ'.lg⟩) (hb : n0 + m2 + 8 * σ.left + c.ex + 8 * c2.gain r ≤ 8 * σ0.left + c2.ex) (hs : SameF fr0 fr sl0 (sl0 + c2.slots)) (h1 : sl0 ≤ sl) (h2 : sl + c.slots ≤ sl0 + c2.slots) :
    Reach base code c2 σ0 r σ' p0 sl0 q2 fr0 := by
  cases r
  · obtain ⟨n, st', P, b, l⟩ := h
    exact ⟨n0 + n, st', pre.trans P, by (first | lia | omega), l⟩
  · obtain ⟨n, fr', P, b, h3, s⟩ := h
    obtain ⟨n2, hn2, P2⟩ := post rfl fr'
    exact ⟨n0 + n + n2, fr', (pre.trans P).trans P2, by (first | lia | omega), h3, hs.trans (s.mono h1 h2)⟩
theorem Reach.seq {c c1 c2 : Cmd} {σ σ1 σ' : S} {r : Bool} {p sl q p1 sl1 p2 sl2 q2 m : Nat} {fr : List FV} (h1 : Reach base code c1 σ true σ1 p sl1 p1 fr) (mid : ∀ fr', ∃ n2, n2 ≤ m ∧ Path base code n2 ⟨p1, fr', σ1.hd, σ1.lg⟩ ⟨p2, fr', σ1.hd, σ1.lg⟩)
    (h2 : ∀ fr1, SameF fr fr1 sl1 (sl1 + c1.slots) → Hd3 σ1.hd → Reach base code c2 σ1 r σ' p2 sl2 q2 fr1) (hb : m + c1.ex + c2.ex + 8 * c.gain r ≤ c.ex + 8 * c1.gain true + 8 * c2.gain r) (l1 : sl ≤ sl1) (l2 : sl1 + c1.slots ≤ sl + c.slots) (l3 : sl ≤ sl2) (l4 : sl2 + c2.slots ≤ sl + c.slots) :
    Reach base code c σ r σ' p sl q2 fr := by
  obtain ⟨n, fr', P, b, h3, s⟩ := h1
  obtain ⟨n2, hn2, P2⟩ := mid fr'
  have h := h2 fr' s h3
  cases r
  · obtain ⟨n3, st', P3, b3, l⟩ := h
    have g0 : c2.gain false = 0 := by cases c2 <;> rfl
    refine ⟨n + n2 + n3, st', (P.trans P2).trans P3, ?_, l⟩
    (first | lia | omega)
  · obtain ⟨n3, fr2, P3, b3, h33, s3⟩ := h
    exact ⟨n + n2 + n3, fr2, (P.trans P2).trans P3, by (first | lia | omega), h33, (s.mono l1 l2).trans (s3.mono l3 l4)⟩
theorem at_once {st : VS} {m : Nat} : ∃ n2, n2 ≤ m ∧ Path base code n2 st st := ⟨0, Nat.zero_le _, .refl⟩
theorem by_jump {p q : Nat} (h : code[p]? = some (.jump (q : Int))) (fr : List FV) (hd : Nat → List Nat) (lg : List (X × List Nat)) : ∃ n2, n2 ≤ 1 ∧ Path base code n2 ⟨p, fr, hd, lg⟩ ⟨q, fr, hd, lg⟩ := ⟨1, Nat.le_refl _, .one (.jump h)⟩
noncomputable def SrcOk (fr : List FV) (hd : Nat → List Nat) (row : List Nat) (s : Src) : Prop := match s with
  | .word e => (∃ w a b, e = .const w a b) ∧ e.word ∧ row = e.codes hd
  | .loc sl => fr[sl]? = some (.vec row)
theorem labs_path {k : Tg} (hk : isKind k) {row : List Nat} (hr : Row3 row) {fr : List FV} {s : Src} {tgt : Nat} : ∀ {ls : List X} (hw : ∀ e ∈ ls, e.word) {p : Nat} {σ σ1 : S} {b : Bool}, SrcOk fr σ.hd row s → labAt code k s tgt ls p → pickL k row ls σ = (b, σ1) →
    σ1.hd = σ.hd ∧ ∃ n, n ≤ ls.length ∧ Path base code n ⟨p, fr, σ.hd, σ.lg⟩ ⟨bif b then tgt else p + ls.length, fr, σ1.hd, σ1.lg⟩ := by
  intro ls
  induction ls with
  | nil =>
    intro _ p σ σ1 b _ _ e
    cases e; exact ⟨rfl, 0, Nat.le_refl _, .refl⟩
  | cons l r ih0 =>
    intro hw p σ σ1 b hs hl e
    simp only [pickL] at e
    have st : Step base code ⟨p, fr, σ.hd, σ.lg⟩ ⟨bif alike k row (l.codes σ.hd) then tgt else p + 1, fr, σ.hd, σ.lg ++ l.logs σ.hd⟩ := Step.match_ (st := ⟨p, fr, σ.hd, σ.lg⟩) hl.1 hk (hw l (by simp)) hr (by cases s <;> exact hs)
    cases ha : alike k row (l.codes σ.hd)
    · rw [ha] at e st
      have ih := ih0 (fun x m => hw x (List.mem_cons_of_mem _ m)) (σ := σ.see l) hs hl.2 e
      obtain ⟨h1, n, h2, P⟩ := ih
      refine ⟨h1, n + 1, by simp only [List.length_cons]; (first | lia | omega), .step st ?_⟩
      have : p + 1 + r.length = p + (l :: r).length := by simp only [List.length_cons]; (first | lia | omega)
      rw [this] at P
      exact P
    · rw [ha] at e st
      cases e
      exact ⟨rfl, 1, by simp, .one st⟩
inductive PickR (base : Nat) (code : List Rw) (t : T) (σ1 : S) (n : Nat) (a : VS) (fr : List FV) (fin lo top : Nat) : Prop
  | mk (pt slt : Nat) : Path base code n a ⟨pt, fr, σ1.hd, σ1.lg⟩ → t.at code pt slt → code[pt + t.len]? = some (.jump (fin : Int)) → lo ≤ slt → slt + t.slots ≤ top → PickR base code t σ1 n a fr fin lo top
theorem pick_path {k : Tg} (hk : isKind k) {row : List Nat} (hr : Row3 row) {fr : List FV} {s : Src} {fin : Nat} : ∀ {A : As} (hw : A.wf) {p q0 slA : Nat} {σ σ1 : S} {o : Option T}, SrcOk fr σ.hd row s → A.labsAt code k s p q0 → A.at code fin q0 slA → A.pick k row σ = (o, σ1) →
    σ1.hd = σ.hd ∧ ∃ n, n ≤ A.nlab ∧ (match o with
      | none => Path base code n ⟨p, fr, σ.hd, σ.lg⟩ ⟨p + A.nlab, fr, σ1.hd, σ1.lg⟩
      | some t => PickR base code t σ1 n ⟨p, fr, σ.hd, σ.lg⟩ fr fin slA (slA + A.slots)) := by
  intro A
  refine As.ind (P := fun A => ∀ (hw : A.wf) {p q0 slA : Nat} {σ σ1 : S} {o : Option T}, SrcOk fr σ.hd row s → A.labsAt code k s p q0 → A.at code fin q0 slA → A.pick k row σ = (o, σ1) →
    σ1.hd = σ.hd ∧ ∃ n, n ≤ A.nlab ∧ (match o with
      | none => Path base code n ⟨p, fr, σ.hd, σ.lg⟩ ⟨p + A.nlab, fr, σ1.hd, σ1.lg⟩
      | some t => PickR base code t σ1 n ⟨p, fr, σ.hd, σ.lg⟩ fr fin slA (slA + A.slots))) ?_ ?_ A
  · intro _ p q0 slA σ σ1 o _ _ _ e
    cases e; exact ⟨rfl, 0, Nat.le_refl _, .refl⟩
  · intro ls t r ih0 hw p q0 slA σ σ1 o hs hl ha e
    simp only [As.pick] at e
    split at e
    · rename_i σ2 h
      cases e
      obtain ⟨h1, n, h2, P⟩ := labs_path (base := base) hk hr hw.1 hs hl.1 h
      exact ⟨h1, n, by simp only [As.nlab]; (first | lia | omega), q0, slA, P, ha.1, ha.2.1, Nat.le_refl _, by simp only [As.slots]; (first | lia | omega)⟩
    · rename_i σ2 h
      obtain ⟨h1, n, h2, P⟩ := labs_path (base := base) hk hr hw.1 hs hl.1 h
      have hs2 : SrcOk fr σ2.hd row s := by rw [h1]; exact hs
      obtain ⟨g1, n2, g2, P2⟩ := ih0 hw.2.2 hs2 hl.2 ha.2.2 e
      refine ⟨g1.trans h1, n + n2, by simp only [As.nlab]; (first | lia | omega), ?_⟩
      cases o with
      | none =>
        have : p + ls.length + r.nlab = p + (As.cons ls t r).nlab := by simp only [As.nlab]; (first | lia | omega)
        rw [← this]
        exact P.trans P2
      | some t' =>
        obtain ⟨pt, slt, P3, a1, a2, a3, a4⟩ := P2
        exact ⟨pt, slt, P.trans P3, a1, a2, by (first | lia | omega), by simp only [As.slots]; (first | lia | omega)⟩
inductive CaseR (base : Nat) (code : List Rw) (ch : T × S) (σ : S) (p : Nat) (fr : List FV) (fin sl top : Nat) : Prop
  | mk (same : ch.2.hd = σ.hd) (n : Nat) (fr' : List FV) (pt slt : Nat) : n ≤ 5 → Path base code n ⟨p, fr, σ.hd, σ.lg⟩ ⟨pt, fr', σ.hd, ch.2.lg⟩ → ch.1.at code pt slt → code[pt + ch.1.len]? = some (.jump (fin : Int)) → sl ≤ slt → slt + ch.1.slots ≤ top → SameF fr fr' sl top → CaseR base code ch σ p fr fin sl top
theorem case_path {k : Tg} {e : X} {pre post : As} {hasD : Bool} {d : T} {p sl : Nat} {fr : List FV} {σ : S} (wf : (T.case k e pre hasD d post).wf) (h3 : Hd3 σ.hd) (ha : (T.case k e pre hasD d post).at code p sl) (hb : base ≤ sl) (hf : sl + (T.case k e pre hasD d post).slots ≤ fr.length) :
    CaseR base code (chosen k e pre d post σ) σ p fr (p + (T.case k e pre hasD d post).len) sl (sl + (T.case k e pre hasD d post).slots) := by
  obtain ⟨wk, we, w3, w4, w5, w6, w7⟩ := wf
  obtain ⟨a0, a1, a2, a3, a4, a5, a6⟩ := ha
  have hr := word_row we h3
  simp only [T.slots] at hf ⊢
  have hlen : (T.case k e pre hasD d post).len = e.own + (pre.nlab + post.nlab) + d.len + 1 + (pre.len + post.len) := rfl
  rw [hlen]
  obtain ⟨n0, fr', hn0, P0, hs, sf⟩ : ∃ n fr', n ≤ 1 ∧ Path base code n ⟨p, fr, σ.hd, σ.lg⟩ ⟨p + e.own, fr', (σ.see e).hd, (σ.see e).lg⟩ ∧ SrcOk fr' (σ.see e).hd (e.codes σ.hd) (e.src sl) ∧ SameF fr fr' sl (sl + (e.own + (d.slots + (pre.slots + post.slots)))) := by
    cases e with
    | const w a b =>
      refine ⟨0, fr, by (first | lia | omega), ?_, ⟨⟨w, a, b, rfl⟩, we, rfl⟩, .refl⟩
      have : (σ.see (.const w a b)).lg = σ.lg := by simp [S.see, X.logs]
      rw [this]
      exact .refl
    | var s a =>
      refine ⟨1, fr.set sl (.vec ((X.var s a).codes σ.hd)), Nat.le_refl _, ?_, ?_, SameF.set (Nat.le_refl _) (by simp only [X.own]; (first | lia | omega))⟩
      · exact .one (Step.save (st := ⟨p, fr, σ.hd, σ.lg⟩) (a0 rfl) we hb (by simp only [X.own] at hf; show sl < fr.length; (first | lia | omega)))
      · show (fr.set sl _)[sl]? = _
        rw [List.getElem?_set_self (by simp only [X.own] at hf; (first | lia | omega))]
    | below s a => exact we.elim
  unfold chosen
  split
  · rename_i t σ1 h
    obtain ⟨g1, n1, g2, pt, slt, P1, b1, b2, b3, b4⟩ := pick_path (base := base) wk hr w4 hs a1 a5 h
    exact ⟨g1, n0 + n1, fr', pt, slt, by (first | lia | omega), by have := P0.trans P1; rwa [g1] at this, b1, b2, by (first | lia | omega), by simp only; (first | lia | omega), sf⟩
  · rename_i σ1 h
    obtain ⟨g1, n1, g2, P1⟩ := pick_path (base := base) wk hr w4 hs a1 a5 h
    simp only at P1
    have hs1 : SrcOk fr' σ1.hd (e.codes σ.hd) (e.src sl) := by rw [g1]; exact hs
    have P01 := P0.trans P1
    split
    · rename_i t σ2 h
      obtain ⟨g3, n2, g4, pt, slt, P2, b1, b2, b3, b4⟩ := pick_path (base := base) wk hr w5 hs1 a2 a6 h
      exact ⟨g3.trans g1, n0 + n1 + n2, fr', pt, slt, by (first | lia | omega), by have := P01.trans P2; rwa [g3, g1] at this, b1, b2, by (first | lia | omega), by simp only; (first | lia | omega), sf⟩
    · rename_i σ2 h
      obtain ⟨g3, n2, g4, P2⟩ := pick_path (base := base) wk hr w5 hs1 a2 a6 h
      simp only at P2
      refine ⟨g3.trans g1, n0 + n1 + n2, fr', p + e.own + (pre.nlab + post.nlab), sl + e.own, by (first | lia | omega), ?_, a3, a4, by (first | lia | omega), by simp only; (first | lia | omega), sf⟩
      have := P01.trans P2
      rw [g3, g1] at this
      have e1 : p + e.own + pre.nlab + post.nlab = p + e.own + (pre.nlab + post.nlab) := by (first | lia | omega)
      rw [e1] at this
      exact this
noncomputable def SimOk (base : Nat) (code : List Rw) (c : Cmd) (σ : S) (r : Bool) (σ' : S) : Prop := c.wf → Hd3 σ.hd → ∀ (p sl q : Nat) (fr : List FV), c.place code p sl q → base ≤ sl → sl + c.slots ≤ fr.length → c.fr0 fr sl → Reach base code c σ r σ' p sl q fr
theorem Ev.sim {c : Cmd} {σ σ' : S} {r : Bool} (h : Ev c σ r σ') : SimOk base code c σ r σ' := by
  induction h with
  | out h => intro _ _ p sl q fr _ _ _ _; exact ⟨0, _, .refl, by (first | lia | omega), rfl⟩
  | @nil σ h =>
    intro _ h3 p sl q fr pl _ _ _
    obtain ⟨_, rfl⟩ := pl
    exact ⟨0, fr, .refl, by simp only [S.dec, Cmd.gain]; (first | lia | omega), h3, .refl⟩
  | @set s e σ h =>
    intro w h3 p sl q fr pl _ _ _
    obtain ⟨a, rfl⟩ := pl
    exact ⟨1, fr, .one (Step.set (st := ⟨p, fr, σ.hd, σ.lg⟩) a w.1 w.2), by simp only [S.dec, S.put, Cmd.gain]; (first | lia | omega), h3.upd (word_row w.2 h3), .refl⟩
  | @ift e a b σ σ' r h0 h1 _ ih =>
    intro w h3 p sl q fr pl hb hf _
    obtain ⟨⟨a1, a2, a3⟩, rfl⟩ := pl
    have st : Path base code 1 ⟨p, fr, σ.hd, σ.lg⟩ ⟨p + 1, fr, (σ.dec.see e).hd, (σ.dec.see e).lg⟩ := .one (Step.unlessT (st := ⟨p, fr, σ.hd, σ.lg⟩) a1 w.1 h1)
    have hf' : sl + (a.slots + b.slots) ≤ fr.length := hf
    have R := ih w.2.1 h3 (p + 1) sl (p + 1 + a.len) fr ⟨a2, rfl⟩ hb (by simp only [Cmd.slots]; (first | lia | omega)) True.intro
    refine R.glue st (m2 := 1) (fun _ fr' => ?_) ?_ .refl (Nat.le_refl _) (by simp only [Cmd.slots, T.slots]; (first | lia | omega))
    · cases hn : b.isNil
      · have j := (a3 hn).1
        have e1 : p + (T.if_ e a b).len = p + 2 + a.len + b.len := by simp only [T.len, hn, cond_false]; (first | lia | omega)
        rw [e1]
        exact by_jump j _ _ _
      · have e1 : p + (T.if_ e a b).len = p + 1 + a.len := by simp only [T.len, hn, cond_true]; (first | lia | omega)
        rw [e1]
        exact at_once
    · simp only [S.dec, S.see, Cmd.ex, Cmd.gain]; (first | lia | omega)
  | @iff e a b σ σ' r h0 h1 _ ih =>
    intro w h3 p sl q fr pl hb hf _
    obtain ⟨⟨a1, a2, a3⟩, rfl⟩ := pl
    have hf' : sl + (a.slots + b.slots) ≤ fr.length := hf
    have st : Path base code 1 ⟨p, fr, σ.hd, σ.lg⟩ ⟨p + 1 + a.len + (bif b.isNil then 0 else 1), fr, (σ.dec.see e).hd, (σ.dec.see e).lg⟩ := .one (Step.unlessF (st := ⟨p, fr, σ.hd, σ.lg⟩) a1 w.1 h1)
    have R := ih w.2.2 h3 (p + 1 + a.len + (bif b.isNil then 0 else 1)) (sl + a.slots) (p + (T.if_ e a b).len) fr ⟨?_, ?_⟩ (by first | exact le1 hn rfl | exact le2 hn rfl | (first | lia | omega)) (by simp only [Cmd.slots]; (first | lia | omega)) True.intro
    · exact R.glue st (m2 := 0) (fun _ fr' => at_once) (by simp only [S.dec, S.see, Cmd.ex, Cmd.gain]; (first | lia | omega)) .refl (by first | exact le1 hn rfl | exact le2 hn rfl | (first | lia | omega)) (by simp only [Cmd.slots, T.slots]; (first | lia | omega))
    · cases hn : b.isNil
      · have := (a3 hn).2
        rwa [show p + 2 + a.len = p + 1 + a.len + 1 by (first | lia | omega)] at this
      · have := T.isNil_eq hn
        subst this
        exact True.intro
    · cases hn : b.isNil
      · simp only [T.len, hn, cond_false]; (first | lia | omega)
      · have := T.isNil_eq hn
        subst this
        simp only [T.len, hn, cond_true]; (first | lia | omega)
  | @case k e pre hasD d post σ σ' r h0 _ ih =>
    intro w h3 p sl q fr pl hb hf _
    obtain ⟨ha, rfl⟩ := pl
    obtain ⟨c1, n, fr', pt, slt, hn, P, b1, b2, b3, b4, sf⟩ := case_path (σ := σ.dec) w h3 ha hb hf
    have h3' : Hd3 (chosen k e pre d post σ.dec).2.hd := by rw [c1]; exact h3
    have cl := chosen_len (k := k) (e := e) (pre := pre) (post := post) (d := d) (σ := σ.dec)
    have R := ih (chosen_wf w).1 h3' pt slt _ fr' ⟨b1, rfl⟩ (by first | exact le1 hn rfl | exact le2 hn rfl | (first | lia | omega)) (by have := sf.1; simp only [Cmd.slots] at hf ⊢; (first | lia | omega)) True.intro
    refine R.glue (n0 := n) (m2 := 1) ?_ (fun _ fr' => by_jump b2 _ _ _) ?_ sf b3 b4
    · rw [c1]; exact P
    · rw [cl.2]; simp only [S.dec, Cmd.ex, Cmd.gain]; (first | lia | omega)
  | @block ts σ σ' r h0 _ ih =>
    intro w h3 p sl q fr pl hb hf _
    exact (ih w.1 h3 p sl q fr pl hb hf True.intro).glue (n0 := 0) (m2 := 0) .refl (fun _ _ => at_once) (by simp only [S.dec, Cmd.ex, Cmd.gain]; (first | lia | omega)) .refl (Nat.le_refl _) (Nat.le_refl _)
  | @rep e sg t σ σ' r h0 _ ih =>
    intro w h3 p sl q fr pl hb hf _
    obtain ⟨⟨a1, a2, a3, a4⟩, rfl⟩ := pl
    have hf' : sl + (1 + t.slots) ≤ fr.length := hf
    have st : Path base code 1 ⟨p, fr, σ.hd, σ.lg⟩ ⟨p + 1, fr.set sl (.cnt (cnt (e.codes σ.hd) sg)), (σ.dec.see e).hd, (σ.dec.see e).lg⟩ := .one (Step.times (st := ⟨p, fr, σ.hd, σ.lg⟩) a1 w.1 hb (by show sl < fr.length; (first | lia | omega)))
    have R := ih w.2 h3 (p + 1) sl (p + (T.rep e sg t).len) (fr.set sl (.cnt (cnt (e.codes σ.hd) sg))) ⟨a2, a3, by rw [show p + 1 + 1 + t.len = p + 2 + t.len by (first | lia | omega)]; exact a4⟩ hb (by simp only [Cmd.slots, List.length_set]; (first | lia | omega)) (by
      show (fr.set sl _)[sl]? = _
      rw [List.getElem?_set_self (by first | exact le1 hn rfl | exact le2 hn rfl | (first | lia | omega))])
    exact R.glue st (m2 := 0) (fun _ _ => at_once) (by simp only [S.dec, S.see, Cmd.ex, Cmd.gain]; (first | lia | omega)) (SameF.set (Nat.le_refl _) (by simp only [Cmd.slots, T.slots]; (first | lia | omega))) (Nat.le_refl _) (Nat.le_refl _)
  | @forever t σ σ' r h0 _ ih =>
    intro w h3 p sl q fr pl hb hf _
    obtain ⟨⟨a1, a2⟩, rfl⟩ := pl
    exact (ih w h3 p sl _ fr ⟨a1, a2⟩ hb hf True.intro).glue (n0 := 0) (m2 := 0) .refl (fun _ _ => at_once) (by simp only [S.dec, Cmd.ex, Cmd.gain]; (first | lia | omega)) .refl (Nat.le_refl _) (Nat.le_refl _)
  | @while_ e t σ σ' r h0 _ ih =>
    intro w h3 p sl q fr pl hb hf _
    obtain ⟨⟨a1, a2, a3⟩, rfl⟩ := pl
    have hf' : sl + t.slots ≤ fr.length := hf
    exact (ih ⟨w.1, w.2, True.intro⟩ h3 p sl (p + (T.while_ e t).len) fr ⟨a1, ⟨a2, True.intro⟩, a3⟩ hb hf' True.intro).glue (n0 := 0) (m2 := 0) .refl (fun _ _ => at_once) (by simp only [S.dec, Cmd.ex, Cmd.gain]; (first | lia | omega)) .refl (Nat.le_refl _) (Nat.le_refl _)
  | @forF a e step body σ σ' h0 _ ih =>
    intro w h3 p sl q fr pl hb hf _
    obtain ⟨⟨a1, a2, a3, a4, a5⟩, rfl⟩ := pl
    exact (ih w.2.1 h3 p sl (p + a.len) fr ⟨a1, rfl⟩ hb (by simp only [Cmd.slots, w.2.2.2.2.1] at *; (first | lia | omega)) True.intro).glue (n0 := 0) (m2 := 0) .refl (fun h _ => by cases h) (by simp only [S.dec, Cmd.ex, Cmd.gain]; (first | lia | omega)) .refl (Nat.le_refl _) (by simp only [Cmd.slots, w.2.2.2.2.1]; (first | lia | omega))
  | @forT a e step body σ σ1 σ' r h0 _ _ ih1 ih2 =>
    intro w h3 p sl q fr pl hb hf _
    obtain ⟨⟨a1, a2, a3, a4, a5⟩, rfl⟩ := pl
    have z1 : a.slots = 0 := w.2.2.2.2.1
    have z2 : step.slots = 0 := w.2.2.2.2.2
    have hf' : sl + body.slots ≤ fr.length := hf
    have R1 := ih1 w.2.1 h3 p sl (p + a.len) fr ⟨a1, rfl⟩ hb (by simp only [Cmd.slots, z1]; (first | lia | omega)) True.intro
    have R1' : Reach base code (.round .nil) σ true σ1 p sl (p + a.len) fr := R1.glue (n0 := 0) (m2 := 0) .refl (fun _ _ => at_once) (by simp only [S.dec, Cmd.ex, Cmd.gain]; (first | lia | omega)) .refl (Nat.le_refl _) (by simp only [Cmd.slots, z1]; (first | lia | omega))
    refine R1'.seq (c := .one (.for_ a e step body)) (m := 0) (p2 := p + a.len) (c2 := .loop e (two body step)) (sl2 := sl) (q := 0) (fun _ => at_once) (fun fr1 sf h31 => ?_) (by simp only [Cmd.ex, Cmd.gain]; (first | lia | omega)) (Nat.le_refl _) (by simp only [Cmd.slots, Ts.slots]; (first | lia | omega)) (Nat.le_refl _) (by simp only [Cmd.slots, two, Ts.slots, z2, T.slots]; (first | lia | omega))
    refine ih2 ⟨w.1, w.2.2.2.1, w.2.2.1, True.intro⟩ h31 (p + a.len) sl _ fr1 ⟨?_, ⟨a3, a4, True.intro⟩, ?_⟩ hb (by have := sf.1; simp only [Cmd.slots, two, Ts.slots, z2]; (first | lia | omega)) True.intro
    · have e1 : p + a.len + (1 + body.len + step.len + 1) = p + (T.for_ a e step body).len := by simp only [T.len]; (first | lia | omega)
      rw [← e1]; exact a2
    · have e1 : p + a.len + 1 + (two body step).len = p + a.len + 1 + body.len + step.len := by simp only [two, Ts.len]; (first | lia | omega)
      rw [e1]; exact a5
  | @pnil σ =>
    intro _ h3 p sl q fr pl _ _ _
    obtain ⟨_, rfl⟩ := pl
    exact ⟨0, fr, .refl, by simp only [Cmd.gain]; (first | lia | omega), h3, .refl⟩
  | @pF t ts σ σ' _ ih =>
    intro w h3 p sl q fr pl hb hf _
    obtain ⟨⟨a1, a2⟩, rfl⟩ := pl
    exact (ih w.1 h3 p sl (p + t.len) fr ⟨a1, rfl⟩ hb (by simp only [Cmd.slots, Ts.slots] at *; (first | lia | omega)) True.intro).glue (n0 := 0) (m2 := 0) .refl (fun h _ => by cases h) (by simp only [Cmd.ex, Cmd.gain]; (first | lia | omega)) .refl (Nat.le_refl _) (by simp only [Cmd.slots, Ts.slots]; (first | lia | omega))
  | @pT t ts σ σ1 σ' r _ _ ih1 ih2 =>
    intro w h3 p sl q fr pl hb hf _
    obtain ⟨⟨a1, a2⟩, rfl⟩ := pl
    have hf' : sl + (t.slots + ts.slots) ≤ fr.length := hf
    refine (ih1 w.1 h3 p sl (p + t.len) fr ⟨a1, rfl⟩ hb (by simp only [Cmd.slots]; (first | lia | omega)) True.intro).seq (c := .parts (.cons t ts)) (m := 0) (p2 := p + t.len) (c2 := .parts ts) (sl2 := sl + t.slots) (q := 0) (fun _ => at_once) (fun fr1 sf h31 => ?_) (by simp only [Cmd.ex, Cmd.gain]; (first | lia | omega)) (Nat.le_refl _) (by simp only [Cmd.slots, Ts.slots]; (first | lia | omega)) (by first | exact le1 hn rfl | exact le2 hn rfl | (first | lia | omega)) (by simp only [Cmd.slots, Ts.slots]; (first | lia | omega))
    exact ih2 w.2 h31 (p + t.len) (sl + t.slots) _ fr1 ⟨a2, by simp only [Ts.len]; (first | lia | omega)⟩ (by first | exact le1 hn rfl | exact le2 hn rfl | (first | lia | omega)) (by have := sf.1; simp only [Cmd.slots]; (first | lia | omega)) True.intro
  | rout h => intro _ _ p sl q fr _ _ _ _; exact ⟨0, _, .refl, by (first | lia | omega), rfl⟩
  | @round ts σ σ' r h0 _ ih =>
    intro w h3 p sl q fr pl hb hf _
    exact (ih w h3 p sl q fr pl hb hf True.intro).glue (n0 := 0) (m2 := 0) .refl (fun _ _ => at_once) (by cases r <;> simp only [S.dec, Cmd.ex, Cmd.gain] <;> (first | lia | omega)) .refl (Nat.le_refl _) (Nat.le_refl _)
  | @lend e ts σ h =>
    intro w h3 p sl q fr pl hb hf _
    exact ⟨1, fr, .one (Step.unlessF (st := ⟨p, fr, σ.hd, σ.lg⟩) pl.1 w.1 h), by simp only [S.see, Cmd.gain, Cmd.ex]; (first | lia | omega), h3, .refl⟩
  | @lF e ts σ σ' h _ ih =>
    intro w h3 p sl q fr pl hb hf _
    have st : Path base code 1 ⟨p, fr, σ.hd, σ.lg⟩ ⟨p + 1, fr, (σ.see e).hd, (σ.see e).lg⟩ := .one (Step.unlessT (st := ⟨p, fr, σ.hd, σ.lg⟩) pl.1 w.1 h)
    exact (ih w.2 h3 (p + 1) sl (p + 1 + ts.len) fr ⟨pl.2.1, rfl⟩ hb hf True.intro).glue st (m2 := 0) (fun h _ => by cases h) (by simp only [S.see, Cmd.ex, Cmd.gain]; (first | lia | omega)) .refl (Nat.le_refl _) (Nat.le_refl _)
  | @lT e ts σ σ1 σ' r h _ _ ih1 ih2 =>
    intro w h3 p sl q fr pl hb hf _
    have st : Path base code 1 ⟨p, fr, σ.hd, σ.lg⟩ ⟨p + 1, fr, (σ.see e).hd, (σ.see e).lg⟩ := .one (Step.unlessT (st := ⟨p, fr, σ.hd, σ.lg⟩) pl.1 w.1 h)
    obtain ⟨n, fr', P, b, h31, s⟩ := ih1 w.2 h3 (p + 1) sl (p + 1 + ts.len) fr ⟨pl.2.1, rfl⟩ hb hf True.intro
    have R2 := ih2 w h31 p sl q fr' pl hb (by have := s.1; (first | lia | omega)) True.intro
    have P2 : Path base code (1 + n + 1) ⟨p, fr, σ.hd, σ.lg⟩ ⟨p, fr', σ1.hd, σ1.lg⟩ := (st.trans P).trans (.one (.jump pl.2.2))
    refine R2.glue P2 (m2 := 0) (fun _ _ => at_once) ?_ s (Nat.le_refl _) (Nat.le_refl _)
    simp only [S.see, Cmd.ex, Cmd.gain] at b ⊢; (first | lia | omega)
  | @n0 t σ =>
    intro w h3 p sl q fr pl hb hf f0
    exact ⟨1, fr, .one (Step.again0 (st := ⟨p, fr, σ.hd, σ.lg⟩) pl.1 f0), by simp only [Cmd.gain, Cmd.ex]; (first | lia | omega), h3, .refl⟩
  | @nF n t σ σ' _ ih =>
    intro w h3 p sl q fr pl hb hf f0
    have hf' : sl + (1 + t.slots) ≤ fr.length := hf
    have st : Path base code 1 ⟨p, fr, σ.hd, σ.lg⟩ ⟨p + 1, fr.set sl (.cnt n), σ.hd, σ.lg⟩ := .one (Step.againS (st := ⟨p, fr, σ.hd, σ.lg⟩) pl.1 hb f0)
    exact (ih ⟨w, True.intro⟩ h3 (p + 1) (sl + 1) (p + 1 + t.len) (fr.set sl (.cnt n)) ⟨⟨pl.2.1, True.intro⟩, rfl⟩ (by first | exact le1 hn rfl | exact le2 hn rfl | (first | lia | omega)) (by simp only [Cmd.slots, oneT, Ts.slots, List.length_set]; (first | lia | omega)) True.intro).glue st (m2 := 0) (fun h _ => by cases h) (by simp only [Cmd.ex, Cmd.gain]; (first | lia | omega)) (SameF.set (Nat.le_refl _) (by simp only [Cmd.slots]; (first | lia | omega))) (by first | exact le1 hn rfl | exact le2 hn rfl | (first | lia | omega)) (by simp only [Cmd.slots, oneT, Ts.slots]; (first | lia | omega))
  | @nT n t σ σ1 σ' r _ _ ih1 ih2 =>
    intro w h3 p sl q fr pl hb hf f0
    have hf' : sl + (1 + t.slots) ≤ fr.length := hf
    have st : Path base code 1 ⟨p, fr, σ.hd, σ.lg⟩ ⟨p + 1, fr.set sl (.cnt n), σ.hd, σ.lg⟩ := .one (Step.againS (st := ⟨p, fr, σ.hd, σ.lg⟩) pl.1 hb f0)
    obtain ⟨m, fr', P, b, h31, s⟩ := ih1 ⟨w, True.intro⟩ h3 (p + 1) (sl + 1) (p + 1 + t.len) (fr.set sl (.cnt n)) ⟨⟨pl.2.1, True.intro⟩, rfl⟩ (by first | exact le1 hn rfl | exact le2 hn rfl | (first | lia | omega)) (by simp only [Cmd.slots, oneT, Ts.slots, List.length_set]; (first | lia | omega)) True.intro
    have f1 : fr'[sl]? = some (.cnt n) := by rw [s.2 sl (.inl (by first | exact le1 hn rfl | exact le2 hn rfl | (first | lia | omega))), List.getElem?_set_self (by first | exact le1 hn rfl | exact le2 hn rfl | (first | lia | omega))]
    have fl : fr'.length = fr.length := by rw [s.1, List.length_set]
    have R2 := ih2 w h31 p sl q fr' pl hb (by simp only [Cmd.slots]; (first | lia | omega)) f1
    have P2 : Path base code (1 + m + 1) ⟨p, fr, σ.hd, σ.lg⟩ ⟨p, fr', σ1.hd, σ1.lg⟩ := (st.trans P).trans (.one (.jump pl.2.2))
    refine R2.glue P2 (m2 := 0) (fun _ _ => at_once) ?_ ((SameF.set (Nat.le_refl _) (by simp only [Cmd.slots]; (first | lia | omega))).trans (s.mono (by first | exact le1 hn rfl | exact le2 hn rfl | (first | lia | omega)) (by simp only [Cmd.slots, oneT, Ts.slots]; (first | lia | omega)))) (Nat.le_refl _) (Nat.le_refl _)
    simp only [Cmd.ex, Cmd.gain] at b ⊢; (first | lia | omega)
  | @eF t σ σ' _ ih =>
    intro w h3 p sl q fr pl hb hf _
    exact (ih ⟨w, True.intro⟩ h3 p sl (p + t.len) fr ⟨⟨pl.1, True.intro⟩, rfl⟩ hb hf True.intro).glue (n0 := 0) (m2 := 0) .refl (fun h _ => by cases h) (by simp only [Cmd.ex, Cmd.gain]; (first | lia | omega)) .refl (Nat.le_refl _) (Nat.le_refl _)
  | @eT t σ σ1 σ' r _ _ ih1 ih2 =>
    intro w h3 p sl q fr pl hb hf _
    obtain ⟨n, fr', P, b, h31, s⟩ := ih1 ⟨w, True.intro⟩ h3 p sl (p + t.len) fr ⟨⟨pl.1, True.intro⟩, rfl⟩ hb hf True.intro
    have R2 := ih2 w h31 p sl q fr' pl hb (by have := s.1; (first | lia | omega)) True.intro
    have P2 : Path base code (n + 1) ⟨p, fr, σ.hd, σ.lg⟩ ⟨p, fr', σ1.hd, σ1.lg⟩ := P.trans (.one (.jump pl.2))
    refine R2.glue P2 (m2 := 0) (fun _ _ => at_once) ?_ s (Nat.le_refl _) (Nat.le_refl _)
    simp only [Cmd.ex, Cmd.gain] at b ⊢; (first | lia | omega)
end Mine
namespace Mine
open PySem
variable {scr : List Int}
noncomputable def n1 (x : Bool) : Int := bif x then 1 else 0
noncomputable def n3 (x y z : Bool) : Int := n1 x + n1 y * 2 + n1 z * 4
theorem and1 : ∀ a x : Bool, Builtin.bitAnd (n1 a) (n1 x) = n1 (a && x) := by decide
theorem xor1 : ∀ a x : Bool, Builtin.bitXor (n1 a) (n1 x) = n1 (a ^^ x) := by decide
theorem and3 : ∀ a b c x y z : Bool, Builtin.bitAnd (n3 a b c) (n3 x y z) = n3 (a && x) (b && y) (c && z) := by decide +kernel
theorem or3 : ∀ a b c x y z : Bool, Builtin.bitOr (n3 a b c) (n3 x y z) = n3 (a || x) (b || y) (c || z) := by decide +kernel
theorem xor3 : ∀ a b c x y z : Bool, Builtin.bitXor (n3 a b c) (n3 x y z) = n3 (a ^^ x) (b ^^ y) (c ^^ z) := by decide +kernel
theorem zero1 : ∀ a : Bool, decide (n1 a = 0) = !a := by decide
theorem zero3 : ∀ a b c : Bool, decide (n3 a b c = 0) = !(a || (b || c)) := by decide
noncomputable def lo (a : Nat) : Bool := decide (a % 2 = 1)
noncomputable def hi (a : Nat) : Bool := decide (2 ≤ a)
theorem four {a : Nat} (h : a < 4) : a = 0 ∨ a = 1 ∨ a = 2 ∨ a = 3 := by (first | lia | omega)
noncomputable def avec : List Nat → V
  | [a] => .tup [.int 1, .int (n1 (lo a)), .int (n1 (hi a))]
  | [a, b, c] => .tup [.int 3, .int (n3 (lo a) (lo b) (lo c)), .int (n3 (hi a) (hi b) (hi c))]
  | _ => .none
theorem mask_ok {n : Nat} (hn : 1 ≤ n) {w : Nat} (hw : w = 1 ∨ w = 3) {H : Hp} {Q : V → Hp → Prop} (q : Q (.int (2 ^ w - 1)) H) : Cn scr n (.fn .mask) [.int w] H Q := by
  obtain ⟨m, rfl⟩ : ∃ m, n = m + 1 := ⟨n - 1, by (first | lia | omega)⟩
  refine ⟨rfl, ?_⟩
  rcases hw with rfl | rfl
  · repeat (first | refine guI True.intro ?_ | refine gnI ?_ | refine gtI ?_ | refine gsI rfl ?_)
    exact q
  · repeat (first | refine guI True.intro ?_ | refine gnI ?_ | refine gtI ?_ | refine gsI rfl ?_)
    exact q
theorem truth_gen {n : Nat} (hn : 2 ≤ n) {w : Nat} (hw : w = 1 ∨ w = 3) {A B : Int} {H : Hp} {Q : V → Hp → Prop}
    (q : ∀ x : Int, (x = 1 ↔ ¬ Builtin.bitAnd A (Builtin.bitXor B (2 ^ w - 1)) = 0) → Q (.int x) H) : Cn scr n (.fn .truth) [.tup [.int w, .int A, .int B]] H Q := by
  obtain ⟨m, rfl⟩ : ∃ m, n = m + 1 := ⟨n - 1, by (first | lia | omega)⟩
  refine ⟨rfl, ?_⟩
  repeat (first | refine guI True.intro ?_ | refine gnI ?_ | refine gtI ?_ | refine gsI rfl ?_)
  refine mask_ok (by first | exact le1 hn rfl | exact le2 hn rfl | (first | lia | omega)) hw ?_
  repeat (first | refine guI True.intro ?_ | refine gnI ?_ | refine gtI ?_ | refine gsI rfl ?_)
  conv => whnf
  cases e : decide (Builtin.bitAnd A (Builtin.bitXor B (2 ^ w - 1)) = 0)
  · have e := of_decide_eq_false e
    exact q 1 ⟨fun _ => e, fun _ => rfl⟩
  · have e := of_decide_eq_true e
    have no : ∀ x : Int, x ≠ 1 → Q (.int x) H := fun x hx => q x ⟨fun h => absurd h hx, fun h => absurd e h⟩
    repeat (first | refine guI True.intro ?_ | refine gnI ?_ | refine gtI ?_ | refine gsI rfl ?_)
    conv => whnf
    cases e1 : decide (A = 0)
    · repeat (first | refine guI True.intro ?_ | refine gnI ?_ | refine gtI ?_ | refine gsI rfl ?_)
      exact no 3 (by first | exact le1 hn rfl | exact le2 hn rfl | (first | lia | omega))
    · repeat (first | refine guI True.intro ?_ | refine gnI ?_ | refine gtI ?_ | refine gsI rfl ?_)
      conv => whnf
      cases e2 : decide (B = 0)
      · repeat (first | refine guI True.intro ?_ | refine gnI ?_ | refine gtI ?_ | refine gsI rfl ?_)
        exact no 3 (by first | exact le1 hn rfl | exact le2 hn rfl | (first | lia | omega))
      · exact no 0 (by first | exact le1 hn rfl | exact le2 hn rfl | (first | lia | omega))
theorem bit_one {a : Nat} (h : a < 4) : (lo a && (hi a ^^ true)) = decide (a = 1) := by
  rcases four h with rfl | rfl | rfl | rfl <;> rfl
theorem truth_ok {n : Nat} (hn : 2 ≤ n) {row : List Nat} (hr : Row3 row ∨ ∃ a, a < 4 ∧ row = [a]) {H : Hp} {Q : V → Hp → Prop} (q : ∀ x : Int, (x = 1 ↔ 1 ∈ row) → Q (.int x) H) : Cn scr n (.fn .truth) [avec row] H Q := by
  rcases hr with ⟨a, b, c, rfl, ha, hb, hc⟩ | ⟨a, ha, rfl⟩
  · refine truth_gen (w := 3) hn (.inr rfl) fun x hx => q x (hx.trans ?_)
    have e : ((2 : Int) ^ 3 - 1) = n3 true true true := rfl
    rw [e, xor3, and3, bit_one ha, bit_one hb, bit_one hc]
    have z := zero3 (decide (a = 1)) (decide (b = 1)) (decide (c = 1))
    constructor
    · intro h
      have : decide (n3 (decide (a = 1)) (decide (b = 1)) (decide (c = 1)) = 0) = false := decide_eq_false h
      rw [z] at this
      simp at this
      simp; (first | lia | omega)
    · intro h h2
      have : decide (n3 (decide (a = 1)) (decide (b = 1)) (decide (c = 1)) = 0) = true := decide_eq_true h2
      rw [z] at this
      simp at this h
      (first | lia | omega)
  · refine truth_gen (w := 1) hn (.inl rfl) fun x hx => q x (hx.trans ?_)
    have e : ((2 : Int) ^ 1 - 1) = n1 true := rfl
    rw [e, xor1, and1, bit_one ha]
    have z := zero1 (decide (a = 1))
    constructor
    · intro h
      have : decide (n1 (decide (a = 1)) = 0) = false := decide_eq_false h
      rw [z] at this
      simp at this
      simp; (first | lia | omega)
    · intro h h2
      have : decide (n1 (decide (a = 1)) = 0) = true := decide_eq_true h2
      rw [z] at this
      simp at this h
      (first | lia | omega)
noncomputable def freeOf (k : Tg) (U1 U2 V1 V2 : Int) : Int := match k with
  | .kCasez => Builtin.bitOr (Builtin.bitAnd U2 (Builtin.bitXor U2 U1)) (Builtin.bitAnd V2 (Builtin.bitXor V2 V1))
  | .kCasex => Builtin.bitOr U2 V2
  | _ => 0
theorem matches_gen {n : Nat} (hn : 2 ≤ n) {k : Tg} (hk : isKind k) {U1 U2 V1 V2 : Int} {H : Hp} {Q : V → Hp → Prop}
    (q : ∀ F, F = freeOf k U1 U2 V1 V2 → ∀ b, decide (Builtin.bitAnd (Builtin.bitXor U1 V1) (Builtin.bitXor (2 ^ 3 - 1) F) = 0) = b → ∀ b2, decide (Builtin.bitAnd (Builtin.bitXor U2 V2) (Builtin.bitXor (2 ^ 3 - 1) F) = 0) = b2 → Q (.bool (b && b2)) H) :
    Cn scr n (.fn .matches) [.str k, .tup [.int 3, .int U1, .int U2], .tup [.int 3, .int V1, .int V2]] H Q := by
  obtain ⟨m, rfl⟩ : ∃ m, n = m + 1 := ⟨n - 1, by (first | lia | omega)⟩
  rcases hk with rfl | rfl | rfl
  all_goals
    refine ⟨rfl, ?_⟩
    repeat ((conv => whnf); first | refine ⟨ne_of_ok True.intro, ?_⟩ | refine ⟨Int.natCast_nonneg _, ?_⟩ | refine ⟨True.intro, ?_⟩ | refine ⟨(rfl : small _ = true), ?_⟩)
    refine mask_ok (w := 3) (by first | exact le1 hn rfl | exact le2 hn rfl | (first | lia | omega)) (.inr rfl) ?_
    repeat ((conv => whnf); first | refine ⟨ne_of_ok True.intro, ?_⟩ | refine ⟨Int.natCast_nonneg _, ?_⟩ | refine ⟨True.intro, ?_⟩ | refine ⟨(rfl : small _ = true), ?_⟩)
    conv => whnf
  · have q := q (0) rfl
    cases e : decide (Builtin.bitAnd (Builtin.bitXor U1 V1) (Builtin.bitXor (2 ^ 3 - 1) (0)) = 0)
    · exact q _ e _ rfl
    · have q := q _ e
      repeat ((conv => whnf); first | refine ⟨ne_of_ok True.intro, ?_⟩ | refine ⟨Int.natCast_nonneg _, ?_⟩ | refine ⟨True.intro, ?_⟩ | refine ⟨(rfl : small _ = true), ?_⟩)
      cases e2 : decide (Builtin.bitAnd (Builtin.bitXor U2 V2) (Builtin.bitXor (2 ^ 3 - 1) (0)) = 0)
      · have q := q _ e2
        conv => whnf
        rw [e2]
        exact q
      · have q := q _ e2
        conv => whnf
        rw [e2]
        exact q
  · have q := q (Builtin.bitOr (Builtin.bitAnd U2 (Builtin.bitXor U2 U1)) (Builtin.bitAnd V2 (Builtin.bitXor V2 V1))) rfl
    cases e : decide (Builtin.bitAnd (Builtin.bitXor U1 V1) (Builtin.bitXor (2 ^ 3 - 1) (Builtin.bitOr (Builtin.bitAnd U2 (Builtin.bitXor U2 U1)) (Builtin.bitAnd V2 (Builtin.bitXor V2 V1)))) = 0)
    · exact q _ e _ rfl
    · have q := q _ e
      repeat ((conv => whnf); first | refine ⟨ne_of_ok True.intro, ?_⟩ | refine ⟨Int.natCast_nonneg _, ?_⟩ | refine ⟨True.intro, ?_⟩ | refine ⟨(rfl : small _ = true), ?_⟩)
      cases e2 : decide (Builtin.bitAnd (Builtin.bitXor U2 V2) (Builtin.bitXor (2 ^ 3 - 1) (Builtin.bitOr (Builtin.bitAnd U2 (Builtin.bitXor U2 U1)) (Builtin.bitAnd V2 (Builtin.bitXor V2 V1)))) = 0)
      · have q := q _ e2
        conv => whnf
        rw [e2]
        exact q
      · have q := q _ e2
        conv => whnf
        rw [e2]
        exact q
  · have q := q (Builtin.bitOr U2 V2) rfl
    cases e : decide (Builtin.bitAnd (Builtin.bitXor U1 V1) (Builtin.bitXor (2 ^ 3 - 1) (Builtin.bitOr U2 V2)) = 0)
    · exact q _ e _ rfl
    · have q := q _ e
      repeat ((conv => whnf); first | refine ⟨ne_of_ok True.intro, ?_⟩ | refine ⟨Int.natCast_nonneg _, ?_⟩ | refine ⟨True.intro, ?_⟩ | refine ⟨(rfl : small _ = true), ?_⟩)
      cases e2 : decide (Builtin.bitAnd (Builtin.bitXor U2 V2) (Builtin.bitXor (2 ^ 3 - 1) (Builtin.bitOr U2 V2)) = 0)
      · have q := q _ e2
        conv => whnf
        rw [e2]
        exact q
      · have q := q _ e2
        conv => whnf
        rw [e2]
        exact q
noncomputable def freeB (k : Tg) (a x : Nat) : Bool := match k with
  | .kCasez => (hi a && (hi a ^^ lo a)) || (hi x && (hi x ^^ lo x))
  | .kCasex => hi a || hi x
  | _ => false
theorem free_eq {k : Tg} (hk : isKind k) {a b c x y z : Nat} : freeOf k (n3 (lo a) (lo b) (lo c)) (n3 (hi a) (hi b) (hi c)) (n3 (lo x) (lo y) (lo z)) (n3 (hi x) (hi y) (hi z)) = n3 (freeB k a x) (freeB k b y) (freeB k c z) := by
  rcases hk with rfl | rfl | rfl
  · rfl
  · simp only [freeOf, xor3, and3, or3, freeB]
  · simp only [freeOf, or3, freeB]
theorem pair_bit {k : Tg} (hk : isKind k) {a x : Nat} (ha : a < 4) (hx : x < 4) : (((lo a ^^ lo x) && (true ^^ freeB k a x)) || ((hi a ^^ hi x) && (true ^^ freeB k a x))) = !pairOk k a x := by
  rcases hk with rfl | rfl | rfl <;> rcases four ha with rfl | rfl | rfl | rfl <;> rcases four hx with rfl | rfl | rfl | rfl <;> rfl
theorem matches_ok {n : Nat} (hn : 2 ≤ n) {k : Tg} (hk : isKind k) {r o : List Nat} (hr : Row3 r) (ho : Row3 o) {H : Hp} {Q : V → Hp → Prop} (q : Q (.bool (alike k r o)) H) : Cn scr n (.fn .matches) [.str k, avec r, avec o] H Q := by
  obtain ⟨a, b, c, rfl, ha, hb, hc⟩ := hr
  obtain ⟨x, y, z, rfl, hx, hy, hz⟩ := ho
  refine matches_gen hn hk fun F eF b eb b2 eb2 => ?_
  subst eb
  subst eb2
  subst eF
  have e7 : ((2 : Int) ^ 3 - 1) = n3 true true true := rfl
  rw [free_eq hk, e7, xor3, xor3, xor3, and3, and3, zero3, zero3]
  have p1 := pair_bit hk ha hx
  have p2 := pair_bit hk hb hy
  have p3 := pair_bit hk hc hz
  have e : alike k [a, b, c] [x, y, z] = (pairOk k a x && (pairOk k b y && (pairOk k c z && true))) := rfl
  rw [e] at q
  have e2 : ∀ p p' q q' r r' s t u : Bool, (p || p') = !s → (q || q') = !t → (r || r') = !u → ((!(p || (q || r))) && (!(p' || (q' || r')))) = (s && (t && (u && true))) := by decide +kernel
  rw [e2 _ _ _ _ _ _ _ _ _ p1 p2 p3]
  exact q
theorem toInt_gen {n : Nat} (hn : 1 ≤ n) {sg : Bool} {A B : Int} {H : Hp} {Q : V → Hp → Prop} (q : Q (if B = 0 then (if sg = true ∧ A.fdiv 4 = 1 then .int (A - 8) else .int A) else .none) H) : Cn scr n (.fn .toInt) [.tup [.int 3, .int A, .int B], .bool sg] H Q := by
  obtain ⟨m, rfl⟩ : ∃ m, n = m + 1 := ⟨n - 1, by (first | lia | omega)⟩
  refine ⟨rfl, ?_⟩
  repeat ((conv => whnf); first | refine ⟨ne_of_ok True.intro, ?_⟩ | refine ⟨Int.natCast_nonneg _, ?_⟩ | refine ⟨True.intro, ?_⟩ | refine ⟨(rfl : small _ = true), ?_⟩)
  conv => whnf
  cases e : decide (B = 0)
  · have e := of_decide_eq_false e
    rw [if_neg e] at q
    exact q
  · have e := of_decide_eq_true e
    rw [if_pos e] at q
    cases sg with
    | false =>
      rw [if_neg (by simp)] at q
      repeat ((conv => whnf); first | refine ⟨ne_of_ok True.intro, ?_⟩ | refine ⟨Int.natCast_nonneg _, ?_⟩ | refine ⟨True.intro, ?_⟩ | refine ⟨(rfl : small _ = true), ?_⟩)
      exact q
    | true =>
      repeat ((conv => whnf); first | refine ⟨ne_of_ok True.intro, ?_⟩ | refine ⟨Int.natCast_nonneg _, ?_⟩ | refine ⟨True.intro, ?_⟩ | refine ⟨(rfl : small _ = true), ?_⟩)
      conv => whnf
      cases e2 : decide (A.fdiv (2 ^ ((3 : Int) - 1).toNat) = 1)
      · have e2 := of_decide_eq_false e2
        rw [if_neg (fun h => e2 h.2)] at q
        repeat ((conv => whnf); first | refine ⟨ne_of_ok True.intro, ?_⟩ | refine ⟨Int.natCast_nonneg _, ?_⟩ | refine ⟨True.intro, ?_⟩ | refine ⟨(rfl : small _ = true), ?_⟩)
        exact q
      · have e2 := of_decide_eq_true e2
        rw [if_pos ⟨rfl, e2⟩] at q
        repeat ((conv => whnf); first | refine ⟨ne_of_ok True.intro, ?_⟩ | refine ⟨Int.natCast_nonneg _, ?_⟩ | refine ⟨True.intro, ?_⟩ | refine ⟨(rfl : small _ = true), ?_⟩)
        exact q
theorem lo2 {a : Nat} (h : a < 2) : n1 (lo a) = a ∧ hi a = false := by
  rcases (show a = 0 ∨ a = 1 by (first | lia | omega)) with rfl | rfl
  · exact ⟨rfl, rfl⟩
  · exact ⟨rfl, rfl⟩
theorem hi_no {a : Nat} (h : hi a = false) : a < 2 := Nat.lt_of_not_le (of_decide_eq_false h)
theorem toInt_ok {n : Nat} (hn : 1 ≤ n) {sg : Bool} {row : List Nat} (hr : Row3 row) {H : Hp} {Q : V → Hp → Prop} (q : ∀ v, (v = V.none ∧ cnt row sg = 0) ∨ (∃ i : Int, v = .int i ∧ max i 0 = (cnt row sg : Nat)) → Q v H) : Cn scr n (.fn .toInt) [avec row, .bool sg] H Q := by
  obtain ⟨a, b, c, rfl, ha, hb, hc⟩ := hr
  refine toInt_gen hn ?_
  by_cases hw : a < 2 ∧ b < 2 ∧ c < 2
  · obtain ⟨h1, h2, h3⟩ := hw
    rw [(lo2 h1).2, (lo2 h2).2, (lo2 h3).2, if_pos (show n3 false false false = 0 from rfl)]
    have eA : n3 (lo a) (lo b) (lo c) = (a : Int) + b * 2 + c * 4 := by unfold n3; rw [(lo2 h1).1, (lo2 h2).1, (lo2 h3).1]
    have ef : ((a : Int) + b * 2 + c * 4).fdiv 4 = c := by
      rw [Int.fdiv_eq_ediv_of_nonneg _ (by decide)]
      clear eA q ha hb hc
      (first | lia | omega)
    have ew : wide [a, b, c] = false := by simp [wide, Nat.le_of_lt_succ h1, Nat.le_of_lt_succ h2, Nat.le_of_lt_succ h3]
    rw [eA, ef]
    have ec : cnt [a, b, c] sg = if sg && decide (c = 1) then 0 else total [a, b, c] := by unfold cnt; rw [ew]; rfl
    cases sg with
    | false =>
      rw [if_neg (fun h => Bool.false_ne_true h.1)]
      refine q _ (.inr ⟨_, rfl, ?_⟩)
      rw [ec]
      show max ((a : Int) + b * 2 + c * 4) 0 = ((a + 2 * b + 4 * c : Nat) : Int)
      clear ec ef eA q
      (first | lia | omega)
    | true =>
      by_cases hc1 : c = 1
      · subst hc1
        rw [if_pos ⟨rfl, rfl⟩]
        refine q _ (.inr ⟨_, rfl, ?_⟩)
        rw [ec]
        show max ((a : Int) + b * 2 + (1 : Nat) * 4 - 8) 0 = ((0 : Nat) : Int)
        clear ec ef eA q
        (first | lia | omega)
      · rw [if_neg (fun h => hc1 (Int.ofNat.inj h.2))]
        refine q _ (.inr ⟨_, rfl, ?_⟩)
        rw [ec, decide_eq_false hc1]
        show max ((a : Int) + b * 2 + c * 4) 0 = ((a + 2 * b + 4 * c : Nat) : Int)
        clear ec ef eA q
        (first | lia | omega)
  · have z := zero3 (hi a) (hi b) (hi c)
    have hB : ¬ n3 (hi a) (hi b) (hi c) = 0 := fun e => by
      rw [decide_eq_true e] at z
      cases h1 : hi a <;> cases h2 : hi b <;> cases h3 : hi c <;> first | exact hw ⟨hi_no h1, hi_no h2, hi_no h3⟩ | (rw [h1, h2, h3] at z; cases z)
    rw [if_neg hB]
    refine q _ (.inl ⟨rfl, ?_⟩)
    have : wide [a, b, c] = true := by
      cases h : wide [a, b, c]
      · refine absurd ?_ hw
        simp [wide] at h
        exact ⟨Nat.lt_succ_of_le h.1, Nat.lt_succ_of_le h.2.1, Nat.lt_succ_of_le h.2.2⟩
      · rfl
    simp only [cnt, this, if_true]
end Mine
namespace Mine
open PySem
variable {scr : List Int}
noncomputable def b_vec : Ss := match t_vector with | .cons _ (.cons _ (.cons _ (.cons _ (.cons (.forR _ _ b) _)))) => b | _ => .nil
theorem vec_step {C : CallP} {t e hh ll : V} {j p a : Nat} {A B : Int} {l : List V} {H : Hp} {K : Fl → List V → Hp → Prop} (hj : H[j]? = some (.list l)) (hp : p < 3) (hl : pyGet l p = some (.int a)) (ha : a < 4)
    (q : K .next [t, e, .obj j, .int (A + n1 (lo a) * 2 ^ p), .int (B + n1 (hi a) * 2 ^ p), .int p, hh, ll] H) : wpSs C scr b_vec [t, e, .obj j, .int A, .int B, .int p, hh, ll] H K := by
  have hs : small (p : Int) = true := small_nat (Nat.lt_trans hp (by decide))
  have e1 : (a : Int).fmod 2 = n1 (lo a) := by rcases four ha with rfl | rfl | rfl | rfl <;> rfl
  have e2 : (a : Int).fdiv 2 = n1 (hi a) := by rcases four ha with rfl | rfl | rfl | rfl <;> rfl
  have sm : ∀ x : Bool, small (n1 x) = true := by intro x; cases x <;> rfl
  have sh : ∀ x : Bool, binI .shl (n1 x) (p : Int) = some (n1 x * 2 ^ p) := fun x => by
    show (if 0 ≤ (p : Int) ∧ (p : Int) ≤ 1000 ∧ small (n1 x) = true then some (n1 x * 2 ^ ((p : Int)).toNat) else none) = _
    rw [if_pos ⟨Int.natCast_nonneg _, by (first | lia | omega), sm x⟩, Int.toNat_natCast]
  repeat (first | refine guI True.intro ?_ | refine insI hj ?_ | refine lisI hj ?_ | refine cloI hj ?_ | refine optI hj ?_ | refine insI hl ?_ | refine lisI hl ?_ | refine cloI hl ?_ | refine optI hl ?_ | refine gnI ?_ | refine gtI ?_ | refine gsI rfl ?_ | ((conv => whnf); first | rw [hj] | rw [hl] ))
  refine ⟨hs, ?_⟩
  repeat (first | refine guI True.intro ?_ | refine gnI ?_ | refine gtI ?_ | refine gsI rfl ?_)
  conv => whnf
  rw [e1, sh]
  refine ⟨.inl rfl, ?_⟩
  repeat (first | refine guI True.intro ?_ | refine insI hj ?_ | refine lisI hj ?_ | refine cloI hj ?_ | refine optI hj ?_ | refine insI hl ?_ | refine lisI hl ?_ | refine cloI hl ?_ | refine optI hl ?_ | refine gnI ?_ | refine gtI ?_ | refine gsI rfl ?_ | ((conv => whnf); first | rw [hj] | rw [hl] ))
  refine ⟨hs, ?_⟩
  repeat (first | refine guI True.intro ?_ | refine gnI ?_ | refine gtI ?_ | refine gsI rfl ?_)
  conv => whnf
  rw [e2, sh]
  refine ⟨.inl rfl, ?_⟩
  exact q
theorem vec3 (a b c : Bool) : (0 : Int) + n1 a * 2 ^ 0 + n1 b * 2 ^ 1 + n1 c * 2 ^ 2 = n3 a b c := by
  unfold n3
  have e1 : (2 : Int) ^ 0 = 1 := rfl
  have e2 : (2 : Int) ^ 1 = 2 := rfl
  have e3 : (2 : Int) ^ 2 = 4 := rfl
  rw [e1, e2, e3]; (first | lia | omega)
theorem vec1 (a : Bool) : (0 : Int) + n1 a * 2 ^ 0 = n1 a := by
  have e1 : (2 : Int) ^ 0 = 1 := rfl
  rw [e1]; (first | lia | omega)
noncomputable def t_vec2 : Ss := match t_vector with | .cons _ r => r | _ => .nil
theorem vec_word {n : Nat} (hn : 2 ≤ n) {h lg : Nat} {th : V} {hd : Nat → List Nat} {e : X} {L : List (X × List Nat)} {H : Hp} {Q : V → Hp → Prop} (he : e.fit) (hh : HeldAt H h hd)
    (hl : H[lg]? = some (.list (L.map entV))) (hL : L.length ≤ 100000) (hr : Row3 (e.codes hd) ∨ ∃ a, a < 4 ∧ e.codes hd = [a])
    (q : ∀ H', Up [lg] H H' → H'[lg]? = some (.list ((L ++ e.logs hd).map entV)) → Q (avec (e.codes hd)) H') :
    wpSs (Cn scr n) scr t_vec2 [th, e.v, .und, .und, .und, .und, .obj h, .obj lg] H (bodyQ Q) := by
  refine ⟨ne_of_ok (X.v_ok e), ne_of_ok True.intro, ne_of_ok True.intro, ?_⟩
  refine seen_ok hn he hh hl hL fun j H' u hj hrow hlog => ?_
  have q := q H' u hlog
  rcases hr with ⟨a, b, c, er, ha, hb, hc⟩ | ⟨a, ha, er⟩
  · rw [er] at hrow q
    have hr' : H'[j]? = some (.list [.int a, .int b, .int c]) := hrow
    repeat (first | refine guI True.intro ?_ | refine insI hr' ?_ | refine lisI hr' ?_ | refine cloI hr' ?_ | refine optI hr' ?_ | refine gnI ?_ | refine gtI ?_ | refine gsI rfl ?_ | ((conv => whnf); first | rw [hr'] ))
    refine ⟨by simp, ?_⟩
    conv => whnf
    refine ⟨by simp, by simp, True.intro, ?_⟩
    refine vec_step hr' (p := 0) (by first | exact le1 hn rfl | exact le2 hn rfl | (first | lia | omega)) rfl ha ?_
    refine ⟨True.intro, ?_⟩
    refine vec_step hr' (p := 1) (by first | exact le1 hn rfl | exact le2 hn rfl | (first | lia | omega)) rfl hb ?_
    refine ⟨True.intro, ?_⟩
    refine vec_step hr' (p := 2) (by first | exact le1 hn rfl | exact le2 hn rfl | (first | lia | omega)) rfl hc ?_
    refine ⟨True.intro, ?_⟩
    rw [vec3, vec3]
    repeat (first | refine guI True.intro ?_ | refine insI hr' ?_ | refine lisI hr' ?_ | refine cloI hr' ?_ | refine optI hr' ?_ | refine gnI ?_ | refine gtI ?_ | refine gsI rfl ?_ | ((conv => whnf); first | rw [hr'] ))
    refine ⟨by simp, ?_⟩
    repeat (first | refine guI True.intro ?_ | refine gnI ?_ | refine gtI ?_ | refine gsI rfl ?_)
    exact q
  · rw [er] at hrow q
    have hr' : H'[j]? = some (.list [.int a]) := hrow
    repeat (first | refine guI True.intro ?_ | refine insI hr' ?_ | refine lisI hr' ?_ | refine cloI hr' ?_ | refine optI hr' ?_ | refine gnI ?_ | refine gtI ?_ | refine gsI rfl ?_ | ((conv => whnf); first | rw [hr'] ))
    refine ⟨by simp, ?_⟩
    conv => whnf
    refine ⟨by simp, by simp, True.intro, ?_⟩
    refine vec_step hr' (p := 0) (by first | exact le1 hn rfl | exact le2 hn rfl | (first | lia | omega)) rfl ha ?_
    refine ⟨True.intro, ?_⟩
    rw [vec1, vec1]
    repeat (first | refine guI True.intro ?_ | refine insI hr' ?_ | refine lisI hr' ?_ | refine cloI hr' ?_ | refine optI hr' ?_ | refine gnI ?_ | refine gtI ?_ | refine gsI rfl ?_ | ((conv => whnf); first | rw [hr'] ))
    refine ⟨by simp, ?_⟩
    repeat (first | refine guI True.intro ?_ | refine gnI ?_ | refine gtI ?_ | refine gsI rfl ?_)
    exact q
noncomputable def FV.v : FV → V
  | .kept => .str .kKept
  | .none => .none
  | .vec r => avec r
  | .cnt n => .int n
noncomputable def thF (c pc fr x1 x2 x3 : Nat) : List (At × V) := [(.number, .int 0), (.code, .obj c), (.pc, .int pc), (.frame, .obj fr), (.path, .str .kTop), (.calls, .obj x1), (.scopes, .obj x2), (.parent, .int (-1)), (.children, .obj x3), (.done, .bool false), (.wait, .none), (.stamp, .int 0), (.looking, .bool false), (.again, .bool false)]
structure Ad where
  H0 : Hp
  m : Nat
  c : Nat
  h : Nat
  lg : Nat
  f : Nat
  ho : Nat
  th : Nat
  fr : Nat
  x1 : Nat
  x2 : Nat
  x3 : Nat
noncomputable def Ad.W (a : Ad) : List Nat := [a.th, a.fr, a.h, a.lg]
theorem an_step {H0 H H' : Hp} {h lg i : Nat} (x : Up [h, lg] H0 H) (u : Up [i] H H') (hi : i = h ∨ i = lg ∨ H0.length ≤ i) : Up [h, lg] H0 H' :=
  ⟨Nat.le_trans x.1 u.1, fun j o hj hw => u.2 j o (x.2 j o hj hw) (by
    have := lt_at hj
    simp only [List.mem_cons, List.not_mem_nil, or_false, not_or] at hw ⊢
    (first | lia | omega))⟩
structure VA (H : Hp) (a : Ad) (base : Nat) (R : List Rw) (sl : Nat) (st : VS) : Prop where
  mkr : MK H a.m a.c R sl
  held : Held [a.th, a.fr, a.lg] H a.h st.hd
  lo : H[a.lg]? = some (.list (st.lg.map entV))
  cl : H[a.f]? = some (.clo (.obj a.h) (.obj a.lg))
  hos : ∃ gs, H[a.ho]? = some (.inst .thread gs) ∧ lookF .evaluateIn gs = some (.obj a.f)
  thr : H[a.th]? = some (.inst .thread (thF a.c st.pc a.fr a.x1 a.x2 a.x3))
  frm : H[a.fr]? = some (.list (st.fr.map FV.v))
  nm : a.m ∉ a.W
  nc : a.c ∉ a.W
  nf : a.f ∉ a.W
  nh : a.ho ∉ a.W
  n1 : a.fr ≠ a.lg
  kept : st.fr.take base = List.replicate base .kept
  b1 : R.length ≤ 4100
  b2 : st.fr.length ≤ 5000
  b3 : base ≤ 100
  an : Up [a.h, a.lg] a.H0 H
  l1 : a.H0.length ≤ a.th
  l2 : a.H0.length ≤ a.fr
theorem VA.n2 {H : Hp} {a : Ad} {base sl : Nat} {R : List Rw} {st : VS} (Z : VA H a base R sl st) : a.th ≠ a.fr := by
  intro e
  have h1 := Z.thr
  have h2 := Z.frm
  rw [e, h2] at h1
  cases h1
theorem VA.n3 {H : Hp} {a : Ad} {base sl : Nat} {R : List Rw} {st : VS} (Z : VA H a base R sl st) : a.th ≠ a.lg := by
  intro e
  have h1 := Z.thr
  have h2 := Z.lo
  rw [e, h2] at h1
  cases h1
theorem VA.log {H H' : Hp} {a : Ad} {base sl : Nat} {R : List Rw} {st : VS} {L : List (X × List Nat)} (Z : VA H a base R sl st) (u : Up [a.lg] H H') (h : H'[a.lg]? = some (.list (L.map entV))) : VA H' a base R sl { st with lg := L } := by
  have lf : ∀ j, j ∉ a.W → j ∉ [a.lg] := fun j hj m => hj (by simp [Ad.W] at *; (first | lia | omega))
  obtain ⟨gs, g1, g2⟩ := Z.hos
  exact ⟨Z.mkr.up u (lf _ Z.nm) (lf _ Z.nc), Z.held.up (u.mono (by simp)), h, u.2 _ _ Z.cl (lf _ Z.nf), ⟨gs, u.2 _ _ g1 (lf _ Z.nh), g2⟩, u.2 _ _ Z.thr (by simp [Z.n3]), u.2 _ _ Z.frm (by simp [Z.n1]), Z.nm, Z.nc, Z.nf, Z.nh, Z.n1, Z.kept, Z.b1, Z.b2, Z.b3, an_step Z.an u (.inr (.inl rfl)), Z.l1, Z.l2⟩
theorem VA.more {H : Hp} {a : Ad} {base sl : Nat} {R : List Rw} {st : VS} {l : Hp} (Z : VA H a base R sl st) : VA (H ++ l) a base R sl st := by
  have := Z.log (Up.app (l := l)) (at_add Z.lo)
  exact this
theorem VA.jump {H : Hp} {a : Ad} {base sl : Nat} {R : List Rw} {st : VS} {pc : Nat} (Z : VA H a base R sl st) : VA (H.set a.th (.inst .thread (thF a.c pc a.fr a.x1 a.x2 a.x3))) a base R sl { st with pc := pc } := by
  have u : Up [a.th] H (H.set a.th (.inst .thread (thF a.c pc a.fr a.x1 a.x2 a.x3))) := Up.set (by simp)
  have lf : ∀ j, j ∉ a.W → j ∉ [a.th] := fun j hj m => hj (by simp [Ad.W] at *; (first | lia | omega))
  obtain ⟨gs, g1, g2⟩ := Z.hos
  exact ⟨Z.mkr.up u (lf _ Z.nm) (lf _ Z.nc), Z.held.up (u.mono (by simp)), u.2 _ _ Z.lo (by simp; exact Ne.symm Z.n3), u.2 _ _ Z.cl (lf _ Z.nf), ⟨gs, u.2 _ _ g1 (lf _ Z.nh), g2⟩, at_set_self Z.thr, u.2 _ _ Z.frm (by simp; exact Ne.symm Z.n2), Z.nm, Z.nc, Z.nf, Z.nh, Z.n1, Z.kept, Z.b1, Z.b2, Z.b3, an_step Z.an u (.inr (.inr Z.l1)), Z.l1, Z.l2⟩
theorem VA.frame {H : Hp} {a : Ad} {base sl i : Nat} {R : List Rw} {st : VS} {v : FV} (Z : VA H a base R sl st) (hi : base ≤ i) : VA (H.set a.fr (.list ((st.fr.map FV.v).set i v.v))) a base R sl { st with fr := st.fr.set i v } := by
  have u : Up [a.fr] H (H.set a.fr (.list ((st.fr.map FV.v).set i v.v))) := Up.set (by simp)
  have lf : ∀ j, j ∉ a.W → j ∉ [a.fr] := fun j hj m => hj (by simp [Ad.W] at *; (first | lia | omega))
  obtain ⟨gs, g1, g2⟩ := Z.hos
  exact ⟨Z.mkr.up u (lf _ Z.nm) (lf _ Z.nc), Z.held.up (u.mono (by simp)), u.2 _ _ Z.lo (by simp; exact Ne.symm Z.n1), u.2 _ _ Z.cl (lf _ Z.nf), ⟨gs, u.2 _ _ g1 (lf _ Z.nh), g2⟩, u.2 _ _ Z.thr (by simp [Z.n2]), by rw [at_set_self Z.frm, List.map_set], Z.nm, Z.nc, Z.nf, Z.nh, Z.n1, by
    show (st.fr.set i v).take base = _
    rw [List.take_set_of_le hi]; exact Z.kept, Z.b1, by simp; exact Z.b2, Z.b3, an_step Z.an u (.inr (.inr Z.l2)), Z.l1, Z.l2⟩
theorem VA.hd3 {H : Hp} {a : Ad} {base sl : Nat} {R : List Rw} {st : VS} (Z : VA H a base R sl st) : Hd3 st.hd := fun s hs => Z.held.row hs
noncomputable def SrcRow (st : VS) (s : Src) (row : List Nat) : Prop := match s with
  | .word e => e.fit ∧ row = e.codes st.hd
  | .loc sl => st.fr[sl]? = some (.vec row)
noncomputable def Src.logs (st : VS) : Src → List (X × List Nat)
  | .word e => e.logs st.hd
  | .loc _ => []
theorem fit_row {e : X} {hd : Nat → List Nat} (he : e.fit) (h3 : Hd3 hd) : Row3 (e.codes hd) ∨ ∃ a, a < 4 ∧ e.codes hd = [a] := he.elim (fun w => .inl (word_row w h3)) fun t => test_row t h3
theorem pyGet_fr {st : VS} {sl : Nat} {v : FV} (h : st.fr[sl]? = some v) : pyGet (st.fr.map FV.v) (sl : Int) = some v.v := by
  unfold pyGet
  rw [if_pos (Int.natCast_nonneg _), Int.toNat_natCast, List.getElem?_map, h]; rfl
theorem eval_ok {n : Nat} (hn : 3 ≤ n) {H : Hp} {a : Ad} {base sl : Nat} {R : List Rw} {st : VS} (Z : VA H a base R sl st) {s : Src} {row : List Nat} (hs : SrcRow st s row) (hL : st.lg.length ≤ 90000) {Q : V → Hp → Prop}
    (q : ∀ H', VA H' a base R sl { st with lg := st.lg ++ s.logs st } → Up [a.lg] H H' → Q (avec row) H') : Cn scr n (.clo a.f) [.obj a.th, s.v] H Q := by
  obtain ⟨m, rfl⟩ : ∃ m, n = m + 1 := ⟨n - 1, by (first | lia | omega)⟩
  have hc := Z.cl
  have h1 := Z.thr
  have h2 := Z.frm
  show clo2K H[a.f]? fun x y => twoK [V.obj a.th, s.v] fun t e => wpSs (Cn scr m) scr t_vector [t, e, .und, .und, .und, .und, x, y] H (bodyQ Q)
  rw [hc]
  show wpSs (Cn scr m) scr t_vector [.obj a.th, s.v, .und, .und, .und, .und, .obj a.h, .obj a.lg] H (bodyQ Q)
  cases s with
  | loc i =>
    have h3 := pyGet_fr hs
    have hi := (List.getElem?_eq_some_iff.mp hs).1
    have b2 := Z.b2
    refine if_take (t := .cons (.ret (.idx (.att (.loc 0) .frame) (.idx (.loc 1) (.cI 2)))) .nil) (fun Q q => ?_) ?_
    · repeat (first | refine guI True.intro ?_ | refine gnI ?_ | refine gtI ?_ | refine gsI rfl ?_)
      exact q
    · have q := q H (by simpa [Src.logs] using Z) .refl
      refine ⟨ne_of_ok True.intro, ?_⟩
      first | refine insI (h1) ?_ | refine lisI (h1) ?_ | ((conv => whnf); rw [h1])
      conv => whnf
      refine ⟨ne_of_ok True.intro, rfl, ?_⟩
      first | refine insI (h2) ?_ | refine lisI (h2) ?_ | ((conv => whnf); rw [h2])
      first | refine insI (h3) ?_ | refine lisI (h3) ?_ | ((conv => whnf); rw [h3])
      exact ⟨Int.natCast_nonneg _, small_nat (by first | exact le1 hn rfl | exact le2 hn rfl | (first | lia | omega)), q⟩
  | word e =>
    have key := vec_word (scr := scr) (n := m) (th := .obj a.th) (Q := Q) (by first | exact le1 hn rfl | exact le2 hn rfl | (first | lia | omega)) hs.1 Z.held.at Z.lo (by first | exact le1 hn rfl | exact le2 hn rfl | (first | lia | omega)) (fit_row hs.1 Z.hd3) fun H' u hl => by
      have := q H' (Z.log u hl) u
      rw [hs.2] at this
      exact this
    refine if_skip (fun Q' q' => ?_) key
    clear q
    cases e <;>
    · repeat (first | refine guI True.intro ?_ | refine gnI ?_ | refine gtI ?_ | refine gsI rfl ?_)
      exact q'
end Mine
namespace Mine
open PySem
variable {scr : List Int}
noncomputable def Rw.flow : Rw → Bool
  | .set _ _ => false
  | .save _ _ => false
  | .end_ => false
  | _ => true
theorem same_row {R : List Rw} {i : Nat} {a b : Rw} (h1 : R[i]? = some a) (h2 : R[i]? = some b) : a = b := Option.some.inj (h1.symm.trans h2)
theorem putPc {c pc fr x1 x2 x3 t : Nat} : putF .pc (.int t) (thF c pc fr x1 x2 x3) = thF c t fr x1 x2 x3 := rfl
theorem pc_ok {C : CallP} {H : Hp} {a : Ad} {base sl t : Nat} {R : List Rw} {st : VS} {e : E} {r : Ss} {o row : V} {tl : List V} {K : Fl → List V → Hp → Prop} (Z : VA H a base R sl st) (he : ∀ Q : V → Hp → Prop, Q (.int t) H → wpE C scr e (o :: .obj a.th :: row :: tl) H Q)
    (q : ∀ H', VA H' a base R sl { st with pc := t } → wpSs C scr r (o :: .obj a.th :: row :: tl) H' K) : wpSs C scr (.cons (.asgA (.loc 1) .pc e) r) (o :: .obj a.th :: row :: tl) H K := by
  refine he _ ?_
  have h1 := Z.thr
  refine ⟨ne_of_ok True.intro, ?_⟩
  conv => whnf
  show insK H[a.th]? _
  rw [h1]
  exact ⟨by simp [thF], q _ Z.jump⟩
theorem pf_step {n : Nat} (hn : 4 ≤ n) {H : Hp} {a : Ad} {base sl : Nat} {R : List Rw} {st st' : VS} {r : Rw} {Q : V → Hp → Prop} (Z : VA H a base R sl { st with pc := st.pc + 1 }) (S : Step base R st st') (hr : R[st.pc]? = some r) (hf : r.flow = true) (hL : st.lg.length ≤ 80000)
    (q : ∀ H', VA H' a base R sl st' → Q (.bool true) H') : Cn scr n (.fn .performFlow) [.obj a.ho, .obj a.th, r.v] H Q := by
  obtain ⟨m, rfl⟩ : ∃ m, n = m + 1 := ⟨n - 1, by (first | lia | omega)⟩
  obtain ⟨gs, g1, g2⟩ := Z.hos
  have hc := Z.cl
  have ht := Z.thr
  have hfr := Z.frm
  cases S with
  | set h _ _ => cases same_row hr h; cases hf
  | save h _ _ _ => cases same_row hr h; cases hf
  | @jump t h =>
    cases same_row hr h
    refine ⟨rfl, ?_⟩
    repeat (first | refine guI True.intro ?_ | refine insI ht ?_ | refine lisI ht ?_ | refine cloI ht ?_ | refine optI ht ?_ | refine gnI ?_ | refine gtI ?_ | refine gsI rfl ?_ | ((conv => whnf); first | rw [ht] ))
    refine ⟨by simp [thF], ?_⟩
    exact q _ (Z.jump (pc := t))
  | @unlessT e t h he h1 =>
    cases same_row hr h
    refine ⟨rfl, ?_⟩
    repeat (first | refine guI True.intro ?_ | refine insI g1 ?_ | refine lisI g1 ?_ | refine cloI g1 ?_ | refine optI g1 ?_ | refine insI g2 ?_ | refine lisI g2 ?_ | refine cloI g2 ?_ | refine optI g2 ?_ | refine insI hc ?_ | refine lisI hc ?_ | refine cloI hc ?_ | refine optI hc ?_ | refine gnI ?_ | refine gtI ?_ | refine gsI rfl ?_ | ((conv => whnf); first | rw [g1] | rw [g2] | rw [hc] ))
    refine eval_ok (s := .word e) (by first | exact le1 hn rfl | exact le2 hn rfl | (first | lia | omega)) Z ⟨.inr he, rfl⟩ (by show st.lg.length ≤ _; (first | lia | omega)) fun H1 Z1 u1 => ?_
    refine truth_ok (by first | exact le1 hn rfl | exact le2 hn rfl | (first | lia | omega)) (test_row he Z.hd3) fun x hx => ?_
    repeat (first | refine guI True.intro ?_ | refine gnI ?_ | refine gtI ?_ | refine gsI rfl ?_)
    conv => whnf
    have : x = 1 := hx.mpr h1
    subst this
    exact q H1 Z1
  | @unlessF e t h he h1 =>
    cases same_row hr h
    refine ⟨rfl, ?_⟩
    repeat (first | refine guI True.intro ?_ | refine insI g1 ?_ | refine lisI g1 ?_ | refine cloI g1 ?_ | refine optI g1 ?_ | refine insI g2 ?_ | refine lisI g2 ?_ | refine cloI g2 ?_ | refine optI g2 ?_ | refine insI hc ?_ | refine lisI hc ?_ | refine cloI hc ?_ | refine optI hc ?_ | refine gnI ?_ | refine gtI ?_ | refine gsI rfl ?_ | ((conv => whnf); first | rw [g1] | rw [g2] | rw [hc] ))
    refine eval_ok (s := .word e) (by first | exact le1 hn rfl | exact le2 hn rfl | (first | lia | omega)) Z ⟨.inr he, rfl⟩ (by show st.lg.length ≤ _; (first | lia | omega)) fun H1 Z1 u1 => ?_
    refine truth_ok (by first | exact le1 hn rfl | exact le2 hn rfl | (first | lia | omega)) (test_row he Z.hd3) fun x hx => ?_
    repeat (first | refine guI True.intro ?_ | refine gnI ?_ | refine gtI ?_ | refine gsI rfl ?_)
    conv => whnf
    have hx1 : x ≠ 1 := fun e => h1 (hx.mp e)
    cases e1 : decide (x = 1)
    · refine pc_ok (t := t) Z1 (fun Q q => ?_) fun H2 Z2 => ?_
      · repeat (first | refine guI True.intro ?_ | refine gnI ?_ | refine gtI ?_ | refine gsI rfl ?_)
        exact q
      · exact q H2 Z2
    · exact absurd (of_decide_eq_true e1) hx1
  | @match_ k s l t row h hk hl h3 hs =>
    cases same_row hr h
    have hsrc : SrcRow { st with pc := st.pc + 1 } s row ∧ s.logs { st with pc := st.pc + 1 } = [] := by
      cases s with
      | word e =>
        obtain ⟨⟨w, x, y, rfl⟩, h1, h2⟩ := hs
        exact ⟨⟨.inl h1, h2⟩, rfl⟩
      | loc i => exact ⟨hs, rfl⟩
    refine ⟨rfl, ?_⟩
    repeat (first | refine guI True.intro ?_ | refine insI g1 ?_ | refine lisI g1 ?_ | refine cloI g1 ?_ | refine optI g1 ?_ | refine insI g2 ?_ | refine lisI g2 ?_ | refine cloI g2 ?_ | refine optI g2 ?_ | refine insI hc ?_ | refine lisI hc ?_ | refine cloI hc ?_ | refine optI hc ?_ | refine gnI ?_ | refine gtI ?_ | refine gsI rfl ?_ | ((conv => whnf); first | rw [g1] | rw [g2] | rw [hc] ))
    refine eval_ok (s := s) (by first | exact le1 hn rfl | exact le2 hn rfl | (first | lia | omega)) Z hsrc.1 (by show st.lg.length ≤ _; (first | lia | omega)) fun H1 Z1 u1 => ?_
    rw [hsrc.2, List.append_nil] at Z1
    obtain ⟨gs1, g3, g4⟩ := Z1.hos
    have hc1 := Z1.cl
    repeat (first | refine guI True.intro ?_ | refine insI g3 ?_ | refine lisI g3 ?_ | refine cloI g3 ?_ | refine optI g3 ?_ | refine insI g4 ?_ | refine lisI g4 ?_ | refine cloI g4 ?_ | refine optI g4 ?_ | refine insI hc1 ?_ | refine lisI hc1 ?_ | refine cloI hc1 ?_ | refine optI hc1 ?_ | refine gnI ?_ | refine gtI ?_ | refine gsI rfl ?_ | ((conv => whnf); first | rw [g3] | rw [g4] | rw [hc1] ))
    refine eval_ok (s := .word l) (by first | exact le1 hn rfl | exact le2 hn rfl | (first | lia | omega)) Z1 ⟨.inl hl, rfl⟩ (by show st.lg.length ≤ _; (first | lia | omega)) fun H2 Z2 u2 => ?_
    refine matches_ok (o := l.codes st.hd) (by first | exact le1 hn rfl | exact le2 hn rfl | (first | lia | omega)) hk h3 (word_row hl Z.hd3) ?_
    have Z2 : VA H2 a base R sl { pc := st.pc + 1, fr := st.fr, hd := st.hd, lg := st.lg ++ l.logs st.hd } := Z2
    cases ha : alike k row (l.codes st.hd)
    · rw [ha] at q
      exact q H2 Z2
    · rw [ha] at q
      refine pc_ok (t := t) Z2 (fun Q q => ?_) fun H3 Z3 => ?_
      · repeat (first | refine guI True.intro ?_ | refine gnI ?_ | refine gtI ?_ | refine gsI rfl ?_)
        exact q
      · exact q H3 Z3
  | @times i e sg h he hb hi =>
    cases same_row hr h
    refine ⟨rfl, ?_⟩
    repeat (first | refine guI True.intro ?_ | refine insI g1 ?_ | refine lisI g1 ?_ | refine cloI g1 ?_ | refine optI g1 ?_ | refine insI g2 ?_ | refine lisI g2 ?_ | refine cloI g2 ?_ | refine optI g2 ?_ | refine insI hc ?_ | refine lisI hc ?_ | refine cloI hc ?_ | refine optI hc ?_ | refine gnI ?_ | refine gtI ?_ | refine gsI rfl ?_ | ((conv => whnf); first | rw [g1] | rw [g2] | rw [hc] ))
    refine eval_ok (s := .word e) (by first | exact le1 hn rfl | exact le2 hn rfl | (first | lia | omega)) Z ⟨.inl he, rfl⟩ (by show st.lg.length ≤ _; (first | lia | omega)) fun H1 Z1 u1 => ?_
    repeat (first | refine guI True.intro ?_ | refine gnI ?_ | refine gtI ?_ | refine gsI rfl ?_)
    refine toInt_ok (by first | exact le1 hn rfl | exact le2 hn rfl | (first | lia | omega)) (word_row he Z.hd3) fun v hv => ?_
    have ht1 := Z1.thr
    have hf1 := Z1.frm
    have Z2 := Z1.frame (v := .cnt (cnt (e.codes st.hd) sg)) hb
    have b2 : st.fr.length ≤ 5000 := Z.b2
    have hi' : i < st.fr.length := hi
    have fin : ∀ x : Int, x = (cnt (e.codes st.hd) sg : Nat) → Q (.bool true) (H1.set a.fr (.list ((st.fr.map FV.v).set ((i : Int)).toNat (.int x)))) := by
      rintro x rfl
      exact q _ Z2
    rcases hv with ⟨rfl, h0⟩ | ⟨j, rfl, h0⟩
    · repeat (first | refine guI True.intro ?_ | refine insI ht1 ?_ | refine lisI ht1 ?_ | refine cloI ht1 ?_ | refine optI ht1 ?_ | refine insI hf1 ?_ | refine lisI hf1 ?_ | refine cloI hf1 ?_ | refine optI hf1 ?_ | refine gnI ?_ | refine gtI ?_ | refine gsI rfl ?_ | ((conv => whnf); first | rw [ht1] | rw [hf1] ))
      refine ⟨by simp; (first | lia | omega), small_nat (by first | exact le1 hn rfl | exact le2 hn rfl | (first | lia | omega)), ?_⟩
      exact fin 0 (by rw [h0]; rfl)
    · repeat (first | refine guI True.intro ?_ | refine insI ht1 ?_ | refine lisI ht1 ?_ | refine cloI ht1 ?_ | refine optI ht1 ?_ | refine insI hf1 ?_ | refine lisI hf1 ?_ | refine cloI hf1 ?_ | refine optI hf1 ?_ | refine gnI ?_ | refine gtI ?_ | refine gsI rfl ?_ | ((conv => whnf); first | rw [ht1] | rw [hf1] ))
      refine ⟨by simp; (first | lia | omega), small_nat (by first | exact le1 hn rfl | exact le2 hn rfl | (first | lia | omega)), ?_⟩
      exact fin _ h0
  | @again0 i t h hv =>
    cases same_row hr h
    have hg := pyGet_fr hv
    have b2 : st.fr.length ≤ 5000 := Z.b2
    have hi := (List.getElem?_eq_some_iff.mp hv).1
    refine ⟨rfl, ?_⟩
    repeat (first | refine guI True.intro ?_ | refine insI ht ?_ | refine lisI ht ?_ | refine cloI ht ?_ | refine optI ht ?_ | refine insI hfr ?_ | refine lisI hfr ?_ | refine cloI hfr ?_ | refine optI hfr ?_ | refine insI hg ?_ | refine lisI hg ?_ | refine cloI hg ?_ | refine optI hg ?_ | refine gnI ?_ | refine gtI ?_ | refine gsI rfl ?_ | ((conv => whnf); first | rw [ht] | rw [hfr] | rw [hg] ))
    refine ⟨small_nat (by first | exact le1 hn rfl | exact le2 hn rfl | (first | lia | omega)), ?_⟩
    repeat (first | refine guI True.intro ?_ | refine insI ht ?_ | refine lisI ht ?_ | refine cloI ht ?_ | refine optI ht ?_ | refine gnI ?_ | refine gtI ?_ | refine gsI rfl ?_ | ((conv => whnf); first | rw [ht] ))
    refine ⟨by simp [thF], ?_⟩
    exact q _ (Z.jump (pc := t))
  | @againS i k t h hb hv =>
    cases same_row hr h
    have hg := pyGet_fr hv
    have b2 : st.fr.length ≤ 5000 := Z.b2
    have hi := (List.getElem?_eq_some_iff.mp hv).1
    have Z2 := Z.frame (v := .cnt k) hb
    have fin : ∀ x : Int, x = (k : Nat) → Q (.bool true) (H.set a.fr (.list ((st.fr.map FV.v).set ((i : Int)).toNat (.int x)))) := by
      rintro x rfl
      exact q _ Z2
    refine ⟨rfl, ?_⟩
    repeat (first | refine guI True.intro ?_ | refine insI ht ?_ | refine lisI ht ?_ | refine cloI ht ?_ | refine optI ht ?_ | refine insI hfr ?_ | refine lisI hfr ?_ | refine cloI hfr ?_ | refine optI hfr ?_ | refine insI hg ?_ | refine lisI hg ?_ | refine cloI hg ?_ | refine optI hg ?_ | refine gnI ?_ | refine gtI ?_ | refine gsI rfl ?_ | ((conv => whnf); first | rw [ht] | rw [hfr] | rw [hg] ))
    refine ⟨small_nat (by first | exact le1 hn rfl | exact le2 hn rfl | (first | lia | omega)), ?_⟩
    repeat (first | refine guI True.intro ?_ | refine insI ht ?_ | refine lisI ht ?_ | refine cloI ht ?_ | refine optI ht ?_ | refine insI hfr ?_ | refine lisI hfr ?_ | refine cloI hfr ?_ | refine optI hfr ?_ | refine insI hg ?_ | refine lisI hg ?_ | refine cloI hg ?_ | refine optI hg ?_ | refine gnI ?_ | refine gtI ?_ | refine gsI rfl ?_ | ((conv => whnf); first | rw [ht] | rw [hfr] | rw [hg] ))
    refine ⟨small_nat (by first | exact le1 hn rfl | exact le2 hn rfl | (first | lia | omega)), ?_⟩
    repeat (first | refine guI True.intro ?_ | refine insI ht ?_ | refine lisI ht ?_ | refine cloI ht ?_ | refine optI ht ?_ | refine insI hfr ?_ | refine lisI hfr ?_ | refine cloI hfr ?_ | refine optI hfr ?_ | refine insI hg ?_ | refine lisI hg ?_ | refine cloI hg ?_ | refine optI hg ?_ | refine gnI ?_ | refine gtI ?_ | refine gsI rfl ?_ | ((conv => whnf); first | rw [ht] | rw [hfr] | rw [hg] ))
    refine ⟨.inr rfl, ?_⟩
    repeat (first | refine guI True.intro ?_ | refine insI hfr ?_ | refine lisI hfr ?_ | refine cloI hfr ?_ | refine optI hfr ?_ | refine gnI ?_ | refine gtI ?_ | refine gsI rfl ?_ | ((conv => whnf); first | rw [hfr] ))
    refine ⟨by simp <;> (first | lia | omega), small_nat (by first | exact le1 hn rfl | exact le2 hn rfl | (first | lia | omega)), ?_⟩
    exact fin _ (by simp <;> (first | lia | omega))
end Mine
namespace Mine
open PySem
variable {scr : List Int}
theorem depthAll_le {k : Nat} : ∀ {ds : List PyData}, (∀ d ∈ ds, d.depth ≤ k) → PyData.depthAll ds ≤ k
  | [], _ => Nat.zero_le _
  | d :: r, h => by
    have h1 := h d (by simp)
    have h2 := depthAll_le (ds := r) fun x m => h x (List.mem_cons_of_mem _ m)
    show max d.depth (PyData.depthAll r) ≤ k
    (first | lia | omega)
theorem dat_map {α : Type} {H : Hp} {v : α → V} {d : α → PyData} : ∀ {l : List α}, (∀ a ∈ l, Dat H (v a) (d a)) → DatL H (l.map v) (l.map d)
  | [], _ => .nil
  | a :: r, h => .cons (h a (by simp)) (dat_map fun x m => h x (List.mem_cons_of_mem _ m))
theorem eq_lists {H : Hp} {i j k : Nat} {vs : List V} {ds : List PyData} {pos : Bool} {Q : V → Hp → Prop} (hi : H[i]? = some (.list vs)) (hj : H[j]? = some (.list vs)) (hd : DatL H vs ds) (hk : PyData.depthAll ds ≤ 60) (q : Q (.bool pos) H) : eqW pos (.obj i) (.obj j) H Q :=
  ⟨⟨.list ds, .obj hi hd, .obj hj hd, by show PyData.depthAll ds + 1 ≤ 64; (first | lia | omega)⟩, q⟩
noncomputable def rowD (r : List Nat) : List PyData := r.map fun (c : Nat) => PyData.int c
theorem rowD_ok {H : Hp} {r : List Nat} : DatL H (rowV r) (rowD r) ∧ PyData.depthAll (rowD r) ≤ 0 := ⟨dat_map fun a _ => .int a, depthAll_le fun d m => by
  obtain ⟨c, _, rfl⟩ := List.mem_map.mp m
  exact Nat.le_refl _⟩
noncomputable def X.d : X → PyData
  | .var s a => .tuple [.str Tg.kVar.str, .int (3 : Int), .int (s : Int), .int (a : Int)]
  | .const w a b => .tuple [.str Tg.kConst.str, .int (w : Int), .int (a : Int), .int (b : Int)]
  | .below s n => .tuple [.str Tg.kBelow.str, .int (1 : Int), .int (s : Int), .int (n : Int)]
theorem X.d_ok {H : Hp} (e : X) : Dat H e.v e.d ∧ e.d.depth ≤ 1 := by
  cases e
  · exact ⟨.tup (.cons (.str _) (.cons (.int _) (.cons (.int _) (.cons (.int _) .nil)))), Nat.le_refl _⟩
  · exact ⟨.tup (.cons (.str _) (.cons (.int _) (.cons (.int _) (.cons (.int _) .nil)))), Nat.le_refl _⟩
  · exact ⟨.tup (.cons (.str _) (.cons (.int _) (.cons (.int _) (.cons (.int _) .nil)))), Nat.le_refl _⟩
noncomputable def entD (p : X × List Nat) : PyData := .tuple [p.1.d, .tuple (rowD p.2)]
theorem entD_ok {H : Hp} (p : X × List Nat) : Dat H (entV p) (entD p) ∧ (entD p).depth ≤ 10 := by
  have h1 := X.d_ok (H := H) p.1
  have h2 := rowD_ok (H := H) (r := p.2)
  refine ⟨.tup (.cons h1.1 (.cons (.tup h2.1) .nil)), ?_⟩
  show max p.1.d.depth (max (PyData.depthAll (rowD p.2) + 1) 0) + 1 ≤ 10
  have := h1.2
  have := h2.2
  (first | lia | omega)
theorem log_eq {H : Hp} {i j : Nat} {L : List (X × List Nat)} {Q : V → Hp → Prop} (hi : H[i]? = some (.list (L.map entV))) (hj : H[j]? = some (.list (L.map entV))) (q : Q (.bool true) H) : eqW true (.obj i) (.obj j) H Q :=
  eq_lists (k := 0) hi hj (dat_map fun a _ => (entD_ok a).1) (by
    have := depthAll_le (k := 10) (ds := L.map entD) fun d m => by
      obtain ⟨c, _, rfl⟩ := List.mem_map.mp m
      exact (entD_ok (H := H) c).2
    (first | lia | omega)) q
noncomputable def FV.d : FV → PyData
  | .kept => .str Tg.kKept.str
  | .none => .none
  | .vec [a] => .tuple [.int 1, .int (n1 (lo a)), .int (n1 (hi a))]
  | .vec [a, b, c] => .tuple [.int 3, .int (n3 (lo a) (lo b) (lo c)), .int (n3 (hi a) (hi b) (hi c))]
  | .vec _ => .none
  | .cnt n => .int n
theorem FV.d_ok {H : Hp} (v : FV) : Dat H v.v v.d ∧ v.d.depth ≤ 10 := by
  have t3 : ∀ a b c : Int, (PyData.tuple [.int a, .int b, .int c]).depth ≤ 10 := fun a b c => by show max 0 (max 0 (max 0 0)) + 1 ≤ 10; (first | lia | omega)
  cases v with
  | kept => exact ⟨.str _, Nat.zero_le _⟩
  | none => exact ⟨.none, Nat.zero_le _⟩
  | cnt n => exact ⟨.int _, Nat.zero_le _⟩
  | vec r =>
    rcases r with _ | ⟨a, _ | ⟨b, _ | ⟨c, _ | ⟨d, r⟩⟩⟩⟩
    · exact ⟨.none, Nat.zero_le _⟩
    · exact ⟨.tup (.cons (.int _) (.cons (.int _) (.cons (.int _) .nil))), t3 _ _ _⟩
    · exact ⟨.none, Nat.zero_le _⟩
    · exact ⟨.tup (.cons (.int _) (.cons (.int _) (.cons (.int _) .nil))), t3 _ _ _⟩
    · exact ⟨.none, Nat.zero_le _⟩
theorem frame_eq {H : Hp} {i j : Nat} {l : List FV} {pos : Bool} {Q : V → Hp → Prop} (hi : H[i]? = some (.list (l.map FV.v))) (hj : H[j]? = some (.list (l.map FV.v))) (q : Q (.bool pos) H) : eqW pos (.obj i) (.obj j) H Q :=
  eq_lists (k := 0) hi hj (dat_map fun a _ => (FV.d_ok a).1) (by
    have := depthAll_le (k := 10) (ds := l.map FV.d) fun d m => by
      obtain ⟨c, _, rfl⟩ := List.mem_map.mp m
      exact (FV.d_ok (H := H) c).2
    (first | lia | omega)) q
noncomputable def b_fol : Ss := match t_follow with | .cons _ (.cons _ (.cons _ (.cons _ (.cons (.forR _ _ b) _)))) => b | _ => .nil
noncomputable def t_fol2 : Ss := match b_fol with | .cons _ r => r | _ => .nil
noncomputable def t_fol3 : Ss := match b_fol with | .cons _ (.cons _ r) => r | _ => .nil
theorem kept_ok {C : CallP} {H : Hp} {a : Ad} {base sl : Nat} {R : List Rw} {st : VS} {b0 b2 b3 b4 b5 b6 b7 : V} {tl : List V} {Q : V → Hp → Prop} (Z : VA H a base R sl st) (q : ∀ l, Q (.bool true) (H ++ l)) :
    wpE C scr (.cmp .eq (.slc (.att (.loc 8) .frame) (.loc 1)) (.bin .mul (.lst (.cons (.cS .kKept) .nil)) (.loc 1))) (b0 :: .int base :: b2 :: b3 :: b4 :: b5 :: b6 :: b7 :: .obj a.th :: tl) H Q := by
  have h1 := Z.thr
  have h2 := Z.frm
  have b2 := Z.b2
  have b3 := Z.b3
  repeat (first | refine guI True.intro ?_ | refine insI h1 ?_ | refine lisI h1 ?_ | refine cloI h1 ?_ | refine optI h1 ?_ | refine insI h2 ?_ | refine lisI h2 ?_ | refine cloI h2 ?_ | refine optI h2 ?_ | refine gnI ?_ | refine gtI ?_ | refine gsI rfl ?_ | ((conv => whnf); first | rw [h1] | rw [h2] ))
  refine ⟨small_nat (by first | exact le1 hn rfl | exact le2 hn rfl | (first | lia | omega)), by simp; (first | lia | omega), ?_⟩
  conv => whnf
  refine ⟨ne_of_ok True.intro, ?_⟩
  show binW .mul (.obj (H ++ [CO.list ((st.fr.map FV.v).take ((base : Int)).toNat)]).length) (.int base) ((H ++ [CO.list ((st.fr.map FV.v).take ((base : Int)).toNat)]) ++ [.list [.str .kKept]]) _
  unfold binW
  simp only [at_new]
  refine ⟨True.intro, by (first | lia | omega), by (first | lia | omega), ?_⟩
  have e : (st.fr.map FV.v).take ((base : Int)).toNat = (List.replicate base FV.kept).map FV.v := by rw [Int.toNat_natCast, ← List.map_take, Z.kept]
  have e2 : List.replicate ((base : Int)).toNat (V.str .kKept) = (List.replicate base FV.kept).map FV.v := by rw [Int.toNat_natCast, List.map_replicate]; rfl
  rw [e, e2]
  refine frame_eq (at_add (at_add at_new)) at_new ?_
  have := q ([CO.list ((List.replicate base FV.kept).map FV.v)] ++ [.list [.str .kKept]] ++ [CO.list ((List.replicate base FV.kept).map FV.v)])
  simpa only [List.append_assoc] using this
end Mine
namespace Mine
open PySem
variable {scr : List Int}
noncomputable def t_fol4 : Ss := match t_fol3 with | .cons _ (.cons _ r) => r | _ => .nil
noncomputable def t_fol7 : Ss := match t_fol4 with | .cons _ (.cons _ r) => r | _ => .nil
noncomputable def t_fol8 : Ss := match t_fol4 with | .cons _ (.cons _ (.cons _ r)) => r | _ => .nil
noncomputable def one4 (tl : List V) : Prop := tl = [] ∨ ∃ w x y z, tl = [w, x, y, z]
theorem set10 {b0 b1 b2 b3 b4 b5 b6 b7 b8 b9 v : V} {tl : List V} (h : one4 tl) : ∃ t2, (t2 = [] ∨ ∃ x y z, t2 = [x, y, z]) ∧ setL (b0 :: b1 :: b2 :: b3 :: b4 :: b5 :: b6 :: b7 :: b8 :: b9 :: tl) 10 v = b0 :: b1 :: b2 :: b3 :: b4 :: b5 :: b6 :: b7 :: b8 :: b9 :: v :: t2 := by
  rcases h with rfl | ⟨w, x, y, z, rfl⟩
  · exact ⟨[], .inl rfl, rfl⟩
  · exact ⟨[x, y, z], .inr ⟨x, y, z, rfl⟩, rfl⟩
theorem set11 {b0 b1 b2 b3 b4 b5 b6 b7 b8 b9 b10 v : V} {tl : List V} (h : tl = [] ∨ ∃ x y z, tl = [x, y, z]) : ∃ t2, (t2 = [] ∨ ∃ y z, t2 = [y, z]) ∧ setL (b0 :: b1 :: b2 :: b3 :: b4 :: b5 :: b6 :: b7 :: b8 :: b9 :: b10 :: tl) 11 v = b0 :: b1 :: b2 :: b3 :: b4 :: b5 :: b6 :: b7 :: b8 :: b9 :: b10 :: v :: t2 := by
  rcases h with rfl | ⟨x, y, z, rfl⟩
  · exact ⟨[], .inl rfl, rfl⟩
  · exact ⟨[y, z], .inr ⟨y, z, rfl⟩, rfl⟩
theorem set12 {b0 b1 b2 b3 b4 b5 b6 b7 b8 b9 b10 b11 v : V} {tl : List V} (h : tl = [] ∨ ∃ y z, tl = [y, z]) : ∃ t2, (t2 = [] ∨ ∃ z, t2 = [z]) ∧ setL (b0 :: b1 :: b2 :: b3 :: b4 :: b5 :: b6 :: b7 :: b8 :: b9 :: b10 :: b11 :: tl) 12 v = b0 :: b1 :: b2 :: b3 :: b4 :: b5 :: b6 :: b7 :: b8 :: b9 :: b10 :: b11 :: v :: t2 := by
  rcases h with rfl | ⟨y, z, rfl⟩
  · exact ⟨[], .inl rfl, rfl⟩
  · exact ⟨[z], .inr ⟨z, rfl⟩, rfl⟩
theorem set13 {b0 b1 b2 b3 b4 b5 b6 b7 b8 b9 b10 b11 b12 v : V} {tl : List V} (h : tl = [] ∨ ∃ z, tl = [z]) : setL (b0 :: b1 :: b2 :: b3 :: b4 :: b5 :: b6 :: b7 :: b8 :: b9 :: b10 :: b11 :: b12 :: tl) 13 v = [b0, b1, b2, b3, b4, b5, b6, b7, b8, b9, b10, b11, b12, v] := by
  rcases h with rfl | ⟨z, rfl⟩ <;> rfl
theorem augPc_ok {C : CallP} {H : Hp} {a : Ad} {base sl : Nat} {R : List Rw} {st : VS} {r : Ss} {b0 b1 b2 b3 b4 b5 b6 b7 : V} {tl : List V} {K : Fl → List V → Hp → Prop} (Z : VA H a base R sl st)
    (q : ∀ H', VA H' a base R sl { st with pc := st.pc + 1 } → wpSs C scr r (b0 :: b1 :: b2 :: b3 :: b4 :: b5 :: b6 :: b7 :: .obj a.th :: tl) H' K) :
    wpSs C scr (.cons (.augA (.loc 8) .pc .add (.cI 1)) r) (b0 :: b1 :: b2 :: b3 :: b4 :: b5 :: b6 :: b7 :: .obj a.th :: tl) H K := by
  have h1 := Z.thr
  repeat (first | refine guI True.intro ?_ | refine insI h1 ?_ | refine lisI h1 ?_ | refine cloI h1 ?_ | refine optI h1 ?_ | refine gnI ?_ | refine gtI ?_ | refine gsI rfl ?_ | ((conv => whnf); first | rw [h1] ))
  refine ⟨.inl rfl, ?_⟩
  repeat (first | refine guI True.intro ?_ | refine insI h1 ?_ | refine lisI h1 ?_ | refine cloI h1 ?_ | refine optI h1 ?_ | refine gnI ?_ | refine gtI ?_ | refine gsI rfl ?_ | ((conv => whnf); first | rw [h1] ))
  refine ⟨by simp [thF], ?_⟩
  exact q _ (Z.jump (pc := st.pc + 1))
theorem fol_mid {n : Nat} {H : Hp} {a : Ad} {base sl : Nat} {R : List Rw} {st : VS} {r : Rw} {b2 b3 b4 b5 b6 b9 : V} {tl : List V} {K : Fl → List V → Hp → Prop} (Z : VA H a base R sl st) (hr : R[st.pc]? = some r) (ht : one4 tl)
    (q : ∀ H1 bf, VA H1 a base R sl { st with pc := st.pc + 1 } → H1[bf]? = some (.list (st.fr.map FV.v)) → bf ∉ a.W → Cn scr n (.fn .performFlow) [.obj a.ho, .obj a.th, r.v] H1 fun v H2 =>
      wpSs (Cn scr n) scr t_fol8 [.obj a.m, .int base, b2, b3, b4, b5, b6, .obj a.ho, .obj a.th, b9, r.v, .int ((st.pc : Int) + 1), .obj bf, v] H2 K) :
    wpSs (Cn scr n) scr t_fol3 (.obj a.m :: .int base :: b2 :: b3 :: b4 :: b5 :: b6 :: .obj a.ho :: .obj a.th :: b9 :: tl) H K := by
  have h1 := Z.thr
  have h2 := Z.mkr.me
  have h3 := Z.mkr.co
  have hlt := (List.getElem?_eq_some_iff.mp hr).1
  have b1 := Z.b1
  have hg : pyGet (R.map Rw.v) (st.pc : Int) = some r.v := by
    unfold pyGet
    rw [if_pos (Int.natCast_nonneg _), Int.toNat_natCast, List.getElem?_map, hr]; rfl
  refine asg_ok (v := r.v) (fun Q q => ?_) ?_
  · repeat (first | refine guI True.intro ?_ | refine insI h1 ?_ | refine lisI h1 ?_ | refine cloI h1 ?_ | refine optI h1 ?_ | refine insI h2 ?_ | refine lisI h2 ?_ | refine cloI h2 ?_ | refine optI h2 ?_ | refine insI h3 ?_ | refine lisI h3 ?_ | refine cloI h3 ?_ | refine optI h3 ?_ | refine insI hg ?_ | refine lisI hg ?_ | refine cloI hg ?_ | refine optI hg ?_ | refine gnI ?_ | refine gtI ?_ | refine gsI rfl ?_ | ((conv => whnf); first | rw [h1] | rw [h2] | rw [h3] | rw [hg] ))
    refine ⟨small_nat (by first | exact le1 hn rfl | exact le2 hn rfl | (first | lia | omega)), ?_⟩
    exact q
  obtain ⟨t2, ht2, e2⟩ := set10 (b0 := .obj a.m) (b1 := .int base) (b2 := b2) (b3 := b3) (b4 := b4) (b5 := b5) (b6 := b6) (b7 := .obj a.ho) (b8 := .obj a.th) (b9 := b9) (v := r.v) ht
  rw [e2]
  refine augPc_ok Z fun H1 Z1 => ?_
  refine asg_ok (v := .int ((st.pc : Int) + 1)) (fun Q q => ?_) ?_
  · have h1 := Z1.thr
    repeat (first | refine guI True.intro ?_ | refine insI h1 ?_ | refine lisI h1 ?_ | refine cloI h1 ?_ | refine optI h1 ?_ | refine gnI ?_ | refine gtI ?_ | refine gsI rfl ?_ | ((conv => whnf); first | rw [h1] ))
    exact q
  obtain ⟨t3, ht3, e3⟩ := set11 (b0 := .obj a.m) (b1 := .int base) (b2 := b2) (b3 := b3) (b4 := b4) (b5 := b5) (b6 := b6) (b7 := .obj a.ho) (b8 := .obj a.th) (b9 := b9) (b10 := r.v) (v := .int ((st.pc : Int) + 1)) ht2
  rw [e3]
  have g1 := Z1.thr
  have g2 := Z1.frm
  have bb2 := Z1.b2
  have lth := lt_at Z1.thr
  have lfr := lt_at Z1.frm
  have llg := lt_at Z1.lo
  have lh : a.h < H1.length := by obtain ⟨_, vs, x, _⟩ := Z1.held; exact lt_at x
  repeat (first | refine guI True.intro ?_ | refine insI g1 ?_ | refine lisI g1 ?_ | refine cloI g1 ?_ | refine optI g1 ?_ | refine insI g2 ?_ | refine lisI g2 ?_ | refine cloI g2 ?_ | refine optI g2 ?_ | refine gnI ?_ | refine gtI ?_ | refine gsI rfl ?_ | ((conv => whnf); first | rw [g1] | rw [g2] ))
  refine ⟨by simp at bb2 ⊢; (first | lia | omega), ?_⟩
  show wpSs (Cn scr n) scr t_fol7 (setL (.obj a.m :: .int base :: b2 :: b3 :: b4 :: b5 :: b6 :: .obj a.ho :: .obj a.th :: b9 :: r.v :: .int ((st.pc : Int) + 1) :: t3) 12 (.obj H1.length)) (H1 ++ [.list (st.fr.map FV.v)]) K
  obtain ⟨t4, ht4, e4⟩ := set12 (b0 := .obj a.m) (b1 := .int base) (b2 := b2) (b3 := b3) (b4 := b4) (b5 := b5) (b6 := b6) (b7 := .obj a.ho) (b8 := .obj a.th) (b9 := b9) (b10 := r.v) (b11 := .int ((st.pc : Int) + 1)) (v := .obj H1.length) ht3
  rw [e4]
  refine ⟨ne_of_ok True.intro, ne_of_ok True.intro, ne_of_ok (Rw.v_ok r), ?_⟩
  have q := q (H1 ++ [.list (st.fr.map FV.v)]) H1.length Z1.more at_new (by simp only [Ad.W, List.mem_cons, List.not_mem_nil, or_false, not_or]; (first | lia | omega))
  have es : ∀ v, setL (.obj a.m :: .int base :: b2 :: b3 :: b4 :: b5 :: b6 :: .obj a.ho :: .obj a.th :: b9 :: r.v :: .int ((st.pc : Int) + 1) :: .obj H1.length :: t4) 13 v = _ := fun v => set13 ht4
  refine Eq.mp ?_ q
  congr 1
  funext v H2
  rw [← es v]
  rfl
end Mine
namespace Mine
open PySem
variable {scr : List Int}
theorem pf_no {n : Nat} (hn : 1 ≤ n) {o t : Nat} {r : Rw} (hf : r.flow = false) {H : Hp} {Q : V → Hp → Prop} (q : Q (.bool false) H) : Cn scr n (.fn .performFlow) [.obj o, .obj t, r.v] H Q := by
  obtain ⟨m, rfl⟩ : ∃ m, n = m + 1 := ⟨n - 1, by (first | lia | omega)⟩
  refine ⟨rfl, ?_⟩
  cases r <;> first
    | (cases hf; done)
    | (repeat (first | refine guI True.intro ?_ | refine gnI ?_ | refine gtI ?_ | refine gsI rfl ?_)
       exact q)
theorem fol_pre {C : CallP} {H : Hp} {a : Ad} {base sl want : Nat} {ended : Bool} {R : List Rw} {st : VS} {b1 b2 b6 b7 b9 : V} {tl : List V} {K : Fl → List V → Hp → Prop} (Z : VA H a base R sl st) (go : ended = true ∨ st.lg.length < want) (hp : st.pc < R.length) (hL : st.lg.length ≤ 70000)
    (q : wpSs C scr t_fol3 (.obj a.m :: b1 :: b2 :: .obj a.lg :: .int want :: .bool ended :: b6 :: b7 :: .obj a.th :: b9 :: tl) H K) :
    wpSs C scr b_fol (.obj a.m :: b1 :: b2 :: .obj a.lg :: .int want :: .bool ended :: b6 :: b7 :: .obj a.th :: b9 :: tl) H K := by
  have h1 := Z.thr
  have h2 := Z.mkr.me
  have h3 := Z.mkr.co
  have h4 := Z.lo
  have b1 := Z.b1
  refine if_skip (fun Q' q' => ?_) (if_skip (fun Q' q' => ?_) q)
  · clear q
    cases ended with
    | true =>
      repeat (first | refine guI True.intro ?_ | refine gnI ?_ | refine gtI ?_ | refine gsI rfl ?_)
      exact q'
    | false =>
      have hw : st.lg.length < want := by rcases go with h | h; cases h; exact h
      repeat (first | refine guI True.intro ?_ | refine insI h4 ?_ | refine lisI h4 ?_ | refine cloI h4 ?_ | refine optI h4 ?_ | refine gnI ?_ | refine gtI ?_ | refine gsI rfl ?_ | ((conv => whnf); first | rw [h4] ))
      refine ⟨by simp; (first | lia | omega), ?_⟩
      repeat (first | refine guI True.intro ?_ | refine gnI ?_ | refine gtI ?_ | refine gsI rfl ?_)
      conv => whnf
      have e : decide ((want : Int) ≤ ((st.lg.map entV).length : Int)) = false := decide_eq_false (by simp; (first | lia | omega))
      rw [e]
      exact q'
  · clear q
    repeat (first | refine guI True.intro ?_ | refine insI h1 ?_ | refine lisI h1 ?_ | refine cloI h1 ?_ | refine optI h1 ?_ | refine insI h2 ?_ | refine lisI h2 ?_ | refine cloI h2 ?_ | refine optI h2 ?_ | refine insI h3 ?_ | refine lisI h3 ?_ | refine cloI h3 ?_ | refine optI h3 ?_ | refine gnI ?_ | refine gtI ?_ | refine gsI rfl ?_ | ((conv => whnf); first | rw [h1] | rw [h2] | rw [h3] ))
    refine ⟨by simp; (first | lia | omega), ?_⟩
    conv => whnf
    have e : decide ((st.pc : Int) < ((R.map Rw.v).length : Int)) = true := decide_eq_true (by simp; (first | lia | omega))
    rw [e]
    exact q'
theorem fol_yes {C : CallP} {m o t bf base : Nat} {r : Rw} (hf : r.flow = true) {H : Hp} {b2 b3 b4 b5 b6 b9 b11 : V} {K : Fl → List V → Hp → Prop} (q : K .cont [.obj m, .int base, b2, b3, b4, b5, b6, .obj o, .obj t, b9, r.v, b11, .obj bf, .bool true] H) :
    wpSs C scr t_fol8 [.obj m, .int base, b2, b3, b4, b5, b6, .obj o, .obj t, b9, r.v, b11, .obj bf, .bool true] H K := by
  cases r <;> first
    | (cases hf; done)
    | (repeat (first | refine guI True.intro ?_ | refine gnI ?_ | refine gtI ?_ | refine gsI rfl ?_)
       exact q)
noncomputable def t_fol10 : Ss := match t_fol8 with | .cons _ (.cons _ r) => r | _ => .nil
noncomputable def t_fol11 : Ss := match t_fol8 with | .cons _ (.cons _ (.cons _ r)) => r | _ => .nil
theorem fol_no {C : CallP} {H : Hp} {a : Ad} {base sl bf : Nat} {R : List Rw} {st : VS} {r : Rw} (hf : r.flow = false) {b1 b2 b3 b4 b5 b6 b7 b9 : V} {K : Fl → List V → Hp → Prop} (Z : VA H a base R sl { st with pc := st.pc + 1 }) (hb : H[bf]? = some (.list (st.fr.map FV.v)))
    (q : wpSs C scr t_fol11 [.obj a.m, b1, b2, b3, b4, b5, b6, b7, .obj a.th, b9, r.v, .int ((st.pc : Int) + 1), .obj bf, .bool false] H K) :
    wpSs C scr t_fol8 [.obj a.m, b1, b2, b3, b4, b5, b6, b7, .obj a.th, b9, r.v, .int ((st.pc : Int) + 1), .obj bf, .bool false] H K := by
  have h1 := Z.thr
  have h2 := Z.frm
  have k2 : wpSs C scr t_fol10 [.obj a.m, b1, b2, b3, b4, b5, b6, b7, .obj a.th, b9, r.v, .int ((st.pc : Int) + 1), .obj bf, .bool false] H K := by
    refine if_skip (fun Q q => ?_) q
    repeat (first | refine guI True.intro ?_ | refine insI h1 ?_ | refine lisI h1 ?_ | refine cloI h1 ?_ | refine optI h1 ?_ | refine gnI ?_ | refine gtI ?_ | refine gsI rfl ?_ | ((conv => whnf); first | rw [h1] ))
    conv => whnf
    have e : decide (((st.pc + 1 : Nat) : Int) = (st.pc : Int) + 1) = true := decide_eq_true (by simp)
    rw [e]
    refine ⟨ne_of_ok True.intro, ?_⟩
    first | refine insI (h1) ?_ | refine lisI (h1) ?_ | ((conv => whnf); rw [h1])
    refine ⟨ne_of_ok True.intro, ?_⟩
    show eqW false (.obj a.fr) (.obj bf) H _
    exact frame_eq h2 hb q
  cases r <;> first
    | (cases hf; done)
    | (refine if_skip (fun Q q => ?_) (if_skip (fun Q q => ?_) k2)
       · repeat (first | refine guI True.intro ?_ | refine gnI ?_ | refine gtI ?_ | refine gsI rfl ?_)
         exact q
       · repeat (first | refine guI True.intro ?_ | refine gnI ?_ | refine gtI ?_ | refine gsI rfl ?_)
         exact q)
theorem VA.put {H : Hp} {a : Ad} {base sl s j : Nat} {R : List Rw} {st : VS} {row : List Nat} (Z : VA H a base R sl st) (hr : Row3 row) (hj : H[j]? = some (.list (rowV row))) (jw : j ∉ [a.th, a.fr, a.lg]) :
    ∃ vs, H[a.h]? = some (.list vs) ∧ vs.length = 3 ∧ VA (H.set a.h (.list (vs.set s (.obj j)))) a base R sl { st with hd := upd st.hd s row } := by
  obtain ⟨vs, h1, h2, h3⟩ := Z.held.put (s := s) hr hj jw
  have hw := Z.held.1
  simp only [List.mem_cons, List.not_mem_nil, or_false, not_or] at hw
  have u : Up [a.h] H (H.set a.h (.list (vs.set s (.obj j)))) := Up.set (by simp)
  have lf : ∀ j, j ∉ a.W → j ∉ [a.h] := fun j hj m => hj (by simp [Ad.W] at *; (first | lia | omega))
  obtain ⟨gs, g1, g2⟩ := Z.hos
  exact ⟨vs, h1, h2, Z.mkr.up u (lf _ Z.nm) (lf _ Z.nc), h3, u.2 _ _ Z.lo (by simp; (first | lia | omega)), u.2 _ _ Z.cl (lf _ Z.nf), ⟨gs, u.2 _ _ g1 (lf _ Z.nh), g2⟩, u.2 _ _ Z.thr (by simp; (first | lia | omega)), u.2 _ _ Z.frm (by simp; (first | lia | omega)), Z.nm, Z.nc, Z.nf, Z.nh, Z.n1, Z.kept, Z.b1, Z.b2, Z.b3, an_step Z.an u (.inl rfl), Z.l1, Z.l2⟩
theorem fol_step {n : Nat} (hn : 5 ≤ n) {H : Hp} {a : Ad} {base sl want : Nat} {ended : Bool} {R : List Rw} {st st' : VS} {b9 : V} {tl : List V} {K : Fl → List V → Hp → Prop} (Z : VA H a base R sl st) (S : Step base R st st') (go : ended = true ∨ st.lg.length < want) (hL : st.lg.length ≤ 60000) (ht : one4 tl)
    (q : ∀ H' tl', VA H' a base R sl st' → one4 tl' → K .next (.obj a.m :: .int base :: .obj a.h :: .obj a.lg :: .int want :: .bool ended :: .obj a.f :: .obj a.ho :: .obj a.th :: b9 :: tl') H' ∧ K .cont (.obj a.m :: .int base :: .obj a.h :: .obj a.lg :: .int want :: .bool ended :: .obj a.f :: .obj a.ho :: .obj a.th :: b9 :: tl') H') :
    wpSs (Cn scr n) scr b_fol (.obj a.m :: .int base :: .obj a.h :: .obj a.lg :: .int want :: .bool ended :: .obj a.f :: .obj a.ho :: .obj a.th :: b9 :: tl) H K := by
  obtain ⟨r, hr⟩ : ∃ r, R[st.pc]? = some r := by cases S <;> exact ⟨_, by assumption⟩
  have hp := (List.getElem?_eq_some_iff.mp hr).1
  refine fol_pre Z go hp (by first | exact le1 hn rfl | exact le2 hn rfl | (first | lia | omega)) ?_
  refine fol_mid Z hr ht fun H1 bf Z1 hb hbw => ?_
  cases hf : r.flow with
  | true =>
    refine pf_step (by first | exact le1 hn rfl | exact le2 hn rfl | (first | lia | omega)) Z1 S hr hf (by first | exact le1 hn rfl | exact le2 hn rfl | (first | lia | omega)) fun H2 Z2 => ?_
    refine fol_yes hf ?_
    exact (q H2 _ Z2 (.inr ⟨_, _, _, _, rfl⟩)).2
  | false =>
    refine pf_no (by first | exact le1 hn rfl | exact le2 hn rfl | (first | lia | omega)) hf ?_
    refine fol_no hf Z1 hb ?_
    have gg1 := Z1.thr
    have gg2 := Z1.frm
    have gg3 := Z1.cl
    cases S with
    | set h hs he =>
      cases same_row hr h
      rename_i s e
      show wpS (Cn scr n) scr (.if_ (.cmp .eq (.idx (.loc 10) (.cI 0)) (.cS .kSet)) (.cons (.asgI (.loc 2) (.idx (.loc 10) (.cI 1)) (.call .seen (.cons (.idx (.loc 10) (.cI 2)) (.cons (.loc 2) (.cons (.loc 3) .nil))))) .nil) _) _ H1 _
      refine ifs true (fun Q q => ?_) ?_
      · repeat (first | refine guI True.intro ?_ | refine gnI ?_ | refine gtI ?_ | refine gsI rfl ?_)
        exact q
      repeat (first | refine guI True.intro ?_ | refine guI (X.v_ok _) ?_ | refine guI (T.v_ok _) ?_ | refine gnI ?_ | refine gtI ?_ | refine gsI rfl ?_)
      refine seen_ok (by first | exact le1 hn rfl | exact le2 hn rfl | (first | lia | omega)) (.inl he) Z1.held.at Z1.lo (by show st.lg.length ≤ _; (first | lia | omega)) fun j H2 u2 hj hrow hlog => ?_
      have Z2 := Z1.log u2 hlog
      have lth := lt_at Z1.thr
      have lfr := lt_at Z1.frm
      have llg := lt_at Z1.lo
      obtain ⟨vs, g1, g2, Z3⟩ := Z2.put (s := s) (word_row he Z.hd3) hrow (by simp only [List.mem_cons, List.not_mem_nil, or_false, not_or]; (first | lia | omega))
      repeat (first | refine guI True.intro ?_ | refine insI g1 ?_ | refine lisI g1 ?_ | refine cloI g1 ?_ | refine optI g1 ?_ | refine gnI ?_ | refine gtI ?_ | refine gsI rfl ?_ | ((conv => whnf); first | rw [g1] ))
      refine ⟨by simp; (first | lia | omega), small_nat (by first | exact le1 hn rfl | exact le2 hn rfl | (first | lia | omega)), ?_⟩
      exact (q _ _ Z3 (.inr ⟨_, _, _, _, rfl⟩)).1
    | save h he hb hi =>
      cases same_row hr h
      rename_i i e
      show wpS (Cn scr n) scr (.if_ (.cmp .eq (.idx (.loc 10) (.cI 0)) (.cS .kSet)) _ (.cons (.if_ (.cmp .eq (.idx (.loc 10) (.cI 0)) (.cS .kSave)) (.cons (.asgI (.att (.loc 8) .frame) (.idx (.loc 10) (.cI 1)) (.callL 6 (.cons (.loc 8) (.cons (.idx (.loc 10) (.cI 2)) .nil)))) .nil) _) .nil)) _ H1 _
      refine ifs false (fun Q q => ?_) ?_
      · repeat (first | refine guI True.intro ?_ | refine gnI ?_ | refine gtI ?_ | refine gsI rfl ?_)
        exact q
      refine ifc true (fun Q q => ?_) ?_
      · repeat (first | refine guI True.intro ?_ | refine gnI ?_ | refine gtI ?_ | refine gsI rfl ?_)
        exact q
      repeat (first | refine guI True.intro ?_ | refine guI (X.v_ok _) ?_ | refine guI (T.v_ok _) ?_ | refine insI gg3 ?_ | refine lisI gg3 ?_ | refine cloI gg3 ?_ | refine optI gg3 ?_ | refine gnI ?_ | refine gtI ?_ | refine gsI rfl ?_ | ((conv => whnf); first | rw [gg3] ))
      refine eval_ok (s := .word e) (by first | exact le1 hn rfl | exact le2 hn rfl | (first | lia | omega)) Z1 ⟨.inl he, rfl⟩ (by show st.lg.length ≤ _; (first | lia | omega)) fun H2 Z2 u2 => ?_
      have g1 := Z2.thr
      have g2 := Z2.frm
      have b2 : st.fr.length ≤ 5000 := Z.b2
      have Z3 := Z2.frame (v := .vec (e.codes st.hd)) hb
      repeat (first | refine guI True.intro ?_ | refine insI g1 ?_ | refine lisI g1 ?_ | refine cloI g1 ?_ | refine optI g1 ?_ | refine insI g2 ?_ | refine lisI g2 ?_ | refine cloI g2 ?_ | refine optI g2 ?_ | refine gnI ?_ | refine gtI ?_ | refine gsI rfl ?_ | ((conv => whnf); first | rw [g1] | rw [g2] ))
      refine ⟨by simp; (first | lia | omega), small_nat (by first | exact le1 hn rfl | exact le2 hn rfl | (first | lia | omega)), ?_⟩
      exact (q _ _ Z3 (.inr ⟨_, _, _, _, rfl⟩)).1
    | unlessT h _ _ => cases same_row hr h; cases hf
    | unlessF h _ _ => cases same_row hr h; cases hf
    | match_ h _ _ _ _ => cases same_row hr h; cases hf
    | jump h => cases same_row hr h; cases hf
    | times h _ _ _ => cases same_row hr h; cases hf
    | again0 h _ => cases same_row hr h; cases hf
    | againS h _ _ => cases same_row hr h; cases hf
theorem fol_end {n : Nat} (hn : 5 ≤ n) {H : Hp} {a : Ad} {base sl want : Nat} {R : List Rw} {st : VS} {b9 : V} {tl : List V} {K : Fl → List V → Hp → Prop} (Z : VA H a base R sl st) (hr : R[st.pc]? = some .end_) (he : st.pc + 1 = R.length) (hL : st.lg.length ≤ 60000) (ht : one4 tl)
    (q : ∀ H' loc', VA H' a base R sl { st with pc := st.pc + 1 } → K (.ret (.bool true)) loc' H') :
    wpSs (Cn scr n) scr b_fol (.obj a.m :: .int base :: .obj a.h :: .obj a.lg :: .int want :: .bool true :: .obj a.f :: .obj a.ho :: .obj a.th :: b9 :: tl) H K := by
  have hp := (List.getElem?_eq_some_iff.mp hr).1
  refine fol_pre Z (.inl rfl) hp (by first | exact le1 hn rfl | exact le2 hn rfl | (first | lia | omega)) ?_
  refine fol_mid Z hr ht fun H1 bf Z1 hb hbw => ?_
  refine pf_no (by first | exact le1 hn rfl | exact le2 hn rfl | (first | lia | omega)) rfl ?_
  refine fol_no rfl Z1 hb ?_
  have h2 := Z1.mkr.me
  have h3 := Z1.mkr.co
  have b1 := Z1.b1
  show wpS (Cn scr n) scr (.if_ (.cmp .eq (.idx (.loc 10) (.cI 0)) (.cS .kSet)) _ (.cons (.if_ (.cmp .eq (.idx (.loc 10) (.cI 0)) (.cS .kSave)) _ _) .nil)) _ H1 _
  refine ifs false (fun Q q => ?_) ?_
  · repeat (first | refine guI True.intro ?_ | refine gnI ?_ | refine gtI ?_ | refine gsI rfl ?_)
    exact q
  refine ifc false (fun Q q => ?_) ?_
  · repeat (first | refine guI True.intro ?_ | refine gnI ?_ | refine gtI ?_ | refine gsI rfl ?_)
    exact q
  show wpE (Cn scr n) scr (.and3 (.cmp .eq (.idx (.loc 10) (.cI 0)) (.cS .kEnd)) (.cmp .eq (.loc 11) (.len (.att (.loc 0) .code))) (.cmp .eq (.slc (.att (.loc 8) .frame) (.loc 1)) (.bin .mul (.lst (.cons (.cS .kKept) .nil)) (.loc 1)))) _ H1 _
  repeat (first | refine guI True.intro ?_ | refine insI h2 ?_ | refine lisI h2 ?_ | refine cloI h2 ?_ | refine optI h2 ?_ | refine insI h3 ?_ | refine lisI h3 ?_ | refine cloI h3 ?_ | refine optI h3 ?_ | refine gnI ?_ | refine gtI ?_ | refine gsI rfl ?_ | ((conv => whnf); first | rw [h2] | rw [h3] ))
  refine ⟨by simp; (first | lia | omega), ?_⟩
  conv => whnf
  have e : decide ((st.pc : Int) + 1 = ((R.map Rw.v).length : Int)) = true := decide_eq_true (by simp; (first | lia | omega))
  rw [e]
  refine kept_ok Z1 fun l => ?_
  exact q _ _ Z1.more
theorem fol_out {n : Nat} {H : Hp} {a : Ad} {base sl want : Nat} {R : List Rw} {st : VS} {b2 b6 b7 b9 : V} {tl : List V} {K : Fl → List V → Hp → Prop} (Z : VA H a base R sl st) (hw : want ≤ st.lg.length) (hL : st.lg.length ≤ 60000)
    (q : ∀ H' loc', VA H' a base R sl st → K (.ret (.bool true)) loc' H') :
    wpSs (Cn scr n) scr b_fol (.obj a.m :: .int base :: b2 :: .obj a.lg :: .int want :: .bool false :: b6 :: b7 :: .obj a.th :: b9 :: tl) H K := by
  have h4 := Z.lo
  refine if_take (fun Q q => ?_) ?_
  · repeat (first | refine guI True.intro ?_ | refine insI h4 ?_ | refine lisI h4 ?_ | refine cloI h4 ?_ | refine optI h4 ?_ | refine gnI ?_ | refine gtI ?_ | refine gsI rfl ?_ | ((conv => whnf); first | rw [h4] ))
    refine ⟨by simp; (first | lia | omega), ?_⟩
    repeat (first | refine guI True.intro ?_ | refine gnI ?_ | refine gtI ?_ | refine gsI rfl ?_)
    conv => whnf
    have e : decide ((want : Int) ≤ ((st.lg.map entV).length : Int)) = true := decide_eq_true (by simp; (first | lia | omega))
    rw [e]
    exact q
  · show wpE (Cn scr n) scr (.cmp .eq (.slc (.att (.loc 8) .frame) (.loc 1)) (.bin .mul (.lst (.cons (.cS .kKept) .nil)) (.loc 1))) _ H _
    refine kept_ok Z fun l => ?_
    exact q _ _ Z.more
end Mine
namespace Mine
open PySem
variable {scr : List Int}
theorem step_lg {base : Nat} {R : List Rw} {st st' : VS} (S : Step base R st st') : ∃ l, l.length ≤ 1 ∧ st'.lg = st.lg ++ l := by
  cases S <;> first
    | exact ⟨_, X.logs_len, rfl⟩
    | exact ⟨[], Nat.zero_le _, by simp⟩
theorem path_lg {base k : Nat} {R : List Rw} {st st' : VS} (P : Path base R k st st') : ∃ l, st'.lg = st.lg ++ l := by
  induction P with
  | refl => exact ⟨[], by simp⟩
  | step S _ ih =>
    obtain ⟨l, _, e⟩ := step_lg S
    obtain ⟨l2, e2⟩ := ih
    exact ⟨l ++ l2, by rw [e2, e, List.append_assoc]⟩
noncomputable def fol0 (tl : List V) : Prop := tl = [] ∨ ∃ b9 t2, tl = b9 :: t2 ∧ one4 t2
theorem fol_run {n : Nat} (hn : 5 ≤ n) {a : Ad} {base sl want : Nat} {ended : Bool} {R : List Rw} {K : Fl → List V → Hp → Prop} {st' : VS} (fin : (ended = true ∧ R[st'.pc]? = some .end_ ∧ st'.pc + 1 = R.length) ∨ (ended = false ∧ want ≤ st'.lg.length)) {k : Nat} {st : VS} (P : Path base R k st st') :
    ∀ (vs : List V) (H : Hp) (tl : List V), VA H a base R sl st → k < vs.length → st.lg.length + vs.length ≤ 50000 → fol0 tl →
    (∀ H' loc' st2, VA H' a base R sl st2 → (ended = true → st2.hd = st'.hd ∧ st2.lg = st'.lg) → (ended = false → want ≤ st2.lg.length ∧ ∃ l, st'.lg = st2.lg ++ l) → K (.ret (.bool true)) loc' H') →
    forW (fun _ => True) (fun v loc H k => wpSs (Cn scr n) scr b_fol (setL loc 9 v) H k) vs (.obj a.m :: .int base :: .obj a.h :: .obj a.lg :: .int want :: .bool ended :: .obj a.f :: .obj a.ho :: .obj a.th :: tl) H K := by
  have out : ∀ (w : V) (vs : List V) (H : Hp) (tl : List V) (st : VS), VA H a base R sl st → st.lg.length + (w :: vs).length ≤ 50000 → ended = false → want ≤ st.lg.length → one4 tl →
      (∀ H' loc', VA H' a base R sl st → K (.ret (.bool true)) loc' H') →
      wpSs (Cn scr n) scr b_fol (.obj a.m :: .int base :: .obj a.h :: .obj a.lg :: .int want :: .bool ended :: .obj a.f :: .obj a.ho :: .obj a.th :: w :: tl) H (fun f loc H => match f with
        | .next => forW (fun _ => True) (fun v loc H k => wpSs (Cn scr n) scr b_fol (setL loc 9 v) H k) vs loc H K
        | .cont => forW (fun _ => True) (fun v loc H k => wpSs (Cn scr n) scr b_fol (setL loc 9 v) H k) vs loc H K
        | .ret v => K (.ret v) loc H) := by
    intro w vs H tl st Z hl he hw ht q
    subst he
    refine fol_out Z hw (by simp at hl; (first | lia | omega)) fun H' loc' Z' => ?_
    exact q H' loc' Z'
  induction P with
  | @refl st =>
    intro vs H tl Z hv hl ht q
    cases vs with
    | nil => simp at hv
    | cons w vs =>
      have key : ∀ t2, one4 t2 → wpSs (Cn scr n) scr b_fol (.obj a.m :: .int base :: .obj a.h :: .obj a.lg :: .int want :: .bool ended :: .obj a.f :: .obj a.ho :: .obj a.th :: w :: t2) H (fun f loc H => match f with
        | .next => forW (fun _ => True) (fun v loc H k => wpSs (Cn scr n) scr b_fol (setL loc 9 v) H k) vs loc H K
        | .cont => forW (fun _ => True) (fun v loc H k => wpSs (Cn scr n) scr b_fol (setL loc 9 v) H k) vs loc H K
        | .ret v => K (.ret v) loc H) := by
        intro t2 ht2
        rcases fin with ⟨rfl, h1, h2⟩ | ⟨he, h1⟩
        · refine fol_end hn Z h1 h2 (by simp at hl; (first | lia | omega)) ht2 fun H' loc' Z' => ?_
          exact q H' loc' _ Z' (fun _ => ⟨rfl, rfl⟩) (fun h => by cases h)
        · refine out w vs H t2 st Z hl he h1 ht2 fun H' loc' Z' => ?_
          exact q H' loc' st Z' (fun h => by rw [he] at h; cases h) fun _ => ⟨h1, [], by simp⟩
      refine ⟨True.intro, ?_⟩
      rcases ht with rfl | ⟨b9, t2, rfl, ht2⟩
      · exact key [] (.inl rfl)
      · exact key t2 ht2
  | @step k st st1 st2 S P ih =>
    intro vs H tl Z hv hl ht q
    obtain ⟨l, el, hs⟩ := step_lg S
    cases vs with
    | nil => simp at hv
    | cons w vs =>
      have key : ∀ t2, one4 t2 → wpSs (Cn scr n) scr b_fol (.obj a.m :: .int base :: .obj a.h :: .obj a.lg :: .int want :: .bool ended :: .obj a.f :: .obj a.ho :: .obj a.th :: w :: t2) H (fun f loc H => match f with
        | .next => forW (fun _ => True) (fun v loc H k => wpSs (Cn scr n) scr b_fol (setL loc 9 v) H k) vs loc H K
        | .cont => forW (fun _ => True) (fun v loc H k => wpSs (Cn scr n) scr b_fol (setL loc 9 v) H k) vs loc H K
        | .ret v => K (.ret v) loc H) := by
        intro t2 ht2
        have go : (ended = true ∨ st.lg.length < want) ∨ (ended = false ∧ want ≤ st.lg.length) := by
          cases ended
          · rcases Nat.lt_or_ge st.lg.length want with h | h
            · exact .inl (.inr h)
            · exact .inr ⟨rfl, h⟩
          · exact .inl (.inl rfl)
        rcases go with go | ⟨he, hw⟩
        · refine fol_step hn Z S go (by simp at hl; (first | lia | omega)) ht2 fun H' tl' Z' ht' => ?_
          have hl' : st1.lg.length + vs.length ≤ 50000 := by rw [hs]; simp at hl ⊢; (first | lia | omega)
          have g := ih fin vs H' (w :: tl') Z' (by simp at hv; (first | lia | omega)) hl' (.inr ⟨_, _, rfl, ht'⟩) q
          exact ⟨g, g⟩
        · refine out w vs H t2 st Z hl he hw ht2 fun H' loc' Z' => ?_
          obtain ⟨l2, e2⟩ := path_lg P
          exact q H' loc' st Z' (fun h => by rw [he] at h; cases h) fun _ => ⟨hw, l ++ l2, by rw [e2, hs, List.append_assoc]⟩
      refine ⟨True.intro, ?_⟩
      rcases ht with rfl | ⟨b9, t2, rfl, ht2⟩
      · exact key [] (.inl rfl)
      · exact key t2 ht2
theorem asgA_ok {C : CallP} {o : Nat} {c : Cls} {fs : List (At × V)} {at_ : At} {e : E} {v : V} {r : Ss} {tl : List V} {H : Hp} {K : Fl → List V → Hp → Prop} (h : H[o]? = some (.inst c fs)) (hf : fs.length ≤ 100) (l : Hp) (he : ∀ Q : V → Hp → Prop, Q v (H ++ l) → wpE C scr e (.obj o :: tl) H Q)
    (q : ∀ H', Up [o] H H' → H'[o]? = some (.inst c (putF at_ v fs)) → wpSs C scr r (.obj o :: tl) H' K) : wpSs C scr (.cons (.asgA (.loc 0) at_ e) r) (.obj o :: tl) H K := by
  refine he _ ⟨ne_of_ok True.intro, ?_⟩
  have h1 := at_add (l := l) h
  show insK (H ++ l)[o]? _
  rw [h1]
  exact ⟨hf, q _ (Up.app.trans (Up.set (by simp))) (at_set_self h1)⟩
theorem wp_same {C : CallP} {e : E} {v : V} {loc : List V} {H : Hp} (h : ∀ Q : V → Hp → Prop, Q v H → wpE C scr e loc H Q) (Q : V → Hp → Prop) (q : Q v (H ++ [])) : wpE C scr e loc H Q := h Q (by rwa [List.append_nil] at q)
theorem init_ok {n : Nat} (hn : 1 ≤ n) {o : Nat} {b1 b2 b3 b4 b5 : V} (h1 : b1.ok) (h2 : b2.ok) (h3 : b3.ok) (h4 : b4.ok) (h5 : b5.ok) {H : Hp} {Q : V → Hp → Prop} (h : H[o]? = some (.inst .thread []))
    (q : ∀ H' x1 x2 x3, Up [o] H H' → H'[o]? = some (.inst .thread [(.number, b1), (.code, b2), (.pc, b3), (.frame, b4), (.path, b5), (.calls, .obj x1), (.scopes, .obj x2), (.parent, .int (-1)), (.children, .obj x3), (.done, .bool false), (.wait, .none), (.stamp, .int 0), (.looking, .bool false), (.again, .bool false)]) → Q .none H') :
    Cn scr n (.mt .threadInit) [.obj o, b1, b2, b3, b4, b5] H Q := by
  obtain ⟨m, rfl⟩ : ∃ m, n = m + 1 := ⟨n - 1, by (first | lia | omega)⟩
  refine ⟨rfl, ?_⟩
  refine asgA_ok h (Nat.le_of_ble_eq_true rfl) [] (wp_same fun Q q => ⟨ne_of_ok h1, q⟩) fun H1 u1 g1 => ?_
  refine asgA_ok g1 (Nat.le_of_ble_eq_true rfl) [] (wp_same fun Q q => ⟨ne_of_ok h2, q⟩) fun H2 u2 g2 => ?_
  refine asgA_ok g2 (Nat.le_of_ble_eq_true rfl) [] (wp_same fun Q q => ⟨ne_of_ok h3, q⟩) fun H3 u3 g3 => ?_
  refine asgA_ok g3 (Nat.le_of_ble_eq_true rfl) [] (wp_same fun Q q => ⟨ne_of_ok h4, q⟩) fun H4 u4 g4 => ?_
  refine asgA_ok g4 (Nat.le_of_ble_eq_true rfl) [] (wp_same fun Q q => ⟨ne_of_ok h5, q⟩) fun H5 u5 g5 => ?_
  refine asgA_ok g5 (Nat.le_of_ble_eq_true rfl) [.list []] (fun Q q => q) fun H6 u6 g6 => ?_
  refine asgA_ok g6 (Nat.le_of_ble_eq_true rfl) [.list []] (fun Q q => q) fun H7 u7 g7 => ?_
  refine asgA_ok (v := .int (-1)) g7 (Nat.le_of_ble_eq_true rfl) [] (wp_same fun Q q => q) fun H8 u8 g8 => ?_
  refine asgA_ok g8 (Nat.le_of_ble_eq_true rfl) [.dict0] (fun Q q => q) fun H9 u9 g9 => ?_
  refine asgA_ok (v := .bool false) g9 (Nat.le_of_ble_eq_true rfl) [] (wp_same fun Q q => q) fun H10 u10 g10 => ?_
  refine asgA_ok (v := .none) g10 (Nat.le_of_ble_eq_true rfl) [] (wp_same fun Q q => q) fun H11 u11 g11 => ?_
  refine asgA_ok (v := .int 0) g11 (Nat.le_of_ble_eq_true rfl) [] (wp_same fun Q q => q) fun H12 u12 g12 => ?_
  refine asgA_ok (v := .bool false) g12 (Nat.le_of_ble_eq_true rfl) [] (wp_same fun Q q => q) fun H13 u13 g13 => ?_
  refine asgA_ok (v := .bool false) g13 (Nat.le_of_ble_eq_true rfl) [] (wp_same fun Q q => q) fun H14 u14 g14 => ?_
  exact q H14 _ _ _ (u1.trans (u2.trans (u3.trans (u4.trans (u5.trans (u6.trans (u7.trans (u8.trans (u9.trans (u10.trans (u11.trans (u12.trans (u13.trans u14))))))))))))) g14
end Mine
namespace Mine
open PySem
variable {scr : List Int}
theorem Held.less {W W' : List Nat} {H : Hp} {h : Nat} {hd : Nat → List Nat} (x : Held W H h hd) (hw : ∀ j, j ∈ W' → j ∈ W ∨ H.length ≤ j) : Held W' H h hd := by
  obtain ⟨w, vs, a, b, f⟩ := x
  refine ⟨fun m => ?_, vs, a, b, fun s hs => ⟨(f s hs).1, ?_⟩⟩
  · have := lt_at a
    rcases hw _ m with m | m
    · exact w m
    · (first | lia | omega)
  · obtain ⟨_, j, n, p, q⟩ := f s hs
    refine ⟨j, fun m => ?_, p, q⟩
    have := lt_at q
    rcases hw _ m with m | m
    · exact n m
    · (first | lia | omega)
noncomputable def t_flw : Ss := match t_follow with | .cons _ (.cons _ (.cons _ (.cons _ r))) => r | _ => .nil
noncomputable def st0 (base sl : Nat) (hd : Nat → List Nat) : VS := ⟨0, List.replicate base .kept ++ List.replicate (sl - base) .none, hd, []⟩
theorem follow_ok {n : Nat} (hn : 6 ≤ n) {m c h lg base sl want k : Nat} {ended : Bool} {R : List Rw} {hd : Nat → List Nat} {st' : VS} {H : Hp} {Q : V → Hp → Prop} (M : MK H m c R sl) (hh : Held [lg] H h hd) (hl : H[lg]? = some (.list [])) (hc : c ∉ [h, lg])
    (b1 : R.length ≤ 4100) (b2 : sl ≤ 4900) (b3 : base ≤ 100) (b4 : base ≤ sl) (P : Path base R k (st0 base sl hd) st') (hk : k < 300) (fin : (ended = true ∧ R[st'.pc]? = some .end_ ∧ st'.pc + 1 = R.length) ∨ (ended = false ∧ want ≤ st'.lg.length))
    (q : ∀ H' (st2 : VS), Up [h, lg] H H' → Held [lg] H' h st2.hd → H'[lg]? = some (.list (st2.lg.map entV)) → (ended = true → st2.hd = st'.hd ∧ st2.lg = st'.lg) → (ended = false → want ≤ st2.lg.length ∧ ∃ l, st'.lg = st2.lg ++ l) → Q (.bool true) H') :
    Cn scr n (.fn .follow) [.obj m, .int base, .obj h, .obj lg, .int want, .bool ended] H Q := by
  obtain ⟨j, rfl⟩ : ∃ j, n = j + 1 := ⟨n - 1, by (first | lia | omega)⟩
  have lm := lt_at M.me
  have lc := lt_at M.co
  have llg := lt_at hl
  have lh : h < H.length := by obtain ⟨_, vs, x, _⟩ := hh; exact lt_at x
  have nm1 : m ≠ h := by
    rintro rfl
    obtain ⟨_, vs, x, _⟩ := hh
    have := M.me.symm.trans x
    cases this
  have nm2 : m ≠ lg := by
    rintro rfl
    have := M.me.symm.trans hl
    cases this
  have hw := hh.1
  simp only [List.mem_cons, List.not_mem_nil, or_false, not_or] at hc hw
  refine ⟨rfl, ?_⟩
  repeat (first | refine guI True.intro ?_ | refine gnI ?_ | refine gtI ?_ | refine gsI rfl ?_)
  refine init_ok (by first | exact le1 hn rfl | exact le2 hn rfl | (first | lia | omega)) (b1 := .int (-1)) (b2 := .obj _) (b3 := .int 0) (b4 := .obj _) (b5 := .str .kHost) True.intro True.intro True.intro True.intro True.intro at_new fun H1 y1 y2 y3 u1 g1 => ?_
  refine ⟨rfl, ?_⟩
  have v1 : Up [(H ++ [CO.clo (V.obj h) (V.obj lg)] ++ [CO.list []] ++ [CO.list []]).length] H H1 := (((Up.app.trans Up.app).trans Up.app).trans Up.app).trans u1
  have cl1 : H1[H.length]? = some (.clo (.obj h) (.obj lg)) := u1.2 _ _ (at_add (at_add (at_add at_new))) (by simp)
  revert v1 g1 cl1
  generalize ho : (H ++ [CO.clo (V.obj h) (V.obj lg)] ++ [CO.list []] ++ [CO.list []]).length = hoA
  intro g1 v1 cl1
  have lho : H.length < hoA := by rw [← ho]; simp <;> (first | lia | omega)
  have gho := lt_at g1
  -- host.evaluate_in
  repeat (first | refine guI True.intro ?_ | refine insI g1 ?_ | refine lisI g1 ?_ | refine cloI g1 ?_ | refine optI g1 ?_ | refine gnI ?_ | refine gtI ?_ | refine gsI rfl ?_ | ((conv => whnf); first | rw [g1] ))
  refine ⟨by simp, ?_⟩
  have u2 : Up [hoA] H1 (H1.set hoA (.inst .thread (putF .evaluateIn (.obj H.length) [(.number, .int (-1)), (.code, .obj (H ++ [CO.clo (V.obj h) (V.obj lg)]).length), (.pc, .int 0), (.frame, .obj (H ++ [CO.clo (V.obj h) (V.obj lg)] ++ [CO.list []]).length), (.path, .str .kHost), (.calls, .obj y1), (.scopes, .obj y2), (.parent, .int (-1)), (.children, .obj y3), (.done, .bool false), (.wait, .none), (.stamp, .int 0), (.looking, .bool false), (.again, .bool false)]))) := Up.set (by simp)
  have ghs := at_set_self (o' := (CO.inst .thread (putF .evaluateIn (.obj H.length) [(.number, .int (-1)), (.code, .obj (H ++ [CO.clo (V.obj h) (V.obj lg)]).length), (.pc, .int 0), (.frame, .obj (H ++ [CO.clo (V.obj h) (V.obj lg)] ++ [CO.list []]).length), (.path, .str .kHost), (.calls, .obj y1), (.scopes, .obj y2), (.parent, .int (-1)), (.children, .obj y3), (.done, .bool false), (.wait, .none), (.stamp, .int 0), (.looking, .bool false), (.again, .bool false)]))) g1
  have cl2 := u2.2 _ _ cl1 (by simp; (first | lia | omega))
  have v2 := v1.trans u2
  refine (?_ : ∀ H2 : Hp, Up [hoA] H H2 → H2[H.length]? = some (.clo (.obj h) (.obj lg)) → (∃ gs, H2[hoA]? = some (.inst .thread gs) ∧ lookF .evaluateIn gs = some (.obj H.length)) →
    wpSs (Cn scr j) scr (match t_follow with | .cons _ (.cons _ (.cons _ r)) => r | _ => .nil) [.obj m, .int base, .obj h, .obj lg, .int want, .bool ended, .obj H.length, .obj hoA] H2 (bodyQ Q)) _ v2 cl2 ⟨_, ghs, rfl⟩
  clear v2 ghs u2 cl2 g1 cl1 v1 gho u1
  intro H2 v2 cl2 hos2
  obtain ⟨gs, gs1, gs2⟩ := hos2
  have lho2 := lt_at gs1
  have me2 := v2.2 _ _ M.me (by simp; (first | lia | omega))
  have co2 := v2.2 _ _ M.co (by simp; (first | lia | omega))
  repeat (first | refine guI True.intro ?_ | refine insI me2 ?_ | refine lisI me2 ?_ | refine cloI me2 ?_ | refine optI me2 ?_ | refine gnI ?_ | refine gtI ?_ | refine gsI rfl ?_ | ((conv => whnf); first | rw [me2] ))
  refine ⟨rfl, ?_⟩
  rw [at_new]
  conv => whnf
  refine ⟨by (first | lia | omega), by (first | lia | omega), ?_⟩
  repeat (first | refine guI True.intro ?_ | refine insI me2 ?_ | refine lisI me2 ?_ | refine cloI me2 ?_ | refine optI me2 ?_ | refine insI (at_add (at_add (at_add me2))) ?_ | refine lisI (at_add (at_add (at_add me2))) ?_ | refine cloI (at_add (at_add (at_add me2))) ?_ | refine optI (at_add (at_add (at_add me2))) ?_ | refine gnI ?_ | refine gtI ?_ | refine gsI rfl ?_ | ((conv => whnf); first | rw [me2] | rw [at_add (at_add (at_add me2))] ))
  refine ⟨rfl, ?_⟩
  rw [at_new]
  conv => whnf
  refine ⟨by (first | lia | omega), by (first | lia | omega), ?_⟩
  conv => whnf
  refine ⟨rfl, ?_⟩
  rw [at_add (at_add at_new), at_new]
  conv => whnf
  refine ⟨by simp; (first | lia | omega), ?_⟩
  conv => whnf
  have ef : List.replicate ((base : Int)).toNat (V.str .kKept) ++ List.replicate ((sl : Int) - base).toNat V.none = (List.replicate base FV.kept ++ List.replicate (sl - base) FV.none).map FV.v := by
    rw [List.map_append, List.map_replicate, List.map_replicate]
    have : ((sl : Int) - base).toNat = sl - base := by (first | lia | omega)
    rw [this]; rfl
  rw [ef]
  refine init_ok (by first | exact le1 hn rfl | exact le2 hn rfl | (first | lia | omega)) (b1 := .int 0) (b2 := .obj c) (b3 := .int 0) (b4 := .obj _) (b5 := .str .kTop) True.intro True.intro True.intro True.intro True.intro at_new fun H3 x1 x2 x3 u3 g3 => ?_
  refine ⟨rfl, ?_⟩
  have hfr := u3.2 _ _ (at_add at_new) (by simp)
  have w3 := (((((Up.app (W := [_]) (H := H2)).trans Up.app).trans Up.app).trans Up.app).trans (Up.app.trans (Up.app.trans u3)))
  have lfr : H2.length ≤ (H2 ++ [CO.list [V.str Tg.kKept]] ++ [CO.list (List.replicate ((base : Int)).toNat (V.str .kKept))] ++ [CO.list [V.none]] ++ [CO.list (List.replicate ((sl : Int) - base).toNat V.none)]).length := by simp <;> (first | lia | omega)
  have lth : ∀ o : CO, (H2 ++ [CO.list [V.str Tg.kKept]] ++ [CO.list (List.replicate ((base : Int)).toNat (V.str .kKept))] ++ [CO.list [V.none]] ++ [CO.list (List.replicate ((sl : Int) - base).toNat V.none)] ++ [o]).length = (H2 ++ [CO.list [V.str Tg.kKept]] ++ [CO.list (List.replicate ((base : Int)).toNat (V.str .kKept))] ++ [CO.list [V.none]] ++ [CO.list (List.replicate ((sl : Int) - base).toNat V.none)]).length + 1 := fun o => by simp
  rw [lth] at w3 g3 ⊢
  revert hfr w3 g3 lfr
  generalize (H2 ++ [CO.list [V.str Tg.kKept]] ++ [CO.list (List.replicate ((base : Int)).toNat (V.str .kKept))] ++ [CO.list [V.none]] ++ [CO.list (List.replicate ((sl : Int) - base).toNat V.none)]).length = frA
  intro g3 hfr w3 lfr
  have gH2 := v2.1
  have v2' : Up [] H H2 := v2.shed (by first | exact le1 hn rfl | exact le2 hn rfl | (first | lia | omega))
  have v3 : Up [] H H3 := ((v2'.mono (by simp)).trans w3).shed (by first | exact le1 hn rfl | exact le2 hn rfl | (first | lia | omega))
  conv => whnf
  refine ⟨by decide, by decide, ?_⟩
  show forW (fun _ => True) (fun v loc H k => wpSs (Cn scr j) scr b_fol (setL loc 9 v) H k) (upTo 300) [.obj m, .int base, .obj h, .obj lg, .int want, .bool ended, .obj H.length, .obj hoA, .obj (frA + 1)] H3 _
  have lo3 : H3[lg]? = some (.list ((([] : List (X × List Nat))).map entV)) := v3.2 _ _ hl (by simp)
  refine fol_run (sl := sl) (a := ⟨H, m, c, h, lg, H.length, hoA, frA + 1, frA, x1, x2, x3⟩) (by first | exact le1 hn rfl | exact le2 hn rfl | (first | lia | omega)) fin P (upTo 300) H3 [] ⟨?_, ?_, lo3, ?_, ⟨gs, ?_, gs2⟩, g3, hfr, ?_, ?_, ?_, ?_, ?_, ?_, b1, ?_, b3, v3.mono (by simp), by show H.length ≤ frA + 1; (first | lia | omega), by show H.length ≤ frA; (first | lia | omega)⟩ (by rw [len_upTo]; exact hk) (by rw [len_upTo]; simp [st0]) (.inl rfl) fun H' loc' st2 Z e1 e2 => q H' st2 Z.an (Z.held.less (by simp <;> (first | lia | omega))) Z.lo e1 e2
  · exact M.up v3 (by simp) (by simp)
  · exact (hh.less (by simp; (first | lia | omega))).up (v3.mono (by simp))
  · exact w3.2 _ _ cl2 (by simp; (first | lia | omega))
  · exact w3.2 _ _ gs1 (by simp; (first | lia | omega))
  · simp only [Ad.W, List.mem_cons, List.not_mem_nil, or_false, not_or]; (first | lia | omega)
  · simp only [Ad.W, List.mem_cons, List.not_mem_nil, or_false, not_or]; (first | lia | omega)
  · simp only [Ad.W, List.mem_cons, List.not_mem_nil, or_false, not_or]; (first | lia | omega)
  · simp only [Ad.W, List.mem_cons, List.not_mem_nil, or_false, not_or]; (first | lia | omega)
  · show frA ≠ lg; (first | lia | omega)
  · show (List.replicate base FV.kept ++ List.replicate (sl - base) FV.none).take base = _
    rw [List.take_append_of_le_length (by simp), List.take_of_length_le (by simp)]
  · show (List.replicate base FV.kept ++ List.replicate (sl - base) FV.none).length ≤ 5000
    simp; (first | lia | omega)
end Mine
namespace Mine
open PySem
variable {scr : List Int}
theorem HeldAt.up {H H' : Hp} {h : Nat} {hd : Nat → List Nat} (x : HeldAt H h hd) (u : Up [] H H') : HeldAt H' h hd := by
  obtain ⟨vs, a, b, f⟩ := x
  exact ⟨vs, u.2 _ _ a (by simp), b, fun s hs => ⟨(f s hs).1, by obtain ⟨_, j, p, q⟩ := f s hs; exact ⟨j, p, u.2 _ _ q (by simp)⟩⟩⟩
theorem Held.far {W : List Nat} {H : Hp} {h h2 : Nat} {hd hd2 : Nat → List Nat} (x : Held W H h hd) (y : HeldAt H h2 hd2) (ne : h ≠ h2) : Held (h2 :: W) H h hd := by
  obtain ⟨w, vs, a, b, f⟩ := x
  obtain ⟨vs2, a2, b2, f2⟩ := y
  refine ⟨by simp only [List.mem_cons, not_or]; exact ⟨ne, w⟩, vs, a, b, fun s hs => ⟨(f s hs).1, ?_⟩⟩
  obtain ⟨r3, j, n, p, q⟩ := f s hs
  refine ⟨j, ?_, p, q⟩
  simp only [List.mem_cons, not_or]
  refine ⟨?_, n⟩
  rintro rfl
  rw [a2] at q
  obtain ⟨_, k, p2, _⟩ := f2 0 (by first | exact le1 hn rfl | exact le2 hn rfl | (first | lia | omega))
  exact row3_ne r3 (co_inj (Option.some.inj q)).symm p2
theorem copy_ok {C : CallP} {h : Nat} {hd : Nat → List Nat} {b0 b1 : V} {tl : List V} {H : Hp} {Q : V → Hp → Prop} (hh : HeldAt H h hd)
    (q : ∀ H' f, Up [] H H' → H.length ≤ f → (∀ W : List Nat, (∀ j, j ∈ W → j < H.length ∨ H'.length ≤ j) → Held W H' f hd) → Q (.obj f) H') :
    wpE C scr (.comp (.loc 2) [] 0 (.list_ (.loc 0))) (b0 :: b1 :: .obj h :: tl) H Q := by
  obtain ⟨vs, e1, e2, f⟩ := hh
  obtain ⟨r0, j0, p0, q0⟩ := f 0 (by first | exact le1 hn rfl | exact le2 hn rfl | (first | lia | omega))
  obtain ⟨r1, j1, p1, q1⟩ := f 1 (by first | exact le1 hn rfl | exact le2 hn rfl | (first | lia | omega))
  obtain ⟨r2, j2, p2, q2⟩ := f 2 (by first | exact le1 hn rfl | exact le2 hn rfl | (first | lia | omega))
  match vs, e2, p0, p1, p2 with
  | [v0, v1, v2], _, p0, p1, p2 =>
    cases p0; cases p1; cases p2
    have l0 : (rowV (hd 0)).length ≤ 100000 := by obtain ⟨a, b, c, e, _⟩ := r0; simp [rowV, e]
    have l1 : (rowV (hd 1)).length ≤ 100000 := by obtain ⟨a, b, c, e, _⟩ := r1; simp [rowV, e]
    have l2 : (rowV (hd 2)).length ≤ 100000 := by obtain ⟨a, b, c, e, _⟩ := r2; simp [rowV, e]
    repeat (first | refine guI True.intro ?_ | refine insI e1 ?_ | refine lisI e1 ?_ | refine cloI e1 ?_ | refine optI e1 ?_ | refine gnI ?_ | refine gtI ?_ | refine gsI rfl ?_ | ((conv => whnf); first | rw [e1] ))
    refine ⟨by simp, e1, ?_⟩
    repeat (first | refine guI True.intro ?_ | refine insI q0 ?_ | refine lisI q0 ?_ | refine cloI q0 ?_ | refine optI q0 ?_ | refine gnI ?_ | refine gtI ?_ | refine gsI rfl ?_ | ((conv => whnf); first | rw [q0] ))
    refine ⟨l0, ?_⟩
    refine ⟨at_add e1, ?_⟩
    repeat (first | refine guI True.intro ?_ | refine insI (at_add q1) ?_ | refine lisI (at_add q1) ?_ | refine cloI (at_add q1) ?_ | refine optI (at_add q1) ?_ | refine gnI ?_ | refine gtI ?_ | refine gsI rfl ?_ | ((conv => whnf); first | rw [at_add q1] ))
    refine ⟨l1, ?_⟩
    refine ⟨at_add (at_add e1), ?_⟩
    repeat (first | refine guI True.intro ?_ | refine insI (at_add (at_add q2)) ?_ | refine lisI (at_add (at_add q2)) ?_ | refine cloI (at_add (at_add q2)) ?_ | refine optI (at_add (at_add q2)) ?_ | refine gnI ?_ | refine gtI ?_ | refine gsI rfl ?_ | ((conv => whnf); first | rw [at_add (at_add q2)] ))
    refine ⟨l2, ?_⟩
    refine ⟨at_add (at_add (at_add e1)), ?_⟩
    refine q _ _ (((Up.app.trans Up.app).trans Up.app).trans Up.app) (by simp <;> (first | lia | omega)) fun W hW => ?_
    have nw : ∀ j, H.length ≤ j → j < H.length + 4 → j ∉ W := fun j g1 g2 m => by
      have := hW j m
      simp at this
      (first | lia | omega)
    refine ⟨nw _ (by simp <;> (first | lia | omega)) (by simp), _, at_new, rfl, fun s hs => ?_⟩
    rcases (by (first | lia | omega) : s = 0 ∨ s = 1 ∨ s = 2) with rfl | rfl | rfl
    · exact ⟨r0, _, nw _ (Nat.le_refl _) (by first | exact le1 hn rfl | exact le2 hn rfl | (first | lia | omega)), rfl, at_add (at_add (at_add at_new))⟩
    · exact ⟨r1, _, nw _ (by simp) (by simp), rfl, at_add (at_add at_new)⟩
    · exact ⟨r2, _, nw _ (by simp <;> (first | lia | omega)) (by simp), rfl, at_add at_new⟩
theorem held_eq {H : Hp} {i j : Nat} {hd : Nat → List Nat} {Q : V → Hp → Prop} (hi : HeldAt H i hd) (hj : HeldAt H j hd) (q : Q (.bool true) H) : eqW true (.obj i) (.obj j) H Q := by
  have key : ∀ k, HeldAt H k hd → Dat H (.obj k) (.list [.list (rowD (hd 0)), .list (rowD (hd 1)), .list (rowD (hd 2))]) := by
    rintro k ⟨vs, e1, e2, f⟩
    obtain ⟨r0, j0, p0, q0⟩ := f 0 (by first | exact le1 hn rfl | exact le2 hn rfl | (first | lia | omega))
    obtain ⟨r1, j1, p1, q1⟩ := f 1 (by first | exact le1 hn rfl | exact le2 hn rfl | (first | lia | omega))
    obtain ⟨r2, j2, p2, q2⟩ := f 2 (by first | exact le1 hn rfl | exact le2 hn rfl | (first | lia | omega))
    match vs, e2, p0, p1, p2 with
    | [v0, v1, v2], _, p0, p1, p2 =>
      cases p0; cases p1; cases p2
      exact .obj e1 (.cons (.obj q0 rowD_ok.1) (.cons (.obj q1 rowD_ok.1) (.cons (.obj q2 rowD_ok.1) .nil)))
  refine ⟨⟨_, key i hi, key j hj, ?_⟩, q⟩
  have h0 := (rowD_ok (H := H) (r := hd 0)).2
  have h1 := (rowD_ok (H := H) (r := hd 1)).2
  have h2 := (rowD_ok (H := H) (r := hd 2)).2
  show max (PyData.depthAll (rowD (hd 0)) + 1) (max (PyData.depthAll (rowD (hd 1)) + 1) (max (PyData.depthAll (rowD (hd 2)) + 1) 0)) + 1 ≤ 64
  (first | lia | omega)
theorem mkInit_ok {n : Nat} (hn : 1 ≤ n) {o base : Nat} {H : Hp} {Q : V → Hp → Prop} (h : H[o]? = some (.inst .maker [])) (q : ∀ H' c, Up [o] H H' → H.length ≤ c → MK H' o c [] base → Q .none H') : Cn scr n (.mt .makerInit) [.obj o, .int base] H Q := by
  obtain ⟨m, rfl⟩ : ∃ m, n = m + 1 := ⟨n - 1, by (first | lia | omega)⟩
  refine ⟨rfl, ?_⟩
  refine asgA_ok h (by simp) [] (wp_same fun Q q => ⟨ne_of_ok True.intro, q⟩) fun H1 u1 g1 => ?_
  have g2 := at_add (l := [.list []]) g1
  have lo := lt_at g1
  repeat (first | refine guI True.intro ?_ | refine insI g1 ?_ | refine lisI g1 ?_ | refine cloI g1 ?_ | refine optI g1 ?_ | refine insI g2 ?_ | refine lisI g2 ?_ | refine cloI g2 ?_ | refine optI g2 ?_ | refine gnI ?_ | refine gtI ?_ | refine gsI rfl ?_ | ((conv => whnf); first | rw [g1] | rw [g2] ))
  refine ⟨by simp [putF], ?_⟩
  exact q _ H1.length (u1.trans (Up.app.trans (Up.set (by simp)))) u1.1 ⟨at_set_self g2, at_set_ne at_new (by first | exact le1 hn rfl | exact le2 hn rfl | (first | lia | omega))⟩
end Mine
namespace Mine
open PySem
variable {scr : List Int}
theorem small_nat' {n : Nat} (h : n < 1000000) : small (n : Int) = true := small_nat h
theorem whole_law {t : T} {hd : Nat → List Nat} {base most : Nat} {r : Bool} {σ' : S} (wf : t.wf) (h3 : Hd3 hd) (e : Ev (.one t) ⟨most, hd, []⟩ r σ') (hm : most ≤ 36) :
    ∃ k st', k < 300 ∧ Path base (t.comp 0 base ++ [.end_]) k (st0 base (base + t.slots) hd) st' ∧ st'.lg = σ'.lg ∧
      ((r = true ∧ (t.comp 0 base ++ [Rw.end_])[st'.pc]? = some .end_ ∧ st'.pc + 1 = (t.comp 0 base ++ [Rw.end_]).length ∧ st'.hd = σ'.hd) ∨ r = false) := by
  have ha : t.at (t.comp 0 base ++ [Rw.end_]) 0 base := T.at_of t 0 base fun i x h => by
    rw [Nat.zero_add, List.getElem?_append_left (List.getElem?_eq_some_iff.mp h).1]; exact h
  have ls : base + t.slots - base = t.slots := by (first | lia | omega)
  have R := e.sim (base := base) (code := t.comp 0 base ++ [Rw.end_]) wf h3 0 base t.len (st0 base (base + t.slots) hd).fr ⟨ha, by (first | lia | omega)⟩ (Nat.le_refl _) (by simp [st0, Cmd.slots, ls]) True.intro
  cases r with
  | true =>
    obtain ⟨k, fr', P, b, _, _⟩ := R
    simp only [Cmd.ex, Cmd.gain] at b
    refine ⟨k, _, by (first | lia | omega), P, rfl, .inl ⟨rfl, ?_, ?_, rfl⟩⟩
    · rw [List.getElem?_append_right (by rw [T.comp_len]; exact Nat.le_refl _), T.comp_len, Nat.sub_self]; rfl
    · simp [T.comp_len]
  | false =>
    obtain ⟨k, st', P, b, l⟩ := R
    simp only [Cmd.ex] at b
    exact ⟨k, st', by (first | lia | omega), P, l, .inr rfl⟩
noncomputable def t_same4 : Ss := match t_same with | .cons _ (.cons _ (.cons _ (.cons _ r))) => r | _ => .nil
noncomputable def t_same10 : Ss := match t_same with | .cons _ (.cons _ (.cons _ (.cons _ (.cons _ (.cons _ (.cons _ (.cons _ (.cons _ (.cons _ r))))))))) => r | _ => .nil
theorem eqE_ok {C : CallP} {a b : E} {x y : V} {loc : List V} {H : Hp} {Q : V → Hp → Prop} (ha : ∀ Q : V → Hp → Prop, Q x H → wpE C scr a loc H Q) (hb : ∀ Q : V → Hp → Prop, Q y H → wpE C scr b loc H Q) (h : eqW true x y H Q) : wpE C scr (.cmp .eq a b) loc H Q := ha _ (hb _ h)
theorem and2_t {C : CallP} {a b : E} {loc : List V} {H : Hp} {Q : V → Hp → Prop} (ha : ∀ Q : V → Hp → Prop, Q (.bool true) H → wpE C scr a loc H Q) (hb : wpE C scr b loc H Q) : wpE C scr (.and2 a b) loc H Q := ha _ hb
theorem ifH_ok {C : CallP} {c : E} {t r : Ss} {loc : List V} {H : Hp} {K : Fl → List V → Hp → Prop} (h : wpE C scr c loc H (fun x H => match x with | .bool b => bif b then wpSs C scr t loc H (fun f loc H => match f with | .next => wpSs C scr r loc H K | .cont => K .cont loc H | .ret v => K (.ret v) loc H) else wpSs C scr r loc H K | _ => False)) : wpSs C scr (.cons (.if_ c t .nil) r) loc H K := h
theorem asgH_ok {C : CallP} {i : Nat} {e : E} {r : Ss} {loc : List V} {H : Hp} {K : Fl → List V → Hp → Prop} (h : wpE C scr e loc H (fun v H => wpSs C scr r (setL loc i v) H K)) : wpSs C scr (.cons (.asg i e) r) loc H K := h
theorem exH_ok {C : CallP} {e : E} {r : Ss} {loc : List V} {H : Hp} {K : Fl → List V → Hp → Prop} (h : wpE C scr e loc H (fun v H => wpSs C scr r loc H K)) : wpSs C scr (.cons (.ex e) r) loc H K := h
noncomputable def t_same5 : Ss := match t_same with | .cons _ (.cons _ (.cons _ (.cons _ (.cons _ r)))) => r | _ => .nil
noncomputable def t_same7 : Ss := match t_same with | .cons _ (.cons _ (.cons _ (.cons _ (.cons _ (.cons _ (.cons _ r)))))) => r | _ => .nil
noncomputable def t_same9 : Ss := match t_same with | .cons _ (.cons _ (.cons _ (.cons _ (.cons _ (.cons _ (.cons _ (.cons _ (.cons _ r)))))))) => r | _ => .nil
theorem same_tail {C : CallP} {b0 b1 b2 b3 b8 : V} {h1 h2 lg1 lg2 : Nat} {ended : Bool} {D L : List (X × List Nat)} {hd1 hd2 : Nat → List Nat} {H : Hp} {Q : V → Hp → Prop} (x1 : HeldAt H h1 hd1) (x2 : HeldAt H h2 hd2)
    (y1 : H[lg1]? = some (.list (D.map entV))) (y2 : H[lg2]? = some (.list (L.map entV))) (hL : L.length ≤ 90000) (hD : D.length ≤ 90000) (e1 : ended = true → hd1 = hd2 ∧ L = D) (e2 : ended = false → L = D) (q : ∀ l, Q (.bool true) (H ++ l)) :
    wpSs C scr t_same10 [b0, b1, b2, b3, .obj h1, .obj h2, .obj lg1, .bool ended, b8, .obj lg2] H (bodyQ Q) := by
  cases ended with
  | true =>
    obtain ⟨rfl, rfl⟩ := e1 rfl
    refine if_take (fun Q' q' => ?_) ?_
    · refine ⟨ne_of_ok True.intro, ?_⟩
      exact q'
    · show wpE C scr (.and2 (.cmp .eq (.loc 9) (.loc 6)) (.cmp .eq (.loc 4) (.loc 5))) _ H _
      refine and2_t (fun Q' q' => eqE_ok (x := .obj lg2) (y := .obj lg1) (fun Q q => ⟨ne_of_ok True.intro, q⟩) (fun Q q => ⟨ne_of_ok True.intro, q⟩) (log_eq y2 y1 q')) ?_
      refine eqE_ok (x := .obj h1) (y := .obj h2) (fun Q q => ⟨ne_of_ok True.intro, q⟩) (fun Q q => ⟨ne_of_ok True.intro, q⟩) (held_eq x1 x2 ?_)
      have := q []
      rw [List.append_nil] at this
      exact this
  | false =>
    have := e2 rfl
    subst this
    refine if_skip (fun Q' q' => ?_) ?_
    · refine ⟨ne_of_ok True.intro, ?_⟩
      exact q'
    · repeat (first | refine guI True.intro ?_ | refine insI y1 ?_ | refine lisI y1 ?_ | refine cloI y1 ?_ | refine optI y1 ?_ | refine insI y2 ?_ | refine lisI y2 ?_ | refine cloI y2 ?_ | refine optI y2 ?_ | refine gnI ?_ | refine gtI ?_ | refine gsI rfl ?_ | ((conv => whnf); first | rw [y1] | rw [y2] ))
      refine ⟨by simp; (first | lia | omega), ?_⟩
      repeat (first | refine guI True.intro ?_ | refine insI y1 ?_ | refine lisI y1 ?_ | refine cloI y1 ?_ | refine optI y1 ?_ | refine insI y2 ?_ | refine lisI y2 ?_ | refine cloI y2 ?_ | refine optI y2 ?_ | refine gnI ?_ | refine gtI ?_ | refine gsI rfl ?_ | ((conv => whnf); first | rw [y1] | rw [y2] ))
      refine ⟨small_nat' (by simp; (first | lia | omega)), by simp; (first | lia | omega), ?_⟩
      refine ⟨ne_of_ok True.intro, ?_⟩
      have et : (L.map entV).take (((L.map entV).length : Int)).toNat = L.map entV := by rw [Int.toNat_natCast, List.take_length]
      show eqW true (.obj H.length) (.obj lg1) (H ++ [.list ((L.map entV).take (((L.map entV).length : Int)).toNat)]) _
      rw [et]
      refine log_eq at_new (at_add y1) ?_
      exact q _
theorem asgC_ok {C : CallP} {i x : Nat} {src elt : E} {tb : List Nat} {r : Ss} {loc : List V} {H : Hp} {K : Fl → List V → Hp → Prop} (h : wpE C scr (.comp src tb x elt) loc H (fun v H => wpSs C scr r (setL loc i v) H K)) : wpSs C scr (.cons (.asgC i src tb x elt) r) loc H K := h
noncomputable def t_same1 : Ss := match t_same with | .cons _ r => r | _ => .nil
noncomputable def t_same2 : Ss := match t_same with | .cons _ (.cons _ r) => r | _ => .nil
noncomputable def t_same3 : Ss := match t_same with | .cons _ (.cons _ (.cons _ r)) => r | _ => .nil
noncomputable def t_same6 : Ss := match t_same with | .cons _ (.cons _ (.cons _ (.cons _ (.cons _ (.cons _ r))))) => r | _ => .nil
noncomputable def t_same8 : Ss := match t_same with | .cons _ (.cons _ (.cons _ (.cons _ (.cons _ (.cons _ (.cons _ (.cons _ r))))))) => r | _ => .nil
theorem same_ok {n : Nat} (hn : 20 ≤ n) {t : T} (wf : t.wf) (ht : t.ht ≤ 4) (hl : t.len ≤ 3000) (kd : t.kids) {base most h : Nat} (hb : base ≤ 50) (hm : most ≤ 36) {hd : Nat → List Nat} {H : Hp} {Q : V → Hp → Prop} (hh : HeldAt H h hd) (q : ∀ H', Up [] H H' → Q (.bool true) H') :
    Cn scr n (.fn .same) [t.v, .int base, .obj h, .int most] H Q := by
  obtain ⟨j, rfl⟩ : ∃ j, n = j + 1 := ⟨n - 1, by (first | lia | omega)⟩
  refine ⟨rfl, ?_⟩
  refine asgC_ok (r := t_same1) (copy_ok hh fun H1 h1 u1 l1 f1 => ?_)
  show wpSs (Cn scr j) scr t_same1 [t.v, .int base, .obj h, .int most, .obj h1] H1 _
  refine asgC_ok (r := t_same2) (copy_ok (hh.up u1) fun H2 h2 u2 l2 f2 => ?_)
  show wpSs (Cn scr j) scr t_same2 [t.v, .int base, .obj h, .int most, .obj h1, .obj h2] H2 _
  have lh1 : h1 < H1.length := by obtain ⟨vs, x, _⟩ := (f1 [] (by simp)).at; exact lt_at x
  have lh2 : h2 < H2.length := by obtain ⟨vs, x, _⟩ := (f2 [] (by simp)).at; exact lt_at x
  have g12 := u2.1
  have g01 := u1.1
  have hd3 : Hd3 hd := hh.row
  have len2 : ∀ o : CO, (H2 ++ [o]).length = H2.length + 1 := fun o => by simp
  -- due, the reading
  have ra : RA (H2 ++ [CO.list []] ++ [CO.list [.int most]]) (H2 ++ [CO.list []]).length h1 H2.length ⟨most, hd, []⟩ := by
    refine ⟨at_new, ?_, at_add at_new, by simp⟩
    exact ((f1 [(H2 ++ [CO.list []]).length, H2.length] (by simp; (first | lia | omega))).up (u2.mono (by simp))).up (Up.app.trans Up.app)
  refine asgH_ok (r := t_same3) ?_
  show wpSs (Cn scr j) scr t_same3 [t.v, .int base, .obj h, .int most, .obj h1, .obj h2, .obj H2.length] (H2 ++ [CO.list []]) _
  refine asgH_ok (r := t_same4) ?_
  refine ⟨ne_of_ok True.intro, ne_of_ok t.v_ok, ne_of_ok True.intro, ne_of_ok True.intro, ?_⟩
  refine reading_ok 4 j t ht wf (by first | exact le1 hn rfl | exact le2 hn rfl | (first | lia | omega)) _ h1 H2.length ⟨most, hd, []⟩ _ _ ra (by unfold Bd; simp; (first | lia | omega)) fun r σ' H3 ev ra3 u3 => ?_
  rw [len2] at ra3 u3
  have lH3 := u3.1
  have lH3' : H2.length + 2 ≤ H3.length := by simp at lH3; (first | lia | omega)
  have bd := ev.bound wf
  simp only [Cmd.gain, Cmd.extra, List.length_nil] at bd
  show wpSs (Cn scr j) scr t_same4 [t.v, .int base, .obj h, .int most, .obj h1, .obj h2, .obj H2.length, .bool r] H3 _
  -- the maker
  refine asgH_ok (r := t_same5) ?_
  refine ⟨ne_of_ok True.intro, ?_⟩
  refine mkInit_ok (by first | exact le1 hn rfl | exact le2 hn rfl | (first | lia | omega)) at_new fun H4 c u4 lc M4 => ?_
  refine ⟨rfl, ?_⟩
  show wpSs (Cn scr j) scr t_same5 [t.v, .int base, .obj h, .int most, .obj h1, .obj h2, .obj H2.length, .bool r, .obj H3.length] H4 _
  have lH4 : H3.length + 1 ≤ H4.length := by have := u4.1; simp at this; (first | lia | omega)
  have lcm : H3.length + 1 ≤ c := by simp at lc; (first | lia | omega)
  have m4 := M4.me
  refine exH_ok (r := t_same6) ?_
  refine ⟨ne_of_ok True.intro, ?_⟩
  refine insI m4 ?_
  refine ⟨rfl, rfl, ne_of_ok t.v_ok, ?_⟩
  refine make_ok 4 j t ht wf (by first | exact le1 hn rfl | exact le2 hn rfl | (first | lia | omega)) H3.length c base [] H4 _ M4 (by simp; (first | lia | omega)) fun H5 M5 u5 => ?_
  rw [List.nil_append, List.length_nil] at M5
  have m5 := M5.me
  refine exH_ok (r := t_same7) ?_
  refine ⟨ne_of_ok True.intro, ?_⟩
  first | refine insI (m5) ?_ | refine lisI (m5) ?_ | ((conv => whnf); rw [m5])
  refine ⟨rfl, rfl, ?_⟩
  refine emit_ok (row := .end_) (by first | exact le1 hn rfl | exact le2 hn rfl | (first | lia | omega)) M5 (by rw [T.comp_len]; (first | lia | omega)) fun H6 M6 u6 => ?_
  have m6 := M6.me
  have u46 := u5.trans u6
  -- the slots
  refine ifH_ok (r := t_same8) ?_
  refine ⟨ne_of_ok True.intro, ?_⟩
  first | refine insI (m6) ?_ | refine lisI (m6) ?_ | ((conv => whnf); rw [m6])
  refine ⟨ne_of_ok True.intro, ne_of_ok t.v_ok, ?_⟩
  refine slots_ok 4 j t ht wf (by first | exact le1 hn rfl | exact le2 hn rfl | (first | lia | omega)) kd (by first | exact le1 hn rfl | exact le2 hn rfl | (first | lia | omega)) H6 _ fun L6 => ?_
  conv => whnf
  have es : decide (((base + t.slots : Nat) : Int) = (base : Int) + (t.slots : Int)) = true := decide_eq_true (by simp)
  rw [es]
  show wpSs (Cn scr j) scr t_same8 [t.v, .int base, .obj h, .int most, .obj h1, .obj h2, .obj H2.length, .bool r, .obj H3.length] (H6 ++ L6) _
  refine asgH_ok (r := t_same9) ?_
  show wpSs (Cn scr j) scr t_same9 [t.v, .int base, .obj h, .int most, .obj h1, .obj h2, .obj H2.length, .bool r, .obj H3.length, .obj (H6 ++ L6).length] (H6 ++ L6 ++ [.list []]) _
  -- what stands where
  have u36 : Up [H3.length, c] H3 H6 := (Up.app.trans (u4.mono (by simp))).trans u46
  have u37 : Up [] H3 (H6 ++ L6 ++ [.list []]) := (((u36.shed (by first | exact le1 hn rfl | exact le2 hn rfl | (first | lia | omega))).shed (by first | exact le1 hn rfl | exact le2 hn rfl | (first | lia | omega))).trans Up.app).trans Up.app
  have l67 : H6.length ≤ (H6 ++ L6).length := by simp
  have l37 : H3.length < (H6 ++ L6).length := by have := u36.1; have := lt_at M6.me; (first | lia | omega)
  have M7 : MK (H6 ++ L6 ++ [.list []]) H3.length c (t.comp 0 base ++ [.end_]) (base + t.slots) := ⟨at_add (at_add M6.me), at_add (at_add M6.co)⟩
  have z7 : (H6 ++ L6 ++ [CO.list []])[(H6 ++ L6).length]? = some (.list []) := at_new
  have l7 : (H6 ++ L6 ++ [CO.list []]).length = (H6 ++ L6).length + 1 := by simp <;> (first | lia | omega)
  have lc6 := lt_at M6.co
  generalize hlg : (H6 ++ L6).length = lg2 at *
  generalize hH7 : H6 ++ L6 ++ [CO.list []] = H7 at *
  have k2 : Held [H2.length + 1, h1, H2.length] H3 h2 hd := ((f2 [H2.length + 1, h1, H2.length] (by simp; (first | lia | omega))).up (Up.app.trans Up.app)).up u3
  have k27 : Held [lg2] H7 h2 hd := (k2.less (W' := [lg2]) (by simp; (first | lia | omega))).up (u37.mono (by simp))
  have k1 : Held [h2, lg2] H7 h1 σ'.hd := ((ra3.held.far k2.at (by first | exact le1 hn rfl | exact le2 hn rfl | (first | lia | omega))).less (W' := [h2, lg2]) (by simp; (first | lia | omega))).up (u37.mono (by simp))
  have d7 : H7[H2.length]? = some (.list (σ'.lg.map entV)) := u37.2 _ _ ra3.lo (by simp)
  obtain ⟨k, st', hk, P, elg, fin⟩ := whole_law (base := base) wf hd3 ev hm
  have lR : (t.comp 0 base ++ [Rw.end_]).length = t.len + 1 := by simp [T.comp_len]
  have sl := T.slots_le t
  refine ifH_ok (r := t_same10) ?_
  refine ⟨ne_of_ok True.intro, ne_of_ok True.intro, ne_of_ok True.intro, ne_of_ok True.intro, ne_of_ok True.intro, ?_⟩
  first | refine insI (d7) ?_ | refine lisI (d7) ?_ | ((conv => whnf); rw [d7])
  refine ⟨by simp; (first | lia | omega), ne_of_ok True.intro, ?_⟩
  refine follow_ok (want := (σ'.lg.map entV).length) (st' := st') (k := k) (by first | exact le1 hn rfl | exact le2 hn rfl | (first | lia | omega)) M7 k27 z7 (by simp; (first | lia | omega)) (by rw [lR]; (first | lia | omega)) (by first | exact le1 hn rfl | exact le2 hn rfl | (first | lia | omega)) (by first | exact le1 hn rfl | exact le2 hn rfl | (first | lia | omega)) (by first | exact le1 hn rfl | exact le2 hn rfl | (first | lia | omega)) P hk ?_ fun H8 st2 u8 k8 lo8 e1 e2 => ?_
  · rcases fin with ⟨h1, h2, h3, h4⟩ | h1
    · exact .inl ⟨h1, h2, h3⟩
    · exact .inr ⟨h1, by rw [elg]; simp⟩
  conv => whnf
  show wpSs (Cn scr j) scr t_same10 [t.v, .int base, .obj h, .int most, .obj h1, .obj h2, .obj H2.length, .bool r, .obj H3.length, .obj lg2] H8 _
  have lst : st2.lg.length ≤ σ'.lg.length := by
    cases r with
    | true => rw [(e1 rfl).2, elg]; exact Nat.le_refl _
    | false => obtain ⟨_, l, e⟩ := e2 rfl; rw [← elg, e]; simp
  refine same_tail (hd1 := σ'.hd) (hd2 := st2.hd) (k1.up u8).at k8.at (u8.2 _ _ d7 (by simp; (first | lia | omega))) lo8 (by first | exact le1 hn rfl | exact le2 hn rfl | (first | lia | omega)) (by first | exact le1 hn rfl | exact le2 hn rfl | (first | lia | omega)) (fun hr => ?_) (fun hr => ?_) fun l => q _ ?_
  · rcases fin with ⟨_, _, _, h4⟩ | h1
    · have := e1 hr
      exact ⟨by rw [this.1, h4], by rw [this.2, elg]⟩
    · rw [hr] at h1; cases h1
  · obtain ⟨g1, l, g2⟩ := e2 hr
    rw [elg] at g2
    rw [g2] at g1
    simp at g1
    have : l = [] := List.eq_nil_of_length_eq_zero (by first | exact le1 hn rfl | exact le2 hn rfl | (first | lia | omega))
    rw [this, List.append_nil] at g2
    exact g2.symm
  · have w1 : Up [] H (H2 ++ [CO.list []] ++ [CO.list [.int most]]) := ((u1.trans u2).trans Up.app).trans Up.app
    have w2 : Up [] H H3 := ((((w1.mono (by simp)).trans u3).shed (by first | exact le1 hn rfl | exact le2 hn rfl | (first | lia | omega))).shed (by first | exact le1 hn rfl | exact le2 hn rfl | (first | lia | omega))).shed (by first | exact le1 hn rfl | exact le2 hn rfl | (first | lia | omega))
    have w3 : Up [] H H7 := w2.trans u37
    have w4 : Up [] H H8 := (((w3.mono (by simp)).trans u8).shed (by first | exact le1 hn rfl | exact le2 hn rfl | (first | lia | omega))).shed (by first | exact le1 hn rfl | exact le2 hn rfl | (first | lia | omega))
    exact w4.trans Up.app
end Mine
namespace Mine
open PySem
variable {scr : List Int}
theorem But.up {b : Nat} {H H' : Hp} (x : But b H H') : Up [b] H H' := ⟨by rw [x.1]; exact Nat.le_refl _, fun j o hj hw => by rw [x.2 j (by simpa using hw)]; exact hj⟩
noncomputable def DR (H : Hp) (b rm : Nat) : Prop := BagAt H b ∧ (∃ r : Int, H[rm]? = some (.list [.int r])) ∧ b ≠ rm
theorem DR.bag {H H' : Hp} {b rm : Nat} (D : DR H b rm) (B : BagAt H' b) (u : But b H H') : DR H' b rm := by
  obtain ⟨_, ⟨r, h⟩, ne⟩ := D
  exact ⟨B, ⟨r, u.up.2 _ _ h (by simpa using Ne.symm ne)⟩, ne⟩
theorem BagAt.up {H H' : Hp} {b : Nat} {W : List Nat} (B : BagAt H b) (u : Up W H H') (hb : b ∉ W) : BagAt H' b := by
  obtain ⟨x, y, l, h, r⟩ := B
  exact ⟨x, y, l, u.2 _ _ h hb, r⟩
theorem DR.up {H H' : Hp} {b rm : Nat} {W : List Nat} (D : DR H b rm) (u : Up W H H') (h1 : b ∉ W) (h2 : rm ∉ W) : DR H' b rm := by
  obtain ⟨B, ⟨r, h⟩, ne⟩ := D
  exact ⟨B.up u h1, ⟨r, u.2 _ _ h h2⟩, ne⟩
theorem DR.lt {H : Hp} {b rm : Nat} (D : DR H b rm) : b < H.length ∧ rm < H.length := by
  obtain ⟨⟨x, y, l, h, r⟩, ⟨r, h2⟩, ne⟩ := D
  exact ⟨lt_at h, lt_at h2⟩
noncomputable def Lb : Nat → Nat
  | 0 => 1
  | d + 1 => 3 * Lb d + 8
theorem Lb_pos : ∀ d, 1 ≤ Lb d
  | 0 => Nat.le_refl _
  | d + 1 => by simp only [Lb]; (first | lia | omega)
theorem mk1 {a d : Nat} (h : a ≤ d + 1) : 1 + a ≤ d + 1 + 1 := by rw [Nat.add_comm]; exact Nat.succ_le_succ h
theorem mk2 {a b d : Nat} (h1 : a ≤ d + 1) (h2 : b ≤ d + 1) : 1 + max a b ≤ d + 1 + 1 := mk1 (Nat.max_le.mpr ⟨h1, h2⟩)
theorem mk3 {a b c d : Nat} (h1 : a ≤ d + 1) (h2 : b ≤ d + 1) (h3 : c ≤ d + 1) : 1 + max a (max b c) ≤ d + 1 + 1 := mk2 h1 (Nat.max_le.mpr ⟨h2, h3⟩)
noncomputable def Drawn (d : Nat) (t : T) : Prop := t.wf ∧ t.ht ≤ d + 1 ∧ t.len ≤ Lb d ∧ t.kids
noncomputable def TrOk (scr : List Int) (n d : Nat) : Prop := ∀ (b rm : Nat) (H : Hp) (Q : V → Hp → Prop), DR H b rm → (∀ t H', Drawn d t → DR H' b rm → Up [b, rm] H H' → Q t.v H') → Cn scr n (.fn .tree) [.obj b, .int d, .obj rm] H Q
noncomputable def CaOk (scr : List Int) (n d : Nat) : Prop := ∀ (b rm : Nat) (H : Hp) (Q : V → Hp → Prop), DR H b rm → (∀ t H', Drawn (d + 1) t → DR H' b rm → Up [b, rm] H H' → Q t.v H') → Cn scr n (.fn .case) [.obj b, .int d, .obj rm] H Q
noncomputable def As.snoc : As → List X → T → As
  | .nil, ls, t => .cons ls t .nil
  | .cons l a r, ls, t => .cons l a (r.snoc ls t)
theorem As.snoc_vs : ∀ (A : As) (ls : List X) (t : T), (A.snoc ls t).vs = A.vs ++ [.tup [.tup (ls.map X.v), t.v]]
  | .nil, ls, t => rfl
  | .cons l a r, ls, t => by simp only [As.snoc, As.vs, As.snoc_vs r, List.cons_append]
theorem As.snoc_all : ∀ (A : As) (ls : List X) (t : T), (A.snoc ls t).nlab = A.nlab + ls.length ∧ (A.snoc ls t).len = A.len + (t.len + 1) ∧ (A.snoc ls t).ht ≤ max A.ht t.ht ∧ (A.wf → (∀ e ∈ ls, e.word) → t.wf → (A.snoc ls t).wf) ∧ (A.kids → t.kids → (A.snoc ls t).kids) := by
  intro A
  refine As.ind (P := fun A => ∀ (ls : List X) (t : T), (A.snoc ls t).nlab = A.nlab + ls.length ∧ (A.snoc ls t).len = A.len + (t.len + 1) ∧ (A.snoc ls t).ht ≤ max A.ht t.ht ∧ (A.wf → (∀ e ∈ ls, e.word) → t.wf → (A.snoc ls t).wf) ∧ (A.kids → t.kids → (A.snoc ls t).kids)) ?_ ?_ A
  · intro ls t
    exact ⟨by simp [As.snoc, As.nlab], by simp [As.snoc, As.len], by simp [As.snoc, As.ht], fun _ h1 h2 => ⟨h1, h2, True.intro⟩, fun _ h => ⟨h, True.intro⟩⟩
  · intro l a r ih0 ls t
    obtain ⟨h1, h2, h3, h4, h5⟩ := ih0 ls t
    refine ⟨by simp only [As.snoc, As.nlab]; (first | lia | omega), by simp only [As.snoc, As.len]; (first | lia | omega), Nat.max_le.mpr ⟨Nat.le_trans (Nat.le_max_left _ _) (Nat.le_max_left _ _), Nat.le_trans h3 (Nat.max_le.mpr ⟨Nat.le_trans (Nat.le_max_right _ _) (Nat.le_max_left _ _), Nat.le_max_right _ _⟩)⟩, fun w1 w2 w3 => ⟨w1.1, w1.2.1, h4 w1.2.2 w2 w3⟩, fun k1 k2 => ⟨k1.1, h5 k1.2 k2⟩⟩
theorem As.vs_len : ∀ A : As, A.vs.length ≤ A.len
  | .nil => Nat.le_refl _
  | .cons ls t r => by have := As.vs_len r; simp only [As.vs, As.len, List.length_cons]; (first | lia | omega)
noncomputable def armsV (pre : As) (hasD : Bool) (d : T) (post : As) : List V := pre.vs ++ ((bif hasD then [.tup [.none, d.v]] else []) ++ post.vs)
structure ArmS (d i df : Nat) (pre : As) (hasD : Bool) (dt : T) (post : As) : Prop where
  w1 : pre.wf
  w2 : post.wf
  w3 : dt.wf
  no : hasD = false → dt = .nil ∧ post = .nil
  yes : hasD = true → df < i
  lb : pre.nlab + post.nlab ≤ 2 * i
  h1 : pre.ht ≤ d + 1
  h2 : post.ht ≤ d + 1
  h3 : dt.ht ≤ d + 1
  l1 : pre.len + post.len ≤ i * (Lb d + 1)
  l2 : dt.len ≤ Lb d
  k1 : pre.kids
  k2 : post.kids
  k3 : dt.kids
theorem ArmS.len {d i df : Nat} {pre post : As} {hasD : Bool} {dt : T} (A : ArmS d i df pre hasD dt post) : (armsV pre hasD dt post).length ≤ i * (Lb d + 1) + 1 := by
  have h1 := pre.vs_len
  have h2 := post.vs_len
  have h3 := A.l1
  unfold armsV
  cases hasD <;> simp <;> (first | lia | omega)
theorem ArmS.dflt {d i : Nat} {pre post : As} {hasD : Bool} {dt t : T} (A : ArmS d i i pre hasD dt post) (ht : Drawn d t) : ArmS d (i + 1) i pre true t post ∧ armsV pre true t post = armsV pre hasD dt post ++ [.tup [.none, t.v]] := by
  have hd : hasD = false := by
    cases h : hasD
    · rfl
    · have := A.yes h; (first | lia | omega)
  obtain ⟨h1, h2⟩ := A.no hd
  subst hd; subst h2
  have e : (i + 1) * (Lb d + 1) = i * (Lb d + 1) + (Lb d + 1) := Nat.succ_mul ..
  have := A.l1
  have := A.lb
  refine ⟨⟨A.w1, A.w2, ht.1, (fun h => by cases h), fun _ => by (first | lia | omega), by (first | lia | omega), A.h1, A.h2, ht.2.1, by (first | lia | omega), ht.2.2.1, A.k1, A.k2, ht.2.2.2⟩, by simp [armsV, As.vs]⟩
theorem ArmS.labs {d i j df : Nat} {pre post : As} {hasD : Bool} {dt t : T} {ls : List X} (A : ArmS d j df pre hasD dt post) (hj : pre.nlab + post.nlab ≤ 2 * i) (hl : pre.len + post.len ≤ i * (Lb d + 1)) (hy : hasD = true → df < i + 1) (hls : ∀ e ∈ ls, e.word) (h2 : ls.length ≤ 2) (ht : Drawn d t) :
    ∃ pre' post', ArmS d (i + 1) df pre' hasD dt post' ∧ armsV pre' hasD dt post' = armsV pre hasD dt post ++ [.tup [.tup (ls.map X.v), t.v]] := by
  have e : (i + 1) * (Lb d + 1) = i * (Lb d + 1) + (Lb d + 1) := Nat.succ_mul ..
  obtain ⟨t1, t2, t3, t4⟩ := ht
  cases hasD with
  | false =>
    obtain ⟨n1, n2⟩ := A.no rfl
    subst n2
    obtain ⟨s1, s2, s3, s4, s5⟩ := As.snoc_all pre ls t
    refine ⟨pre.snoc ls t, .nil, ⟨s4 A.w1 hls t1, A.w2, A.w3, fun _ => ⟨n1, rfl⟩, (fun h => by cases h), by simp only [As.nlab] at *; (first | lia | omega), by have := A.h1; (first | lia | omega), A.h2, A.h3, by simp only [As.len] at *; (first | lia | omega), A.l2, s5 A.k1 t4, A.k2, A.k3⟩, by simp [armsV, As.snoc_vs, As.vs]⟩
  | true =>
    obtain ⟨s1, s2, s3, s4, s5⟩ := As.snoc_all post ls t
    refine ⟨pre, post.snoc ls t, ⟨A.w1, s4 A.w2 hls t1, A.w3, (fun h => by cases h), hy, by (first | lia | omega), A.h1, by have := A.h2; (first | lia | omega), A.h3, by (first | lia | omega), A.l2, A.k1, s5 A.k2 t4, A.k3⟩, by simp [armsV, As.snoc_vs]⟩
noncomputable def b_case : Ss := match t_case with | .cons _ (.cons _ (.cons _ (.cons _ (.cons _ (.cons (.forR _ _ b) _))))) => b | _ => .nil
noncomputable def b_case2 : Ss := match b_case with | .cons _ r => r | _ => .nil
theorem word_dr {n : Nat} (hn : 2 ≤ n) {b rm : Nat} {H : Hp} {Q : V → Hp → Prop} (D : DR H b rm) (h : ∀ (e : X) H', e.word → DR H' b rm → Up [b] H H' → Q e.v H') : Cn scr n (.fn .word) [.obj b] H Q := by
  obtain ⟨k, rfl⟩ : ∃ k, n = k + 2 := ⟨n - 2, by (first | lia | omega)⟩
  exact word_ok k D.1 fun e H' he B u => h e H' he (D.bag B u) u.up
theorem pull_dr {n : Nat} (hn : 1 ≤ n) {b rm : Nat} {many : Int} {H : Hp} {Q : V → Hp → Prop} (D : DR H b rm) (hm : 1 ≤ many) (hm2 : many < 1000) (h : ∀ (r : Nat) H', (r : Int) < many → DR H' b rm → Up [b] H H' → Q (.int r) H') : Cn scr n (.fn .pull) [.obj b, .int many] H Q := by
  obtain ⟨k, rfl⟩ : ∃ k, n = k + 1 := ⟨n - 1, by (first | lia | omega)⟩
  exact pull_nat k D.1 hm hm2 fun r H' hr B u => h r H' hr (D.bag B u) u.up
theorem case_labs {n d : Nat} (hn : 3 ≤ n) (okT : TrOk scr n d) {b rm rw i : Nat} {kv ev mv dv : V} {L : List V} {H : Hp} {K : Fl → List V → Hp → Prop} {tl : List V} (D : DR H b rm) (hr : H[rw]? = some (.list L)) (hw : rw ∉ [b, rm]) (hL : L.length ≤ 50000) (ht : tl = [] ∨ ∃ y, tl = [y])
    (q : ∀ H' (ls : List X) t y, (∀ e ∈ ls, e.word) → ls.length ≤ 2 → Drawn d t → DR H' b rm → H'[rw]? = some (.list (L ++ [.tup [.tup (ls.map X.v), t.v]])) → Up [rw, b, rm] H H' → K .next [.obj b, .int d, .obj rm, kv, ev, mv, dv, .obj rw, .int i, y] H') :
    wpSs (Cn scr n) scr b_case2 (.obj b :: .int d :: .obj rm :: kv :: ev :: mv :: dv :: .obj rw :: .int i :: tl) H K := by
  have nw := hw
  simp only [List.mem_cons, List.not_mem_nil, or_false, not_or] at nw
  -- the last row
  have fin : ∀ (H2 : Hp) (lb : Nat) (ls : List X), DR H2 b rm → H2[rw]? = some (.list L) → H2[lb]? = some (.list (ls.map X.v)) → (∀ e ∈ ls, e.word) → ls.length ≤ 2 → Up [rw, b, rm] H H2 →
      wpSs (Cn scr n) scr (.cons (.ex (.append (.loc 7) (.tup (.cons (.tuple_ (.loc 9)) (.cons (.call .tree (.cons (.loc 0) (.cons (.loc 1) (.cons (.loc 2) .nil)))) .nil))))) .nil) [.obj b, .int d, .obj rm, kv, ev, mv, dv, .obj rw, .int i, .obj lb] H2 K := by
    intro H2 lb ls D2 hr2 hl2 hls hlen u2
    repeat (first | refine guI True.intro ?_ | refine insI hr2 ?_ | refine lisI hr2 ?_ | refine cloI hr2 ?_ | refine optI hr2 ?_ | refine insI hl2 ?_ | refine lisI hl2 ?_ | refine cloI hl2 ?_ | refine optI hl2 ?_ | refine gnI ?_ | refine gtI ?_ | refine gsI rfl ?_ | ((conv => whnf); first | rw [hr2] | rw [hl2] ))
    refine ⟨by simp; (first | lia | omega), ?_⟩
    repeat (first | refine guI True.intro ?_ | refine gnI ?_ | refine gtI ?_ | refine gsI rfl ?_)
    refine okT b rm H2 _ D2 fun t H3 ht3 D3 u3 => ?_
    have hr3 := u3.2 _ _ hr2 hw
    repeat (first | refine guI True.intro ?_ | refine insI hr3 ?_ | refine lisI hr3 ?_ | refine cloI hr3 ?_ | refine optI hr3 ?_ | refine gnI ?_ | refine gtI ?_ | refine gsI rfl ?_ | ((conv => whnf); first | rw [hr3] ))
    refine ⟨by (first | lia | omega), ?_⟩
    have l3 := D3.lt
    have u4 : Up [rw] H3 (H3.set rw (.list (L ++ [.tup [.tup (ls.map X.v), t.v]]))) := Up.set (by simp)
    exact q _ ls t _ hls hlen ht3 (D3.up u4 (by simp; (first | lia | omega)) (by simp; (first | lia | omega))) (at_set_self hr3) (u2.trans ((u3.mono (by simp)).trans (u4.mono (by simp))))
  have key : ∀ (H2 : Hp) (lb : Nat) (e : X), DR H2 b rm → H2[rw]? = some (.list L) → H2[lb]? = some (.list [e.v]) → e.word → lb ∉ [rw, b, rm] → H.length ≤ lb → Up [rw, b, rm] H H2 →
      wpSs (Cn scr n) scr (match b_case2 with | .cons _ r => r | _ => .nil) [.obj b, .int d, .obj rm, kv, ev, mv, dv, .obj rw, .int i, .obj lb] H2 K := by
    intro H2 lb e D2 hr2 hl2 he lbw lbn u2
    simp only [List.mem_cons, List.not_mem_nil, or_false, not_or] at lbw
    repeat (first | refine guI True.intro ?_ | refine guI (X.v_ok _) ?_ | refine guI (T.v_ok _) ?_ | refine gnI ?_ | refine gtI ?_ | refine gsI rfl ?_)
    refine pull_dr (by first | exact le1 hn rfl | exact le2 hn rfl | (first | lia | omega)) D2 (by first | exact le1 hn rfl | exact le2 hn rfl | (first | lia | omega)) (by first | exact le1 hn rfl | exact le2 hn rfl | (first | lia | omega)) fun r H3 hr3 D3 u3 => ?_
    repeat (first | refine guI True.intro ?_ | refine gnI ?_ | refine gtI ?_ | refine gsI rfl ?_)
    conv => whnf
    have hl3 := u3.2 _ _ hl2 (by simp; (first | lia | omega))
    have hrr3 := u3.2 _ _ hr2 (by simp; (first | lia | omega))
    cases h0 : decide ((r : Int) = 0)
    · exact fin H3 lb [e] D3 hrr3 hl3 (by simpa using he) (by simp) (u2.trans (u3.mono (by simp)))
    · repeat (first | refine guI True.intro ?_ | refine insI hl3 ?_ | refine lisI hl3 ?_ | refine cloI hl3 ?_ | refine optI hl3 ?_ | refine gnI ?_ | refine gtI ?_ | refine gsI rfl ?_ | ((conv => whnf); first | rw [hl3] ))
      refine word_dr (by first | exact le1 hn rfl | exact le2 hn rfl | (first | lia | omega)) D3 fun e2 H4 he2 D4 u4 => ?_
      have hl4 := u4.2 _ _ hl3 (by simp; (first | lia | omega))
      have hrr4 := u4.2 _ _ hrr3 (by simp; (first | lia | omega))
      repeat (first | refine guI True.intro ?_ | refine insI hl4 ?_ | refine lisI hl4 ?_ | refine cloI hl4 ?_ | refine optI hl4 ?_ | refine gnI ?_ | refine gtI ?_ | refine gsI rfl ?_ | ((conv => whnf); first | rw [hl4] ))
      refine ⟨by simp, ?_⟩
      have u5 : Up [lb] H4 (H4.set lb (.list ([e.v] ++ [e2.v]))) := Up.set (by simp)
      have D5 := D4.up u5 (by simp; (first | lia | omega)) (by simp; (first | lia | omega))
      refine fin (H4.set lb (.list ([e.v] ++ [e2.v]))) lb [e, e2] D5 (u5.2 _ _ hrr4 (by simp; (first | lia | omega))) (at_set_self hl4) (by simp; exact ⟨he, he2⟩) (by simp) ?_
      have u6 : Up [lb, rw, b, rm] H (H4.set lb (.list ([e.v] ++ [e2.v]))) := (u2.mono (by simp)).trans ((u3.mono (by simp)).trans ((u4.mono (by simp)).trans (u5.mono (by simp))))
      exact u6.shed lbn
  refine asgH_ok (r := match b_case2 with | .cons _ r => r | _ => .nil) ?_
  refine ⟨ne_of_ok True.intro, ?_⟩
  refine word_dr (by first | exact le1 hn rfl | exact le2 hn rfl | (first | lia | omega)) D fun e H1 he D1 u1 => ?_
  have hr1 := u1.2 _ _ hr (by simp; (first | lia | omega))
  have l1 := D1.lt
  have lr1 := lt_at hr1
  have k := key (H1 ++ [.list [e.v]]) H1.length e (D1.up (W := []) Up.app (by simp) (by simp)) (at_add hr1) at_new he (by simp; (first | lia | omega)) u1.1 ((u1.mono (by simp)).trans Up.app)
  rcases ht with rfl | ⟨y, rfl⟩
  · exact k
  · exact k
end Mine
namespace Mine
open PySem
variable {scr : List Int}
theorem ifEq_ok {C : CallP} {a b : E} {x y : Int} {t r : Ss} {loc : List V} {H : Hp} {K : Fl → List V → Hp → Prop} (ha : ∀ Q : V → Hp → Prop, Q (.int x) H → wpE C scr a loc H Q) (hb : ∀ Q : V → Hp → Prop, Q (.int y) H → wpE C scr b loc H Q)
    (h1 : x = y → wpSs C scr t loc H (fun f loc H => match f with | .next => wpSs C scr r loc H K | .cont => K .cont loc H | .ret v => K (.ret v) loc H)) (h0 : x ≠ y → wpSs C scr r loc H K) : wpSs C scr (.cons (.if_ (.cmp .eq a b) t .nil) r) loc H K := by
  by_cases h : x = y
  · refine if_take (fun Q q => ha _ (hb _ ?_)) (h1 h)
    show Q (.bool (decide (x = y) == true)) H
    rw [decide_eq_true h]; exact q
  · refine if_skip (fun Q q => ha _ (hb _ ?_)) (h0 h)
    show Q (.bool (decide (x = y) == true)) H
    rw [decide_eq_false h]; exact q
theorem locI {C : CallP} {i : Nat} {x : Int} {loc : List V} {H : Hp} (h : getL' loc i = .int x) (Q : V → Hp → Prop) (q : Q (.int x) H) : wpE C scr (.loc i) loc H Q := by
  show getL' loc i ≠ .und ∧ Q (getL' loc i) H
  rw [h]; exact ⟨ne_of_ok True.intro, q⟩
theorem case_dflt {n d : Nat} (okT : TrOk scr n d) {b rm rw : Nat} {kv ev mv dv : V} {L tl : List V} {H : Hp} {r : Ss} {K : Fl → List V → Hp → Prop} (D : DR H b rm) (hr : H[rw]? = some (.list L)) (hw : rw ∉ [b, rm]) (hL : L.length ≤ 50000)
    (q : ∀ H' t, Drawn d t → DR H' b rm → H'[rw]? = some (.list (L ++ [.tup [.none, t.v]])) → Up [rw, b, rm] H H' → wpSs (Cn scr n) scr r (.obj b :: .int d :: .obj rm :: kv :: ev :: mv :: dv :: .obj rw :: tl) H' K) :
    wpSs (Cn scr n) scr (.cons (.ex (.append (.loc 7) (.tup (.cons .cN (.cons (.call .tree (.cons (.loc 0) (.cons (.loc 1) (.cons (.loc 2) .nil)))) .nil))))) r) (.obj b :: .int d :: .obj rm :: kv :: ev :: mv :: dv :: .obj rw :: tl) H K := by
  have nw := hw
  simp only [List.mem_cons, List.not_mem_nil, or_false, not_or] at nw
  refine exH_ok ?_
  refine ⟨ne_of_ok True.intro, ?_⟩
  first | refine insI (hr) ?_ | refine lisI (hr) ?_ | ((conv => whnf); rw [hr])
  refine ⟨ne_of_ok True.intro, ne_of_ok True.intro, ne_of_ok True.intro, ?_⟩
  refine okT b rm H _ D fun t H3 ht3 D3 u3 => ?_
  have hr3 := u3.2 _ _ hr hw
  first | refine insI (hr3) ?_ | refine lisI (hr3) ?_ | ((conv => whnf); rw [hr3])
  refine ⟨by (first | lia | omega), ?_⟩
  have u4 : Up [rw] H3 (H3.set rw (.list (L ++ [.tup [.none, t.v]]))) := Up.set (by simp)
  exact q _ t ht3 (D3.up u4 (by simp; (first | lia | omega)) (by simp; (first | lia | omega))) (at_set_self hr3) ((u3.mono (by simp)).trans (u4.mono (by simp)))
theorem case_turn {n d : Nat} (hn : 3 ≤ n) (hd : Lb d ≤ 1000) (okT : TrOk scr n d) {b rm rw i df : Nat} (hi : i ≤ 2) {kv ev mv : V} {pre post : As} {hasD : Bool} {dt : T} {H : Hp} {K : Fl → List V → Hp → Prop} {tl : List V} (D : DR H b rm) (hr : H[rw]? = some (.list (armsV pre hasD dt post))) (hw : rw ∉ [b, rm])
    (A : ArmS d i df pre hasD dt post) (ht : tl = [] ∨ ∃ y, tl = [y])
    (q : ∀ H' pre' hasD' dt' post' y, DR H' b rm → H'[rw]? = some (.list (armsV pre' hasD' dt' post')) → ArmS d (i + 1) df pre' hasD' dt' post' → Up [rw, b, rm] H H' → K .next [.obj b, .int d, .obj rm, kv, ev, mv, .int df, .obj rw, .int i, y] H') :
    wpSs (Cn scr n) scr b_case (.obj b :: .int d :: .obj rm :: kv :: ev :: mv :: .int df :: .obj rw :: .int i :: tl) H K := by
  have hlen := A.len
  have hll : i * (Lb d + 1) ≤ 2 * (Lb d + 1) := Nat.mul_le_mul_right _ hi
  refine ifEq_ok (r := b_case2) (x := i) (y := df) (locI rfl) (locI rfl) (fun h => ?_) fun h => ?_
  rotate_left
  · refine case_labs hn okT D hr hw (by first | exact le1 hn rfl | exact le2 hn rfl | (first | lia | omega)) ht fun H2 ls t y hls h2 ht2 D2 hr2 u2 => ?_
    obtain ⟨pre', post', A', eA⟩ := A.labs A.lb A.l1 (fun h => by have := A.yes h; (first | lia | omega)) hls h2 ht2
    rw [← eA] at hr2
    exact q H2 pre' hasD dt post' y D2 hr2 A' u2
  · have e : i = df := by (first | lia | omega)
    subst e
    refine case_dflt okT D hr hw (by first | exact le1 hn rfl | exact le2 hn rfl | (first | lia | omega)) fun H1 t1 ht1 D1 hr1 u1 => ?_
    obtain ⟨A1, eA1⟩ := A.dflt ht1
    rw [← eA1] at hr1
    have hlen1 := A1.len
    have e : (i + 1) * (Lb d + 1) = i * (Lb d + 1) + (Lb d + 1) := Nat.succ_mul ..
    refine case_labs hn okT D1 hr1 hw (by first | exact le1 hn rfl | exact le2 hn rfl | (first | lia | omega)) ht fun H2 ls t y hls h2 ht2 D2 hr2 u2 => ?_
    obtain ⟨pre', post', A', eA⟩ := A1.labs A.lb A.l1 (fun _ => by (first | lia | omega)) hls h2 ht2
    rw [← eA] at hr2
    exact q H2 pre' true t1 post' y D2 hr2 A' (u1.trans u2)
noncomputable def t_case3 : Ss := match t_case with | .cons _ (.cons _ (.cons _ r)) => r | _ => .nil
noncomputable def t_case6 : Ss := match t_case with | .cons _ (.cons _ (.cons _ (.cons _ (.cons _ (.cons _ r))))) => r | _ => .nil
noncomputable def t_case7 : Ss := match t_case with | .cons _ (.cons _ (.cons _ (.cons _ (.cons _ (.cons _ (.cons _ r)))))) => r | _ => .nil
theorem case_end {n d : Nat} (hn : 3 ≤ n) (hd : Lb d ≤ 1000) (okT : TrOk scr n d) {b rm rw df mv : Nat} (hm : mv ≤ 2) {k : Tg} (hk : isKind k) {e : X} (he : e.word) {pre post : As} {hasD : Bool} {dt : T} {H : Hp} {Q : V → Hp → Prop} {tl : List V} (D : DR H b rm) (hr : H[rw]? = some (.list (armsV pre hasD dt post))) (hw : rw ∉ [b, rm])
    (A : ArmS d mv df pre hasD dt post) (q : ∀ H' t, Drawn (d + 1) t → DR H' b rm → Up [rw, b, rm] H H' → Q t.v H') :
    wpSs (Cn scr n) scr t_case6 (.obj b :: .int d :: .obj rm :: .str k :: e.v :: .int mv :: .int df :: .obj rw :: tl) H (bodyQ Q) := by
  have hll : mv * (Lb d + 1) ≤ 2 * (Lb d + 1) := Nat.mul_le_mul_right _ hm
  have fin : ∀ (H2 : Hp) (pre : As) (hasD : Bool) (dt : T) (post : As) (j : Nat), DR H2 b rm → H2[rw]? = some (.list (armsV pre hasD dt post)) → ArmS d j df pre hasD dt post → pre.nlab + post.nlab ≤ 4 → pre.len + post.len ≤ 2 * (Lb d + 1) → Up [rw, b, rm] H H2 →
      wpSs (Cn scr n) scr t_case7 (.obj b :: .int d :: .obj rm :: .str k :: e.v :: .int mv :: .int df :: .obj rw :: tl) H2 (bodyQ Q) := by
    intro H2 pre hasD dt post j D2 hr2 A2 hlb hln u2
    have v1 := pre.vs_len
    have v2 := post.vs_len
    have hlen : (armsV pre hasD dt post).length ≤ 2 * (Lb d + 1) + 1 := by
      unfold armsV
      cases hasD <;> simp <;> (first | lia | omega)
    refine ⟨ne_of_ok True.intro, ne_of_ok e.v_ok, ne_of_ok True.intro, ?_⟩
    first | refine insI (hr2) ?_ | refine lisI (hr2) ?_ | ((conv => whnf); rw [hr2])
    refine ⟨by (first | lia | omega), ?_⟩
    refine q H2 (.case k e pre hasD dt post) ⟨⟨hk, he, hlb, A2.w1, A2.w2, A2.w3, fun h => (A2.no h).1⟩, ?_, ?_, ⟨A2.k3, A2.k1, A2.k2⟩⟩ D2 u2
    · exact mk3 A2.h3 A2.h1 A2.h2
    · have : e.own ≤ 1 := by cases e <;> simp [X.own]
      have := A2.l2
      simp only [T.len, Lb]
      (first | lia | omega)
  have lb := A.lb
  have l1 := A.l1
  refine ifEq_ok (r := t_case7) (x := df) (y := mv) (locI rfl) (locI rfl) (fun h => ?_) fun h => ?_
  rotate_left
  · exact fin H pre hasD dt post mv D hr A (by first | exact le1 hn rfl | exact le2 hn rfl | (first | lia | omega)) (by first | exact le1 hn rfl | exact le2 hn rfl | (first | lia | omega)) .refl
  · have e : mv = df := by (first | lia | omega)
    subst e
    have hlen := A.len
    refine case_dflt okT D hr hw (by first | exact le1 hn rfl | exact le2 hn rfl | (first | lia | omega)) fun H1 t1 ht1 D1 hr1 u1 => ?_
    obtain ⟨A1, eA1⟩ := A.dflt ht1
    rw [← eA1] at hr1
    exact fin H1 pre true t1 post _ D1 hr1 A1 (by first | exact le1 hn rfl | exact le2 hn rfl | (first | lia | omega)) (by first | exact le1 hn rfl | exact le2 hn rfl | (first | lia | omega)) u1
theorem case_ok {n d : Nat} (hn : 4 ≤ n) (hd : Lb d ≤ 1000) (okT : TrOk scr (n - 1) d) : CaOk scr n d := by
  intro b rm H Q D q
  obtain ⟨m, rfl⟩ : ∃ m, n = m + 1 := ⟨n - 1, by (first | lia | omega)⟩
  have okT : TrOk scr m d := okT
  have hA : ∀ df, ArmS d 0 df .nil false .nil .nil := fun df => ⟨True.intro, True.intro, True.intro, fun _ => ⟨rfl, rfl⟩, (fun h => by cases h), Nat.zero_le _, Nat.zero_le _, Nat.zero_le _, Nat.zero_le _, Nat.zero_le _, Nat.zero_le _, True.intro, True.intro, True.intro⟩
  have rest : ∀ (k : Tg) (H1 : Hp), isKind k → DR H1 b rm → Up [b] H H1 → wpSs (Cn scr m) scr (match t_case with | .cons _ r => r | _ => .nil) [.obj b, .int d, .obj rm, .str k] H1 (bodyQ Q) := by
    intro k H1 hk D1 u1
    refine asgH_ok (r := match t_case with | .cons _ (.cons _ r) => r | _ => .nil) ?_
    refine ⟨ne_of_ok True.intro, ?_⟩
    refine word_dr (by first | exact le1 hn rfl | exact le2 hn rfl | (first | lia | omega)) D1 fun e H2 he D2 u2 => ?_
    show wpSs (Cn scr m) scr (match t_case with | .cons _ (.cons _ r) => r | _ => .nil) [.obj b, .int d, .obj rm, .str k, e.v] H2 _
    refine asgH_ok (r := t_case3) ?_
    refine ⟨ne_of_ok True.intro, ?_⟩
    refine pull_dr (by first | exact le1 hn rfl | exact le2 hn rfl | (first | lia | omega)) D2 (by first | exact le1 hn rfl | exact le2 hn rfl | (first | lia | omega)) (by first | exact le1 hn rfl | exact le2 hn rfl | (first | lia | omega)) fun r3 H3 hr3 D3 u3 => ?_
    have em : ∀ j : Nat, (1 : Int) + j = ((1 + j : Nat) : Int) := fun j => by simp
    show wpSs (Cn scr m) scr t_case3 [.obj b, .int d, .obj rm, .str k, e.v, .int (1 + (r3 : Int))] H3 _
    rw [em]
    refine asgH_ok (r := match t_case with | .cons _ (.cons _ (.cons _ (.cons _ r))) => r | _ => .nil) ?_
    refine ⟨ne_of_ok True.intro, ne_of_ok True.intro, ?_⟩
    refine pull_dr (by first | exact le1 hn rfl | exact le2 hn rfl | (first | lia | omega)) D3 (by first | exact le1 hn rfl | exact le2 hn rfl | (first | lia | omega)) (by first | exact le1 hn rfl | exact le2 hn rfl | (first | lia | omega)) fun df H4 hr4 D4 u4 => ?_
    show wpSs (Cn scr m) scr (match t_case with | .cons _ (.cons _ (.cons _ (.cons _ r))) => r | _ => .nil) [.obj b, .int d, .obj rm, .str k, e.v, .int ((1 + r3 : Nat) : Int), .int df] H4 _
    refine asgH_ok (r := match t_case with | .cons _ (.cons _ (.cons _ (.cons _ (.cons _ r)))) => r | _ => .nil) ?_
    have l4 := D4.lt
    have l14 := (((u1.trans u2).trans u3).trans u4).1
    show wpSs (Cn scr m) scr (match t_case with | .cons _ (.cons _ (.cons _ (.cons _ (.cons _ r)))) => r | _ => .nil) [.obj b, .int d, .obj rm, .str k, e.v, .int ((1 + r3 : Nat) : Int), .int df, .obj H4.length] (H4 ++ [.list []]) _
    have hw : H4.length ∉ [b, rm] := by simp; (first | lia | omega)
    have D5 : DR (H4 ++ [.list []]) b rm := D4.up (W := []) Up.app (by simp) (by simp)
    have u5 : Up [b, rm] H (H4 ++ [.list []]) := ((((u1.trans u2).trans u3).trans u4).mono (by simp)).trans Up.app
    have fin : ∀ (H6 : Hp) (pre : As) (hasD : Bool) (dt : T) (post : As) (tl : List V), DR H6 b rm → H6[H4.length]? = some (.list (armsV pre hasD dt post)) → ArmS d (1 + r3) df pre hasD dt post → Up [H4.length, b, rm] (H4 ++ [.list []]) H6 →
        wpSs (Cn scr m) scr t_case6 (.obj b :: .int d :: .obj rm :: .str k :: e.v :: .int ((1 + r3 : Nat) : Int) :: .int df :: .obj H4.length :: tl) H6 (bodyQ Q) := by
      intro H6 pre hasD dt post tl D6 hr6 A6 u6
      refine case_end (by first | exact le1 hn rfl | exact le2 hn rfl | (first | lia | omega)) hd okT (by first | exact le1 hn rfl | exact le2 hn rfl | (first | lia | omega)) hk he D6 hr6 hw A6 fun H' t ht' D' u' => ?_
      exact q t H' ht' D' (Up.shed ((u5.mono (by simp)).trans (u6.trans u')) l14)
    have D5' : armsV .nil false .nil .nil = [] := rfl
    rcases (by (first | lia | omega) : r3 = 0 ∨ r3 = 1) with rfl | rfl
    · refine ⟨ne_of_ok True.intro, by simp, by simp, True.intro, ?_⟩
      refine case_turn (i := 0) (df := df) (by first | exact le1 hn rfl | exact le2 hn rfl | (first | lia | omega)) hd okT (by first | exact le1 hn rfl | exact le2 hn rfl | (first | lia | omega)) D5 at_new hw (hA df) (.inl rfl) fun H6 p1 b1 t1 q1 y D6 hr6 A6 u6 => ⟨True.intro, ?_⟩
      exact fin H6 p1 b1 t1 q1 _ D6 hr6 A6 u6
    · refine ⟨ne_of_ok True.intro, by simp, by simp, True.intro, ?_⟩
      refine case_turn (i := 0) (df := df) (by first | exact le1 hn rfl | exact le2 hn rfl | (first | lia | omega)) hd okT (by first | exact le1 hn rfl | exact le2 hn rfl | (first | lia | omega)) D5 at_new hw (hA df) (.inl rfl) fun H6 p1 b1 t1 q1 y D6 hr6 A6 u6 => ⟨True.intro, ?_⟩
      refine case_turn (i := 1) (df := df) (by first | exact le1 hn rfl | exact le2 hn rfl | (first | lia | omega)) hd okT (by first | exact le1 hn rfl | exact le2 hn rfl | (first | lia | omega)) D6 hr6 hw A6 (.inr ⟨_, rfl⟩) fun H7 p2 b2 t2 q2 y2 D7 hr7 A7 u7 => ⟨True.intro, ?_⟩
      exact fin H7 p2 b2 t2 q2 _ D7 hr7 A7 (u6.trans u7)
  refine ⟨rfl, ?_⟩
  refine asgH_ok (r := match t_case with | .cons _ r => r | _ => .nil) ?_
  refine ⟨ne_of_ok True.intro, ?_⟩
  refine pull_dr (by first | exact le1 hn rfl | exact le2 hn rfl | (first | lia | omega)) D (by first | exact le1 hn rfl | exact le2 hn rfl | (first | lia | omega)) (by first | exact le1 hn rfl | exact le2 hn rfl | (first | lia | omega)) fun r H1 hr1 D1 u1 => ?_
  rcases (by (first | lia | omega) : r = 0 ∨ r = 1 ∨ r = 2) with rfl | rfl | rfl
  · refine ⟨rfl, ?_⟩
    exact rest .kCase H1 (.inl rfl) D1 u1
  · refine ⟨rfl, ?_⟩
    exact rest .kCasez H1 (.inr (.inl rfl)) D1 u1
  · refine ⟨rfl, ?_⟩
    exact rest .kCasex H1 (.inr (.inr rfl)) D1 u1
end Mine
namespace Mine
open PySem
variable {scr : List Int}
theorem test_dr {n : Nat} (hn : 2 ≤ n) {b rm : Nat} {H : Hp} {Q : V → Hp → Prop} (D : DR H b rm) (h : ∀ (e : X) H', e.test → DR H' b rm → Up [b, rm] H H' → Q e.v H') : Cn scr n (.fn .test) [.obj b] H Q := by
  obtain ⟨k, rfl⟩ : ∃ k, n = k + 2 := ⟨n - 2, by (first | lia | omega)⟩
  exact test_ok k D.1 fun e H' he B u => h e H' he (D.bag B u) (u.up.mono (by simp))
theorem store_dr {n : Nat} (hn : 3 ≤ n) {b rm : Nat} {H : Hp} {Q : V → Hp → Prop} (D : DR H b rm) (h : ∀ (t : T) H', Drawn 0 t → t.slots = 0 → DR H' b rm → Up [b, rm] H H' → Q t.v H') : Cn scr n (.fn .store) [.obj b] H Q := by
  obtain ⟨k, rfl⟩ : ∃ k, n = k + 3 := ⟨n - 3, by (first | lia | omega)⟩
  exact store_fn_ok k D.1 fun s e H' hs he B u => h (.set s e) H' ⟨⟨hs, he⟩, Nat.le_refl _, Nat.le_refl _, True.intro⟩ rfl (D.bag B u) (u.up.mono (by simp))
noncomputable def t_tree4 : Ss := match t_tree with | .cons _ (.cons _ (.cons _ (.cons _ r))) => r | _ => .nil
theorem tree_head {n d : Nat} (hn : 1 ≤ n) {b rm : Nat} {H : Hp} {Q : V → Hp → Prop} (D : DR H b rm) (q0 : Q .none H)
    (q : ∀ H' (p : Nat), DR H' b rm → Up [b, rm] H H' → p < 12 → (d = 0 → p < 3) → wpSs (Cn scr n) scr t_tree4 [.obj b, .int d, .obj rm, .int p] H' (bodyQ Q)) : Cn scr (n + 1) (.fn .tree) [.obj b, .int d, .obj rm] H Q := by
  obtain ⟨B, ⟨r, hr⟩, ne⟩ := D
  have D : DR H b rm := ⟨B, ⟨r, hr⟩, ne⟩
  refine ⟨rfl, ?_⟩
  refine ifEq_ok (x := r) (y := 0) (fun Q q => ?_) (fun Q q => q) (fun h => q0) fun h => ?_
  · repeat (first | refine guI True.intro ?_ | refine insI hr ?_ | refine lisI hr ?_ | refine cloI hr ?_ | refine optI hr ?_ | refine gnI ?_ | refine gtI ?_ | refine gsI rfl ?_ | ((conv => whnf); first | rw [hr] ))
    exact q
  repeat (first | refine guI True.intro ?_ | refine insI hr ?_ | refine lisI hr ?_ | refine cloI hr ?_ | refine optI hr ?_ | refine gnI ?_ | refine gtI ?_ | refine gsI rfl ?_ | ((conv => whnf); first | rw [hr] ))
  refine ⟨.inr rfl, ?_⟩
  repeat (first | refine guI True.intro ?_ | refine insI hr ?_ | refine lisI hr ?_ | refine cloI hr ?_ | refine optI hr ?_ | refine gnI ?_ | refine gtI ?_ | refine gsI rfl ?_ | ((conv => whnf); first | rw [hr] ))
  refine ⟨by simp, rfl, ?_⟩
  have u1 : Up [rm] H (H.set rm (.list [.int (r - 1)])) := Up.set (by simp)
  have D1 : DR (H.set rm (.list [.int (r - 1)])) b rm := ⟨B.up u1 (by simpa using ne), ⟨_, at_set_self hr⟩, ne⟩
  show wpSs (Cn scr n) scr (match t_tree with | .cons _ (.cons _ r) => r | _ => .nil) [.obj b, .int d, .obj rm] (H.set rm (.list [.int (r - 1)])) _
  refine asgH_ok (r := match t_tree with | .cons _ (.cons _ (.cons _ r)) => r | _ => .nil) ?_
  refine ⟨ne_of_ok True.intro, ?_⟩
  refine pull_dr hn D1 (by first | exact le1 hn rfl | exact le2 hn rfl | (first | lia | omega)) (by first | exact le1 hn rfl | exact le2 hn rfl | (first | lia | omega)) fun p H2 hp D2 u2 => ?_
  have u := (u1.mono (W' := [b, rm]) (by simp)).trans (u2.mono (by simp))
  refine ifEq_ok (x := d) (y := 0) (locI rfl) (fun Q q => q) (fun h => ?_) fun h => ?_
  · have hd : d = 0 := by (first | lia | omega)
    refine asgH_ok (r := .nil) ?_
    refine ⟨ne_of_ok True.intro, ?_⟩
    have e : ((p : Int)).fmod 3 = ((p % 3 : Nat) : Int) := by rw [Int.fmod_eq_emod_of_nonneg _ (by first | exact le1 hn rfl | exact le2 hn rfl | (first | lia | omega))]; (first | lia | omega)
    show wpSs (Cn scr n) scr t_tree4 [.obj b, .int d, .obj rm, .int ((p : Int).fmod 3)] H2 (bodyQ Q)
    rw [e]
    exact q H2 (p % 3) D2 u (by first | exact le1 hn rfl | exact le2 hn rfl | (first | lia | omega)) (fun _ => by (first | lia | omega))
  · exact q H2 p D2 u (by first | exact le1 hn rfl | exact le2 hn rfl | (first | lia | omega)) fun h0 => absurd (by first | exact le1 hn rfl | exact le2 hn rfl | (first | lia | omega)) h
theorem Drawn.up {d : Nat} {t : T} (h : Drawn 0 t) : Drawn d t := by
  have := Lb_pos d
  exact ⟨h.1, by have := h.2.1; (first | lia | omega), by have := h.2.2.1; simp only [Lb] at this; (first | lia | omega), h.2.2.2⟩
theorem drawn_nil {d : Nat} : Drawn d .nil := ⟨True.intro, Nat.zero_le _, Nat.zero_le _, True.intro⟩
theorem tree_zero {n : Nat} (hn : 4 ≤ n) : TrOk scr n 0 := by
  intro b rm H Q D q
  obtain ⟨m, rfl⟩ : ∃ m, n = m + 1 := ⟨n - 1, by (first | lia | omega)⟩
  refine tree_head (by first | exact le1 hn rfl | exact le2 hn rfl | (first | lia | omega)) D (q .nil H drawn_nil D .refl) fun H1 p D1 u1 _ hp => ?_
  have hp := hp rfl
  have sto : Cn scr m (.fn .store) [.obj b] H1 Q := store_dr (by first | exact le1 hn rfl | exact le2 hn rfl | (first | lia | omega)) D1 fun t H2 ht _ D2 u2 => q t H2 ht D2 (u1.trans u2)
  rcases (by (first | lia | omega) : p = 0 ∨ p = 1 ∨ p = 2) with rfl | rfl | rfl
  · repeat (first | refine guI True.intro ?_ | refine gnI ?_ | refine gtI ?_ | refine gsI rfl ?_)
    exact q .nil H1 drawn_nil D1 u1
  · repeat (first | refine guI True.intro ?_ | refine gnI ?_ | refine gtI ?_ | refine gsI rfl ?_)
    exact sto
  · repeat (first | refine guI True.intro ?_ | refine gnI ?_ | refine gtI ?_ | refine gsI rfl ?_)
    exact sto
theorem up1 {t : T} (h : t.ht ≤ 0 + 1) {d : Nat} : t.ht ≤ d + 1 := Nat.le_trans h (Nat.succ_le_succ (Nat.zero_le _))
theorem p12 : ∀ p : Nat, p < 12 → (p = 0 ∨ (p = 1 ∨ p = 2) ∨ (p = 3 ∨ p = 4) ∨ (p = 5 ∨ p = 6) ∨ p = 7 ∨ p = 8 ∨ p = 9 ∨ p = 10 ∨ p = 11) := by decide
set_option maxHeartbeats 2000000 in
theorem tree_succ {n d : Nat} (hn : 4 ≤ n) (hd : Lb d ≤ 400) (okT : TrOk scr (n - 1) d) (okC : CaOk scr (n - 1) d) : TrOk scr n (d + 1) := by
  intro b rm H Q D q
  obtain ⟨m, rfl⟩ : ∃ m, n = m + 1 := ⟨n - 1, by (first | lia | omega)⟩
  have okT : TrOk scr m d := okT
  have okC : CaOk scr m d := okC
  refine tree_head (by first | exact le1 hn rfl | exact le2 hn rfl | (first | lia | omega)) D (q .nil H drawn_nil D .refl) fun H1 p D1 u1 hp _ => ?_
  have ed : (((d + 1 : Nat) : Int)) - 1 = (d : Int) := by (first | lia | omega)
  have lb1 := Lb_pos d
  rcases p12 p hp with rfl | h | h | h | rfl | rfl | rfl | rfl | rfl
  · repeat (first | refine guI True.intro ?_ | refine gnI ?_ | refine gtI ?_ | refine gsI rfl ?_)
    exact q .nil H1 drawn_nil D1 u1
  · have sto : Cn scr m (.fn .store) [.obj b] H1 Q := store_dr (by first | exact le1 hn rfl | exact le2 hn rfl | (first | lia | omega)) D1 fun t H2 ht _ D2 u2 => q t H2 ht.up D2 (u1.trans u2)
    rcases h with rfl | rfl
    · repeat (first | refine guI True.intro ?_ | refine gnI ?_ | refine gtI ?_ | refine gsI rfl ?_)
      exact sto
    · repeat (first | refine guI True.intro ?_ | refine gnI ?_ | refine gtI ?_ | refine gsI rfl ?_)
      exact sto
  · have key : Cn scr m (.fn .test) [.obj b] H1 (fun v H2 => wpSs (Cn scr m) scr (.cons (.asg 5 (.call .tree (.cons (.loc 0) (.cons (.bin .sub (.loc 1) (.cI 1)) (.cons (.loc 2) .nil))))) (.cons (.ret (.tup (.cons (.cS .kIf) (.cons (.loc 4) (.cons (.loc 5) (.cons (.call .tree (.cons (.loc 0) (.cons (.bin .sub (.loc 1) (.cI 1)) (.cons (.loc 2) .nil)))) .nil)))))) .nil)) [.obj b, .int ((d + 1 : Nat) : Int), .obj rm, .int p, v] H2 (bodyQ Q)) := by
      refine test_dr (by first | exact le1 hn rfl | exact le2 hn rfl | (first | lia | omega)) D1 fun e H2 he D2 u2 => ?_
      repeat (first | refine guI True.intro ?_ | refine guI (X.v_ok _) ?_ | refine guI (T.v_ok _) ?_ | refine gnI ?_ | refine gtI ?_ | refine gsI rfl ?_)
      rw [ed]
      refine okT b rm H2 _ D2 fun a H3 ha D3 u3 => ?_
      repeat (first | refine guI True.intro ?_ | refine guI (X.v_ok _) ?_ | refine guI (T.v_ok _) ?_ | refine gcI (rfl : Cls.maker = .maker) ?_ | refine gcI (rfl : Mt.cls _ = .maker) ?_ | refine gnI ?_ | refine gtI ?_ | refine gsI rfl ?_)
      rw [ed]
      refine okT b rm H3 _ D3 fun c H4 hc D4 u4 => ?_
      refine q (.if_ e a c) H4 ⟨⟨he, ha.1, hc.1⟩, mk2 ha.2.1 hc.2.1, ?_, ⟨ha.2.2.2, hc.2.2.2⟩⟩ D4 (((u1.trans u2).trans u3).trans u4)
      have := ha.2.2.1
      have := hc.2.2.1
      simp only [T.len, Lb]
      cases c.isNil <;> simp only [cond_true, cond_false] <;> (first | lia | omega)
    rcases h with rfl | rfl
    · repeat (first | refine guI True.intro ?_ | refine gnI ?_ | refine gtI ?_ | refine gsI rfl ?_)
      exact key
    · repeat (first | refine guI True.intro ?_ | refine gnI ?_ | refine gtI ?_ | refine gsI rfl ?_)
      exact key
  · have cas : Cn scr m (.fn .case) [.obj b, .int d, .obj rm] H1 Q := okC b rm H1 Q D1 fun t H2 ht D2 u2 => q t H2 ht D2 (u1.trans u2)
    rcases h with rfl | rfl
    · repeat (first | refine guI True.intro ?_ | refine gnI ?_ | refine gtI ?_ | refine gsI rfl ?_)
      rw [ed]
      exact cas
    · repeat (first | refine guI True.intro ?_ | refine gnI ?_ | refine gtI ?_ | refine gsI rfl ?_)
      rw [ed]
      exact cas
  · repeat (first | refine guI True.intro ?_ | refine gnI ?_ | refine gtI ?_ | refine gsI rfl ?_)
    refine store_dr (by first | exact le1 hn rfl | exact le2 hn rfl | (first | lia | omega)) D1 fun a H2 ha sa D2 u2 => ?_
    repeat (first | refine guI True.intro ?_ | refine guI (X.v_ok _) ?_ | refine guI (T.v_ok _) ?_ | refine gnI ?_ | refine gtI ?_ | refine gsI rfl ?_)
    refine test_dr (by first | exact le1 hn rfl | exact le2 hn rfl | (first | lia | omega)) D2 fun e H3 he D3 u3 => ?_
    repeat (first | refine guI True.intro ?_ | refine guI (X.v_ok _) ?_ | refine guI (T.v_ok _) ?_ | refine gnI ?_ | refine gtI ?_ | refine gsI rfl ?_)
    refine store_dr (by first | exact le1 hn rfl | exact le2 hn rfl | (first | lia | omega)) D3 fun s H4 hs ss D4 u4 => ?_
    repeat (first | refine guI True.intro ?_ | refine guI (X.v_ok _) ?_ | refine guI (T.v_ok _) ?_ | refine gnI ?_ | refine gtI ?_ | refine gsI rfl ?_)
    rw [ed]
    refine okT b rm H4 _ D4 fun c H5 hc D5 u5 => ?_
    refine q (.for_ a e s c) H5 ⟨⟨he, ha.1, hs.1, hc.1, sa, ss⟩, ?_, ?_, hc.2.2.2⟩ D5 ((((u1.trans u2).trans u3).trans u4).trans u5)
    · exact mk3 (up1 ha.2.1) (up1 hs.2.1) hc.2.1
    · have := ha.2.2.1
      have := hs.2.2.1
      have := hc.2.2.1
      simp only [T.len, Lb] at *; (first | lia | omega)
  · repeat (first | refine guI True.intro ?_ | refine gnI ?_ | refine gtI ?_ | refine gsI rfl ?_)
    refine test_dr (by first | exact le1 hn rfl | exact le2 hn rfl | (first | lia | omega)) D1 fun e H3 he D3 u3 => ?_
    repeat (first | refine guI True.intro ?_ | refine guI (X.v_ok _) ?_ | refine guI (T.v_ok _) ?_ | refine gnI ?_ | refine gtI ?_ | refine gsI rfl ?_)
    rw [ed]
    refine okT b rm H3 _ D3 fun c H5 hc D5 u5 => ?_
    refine q (.while_ e c) H5 ⟨⟨he, hc.1⟩, ?_, ?_, hc.2.2.2⟩ D5 ((u1.trans u3).trans u5)
    · exact mk1 hc.2.1
    · have := hc.2.2.1
      simp only [T.len, Lb]; (first | lia | omega)
  · repeat (first | refine guI True.intro ?_ | refine gnI ?_ | refine gtI ?_ | refine gsI rfl ?_)
    refine word_dr (by first | exact le1 hn rfl | exact le2 hn rfl | (first | lia | omega)) D1 fun e H3 he D3 u3 => ?_
    repeat (first | refine guI True.intro ?_ | refine guI (X.v_ok _) ?_ | refine guI (T.v_ok _) ?_ | refine gnI ?_ | refine gtI ?_ | refine gsI rfl ?_)
    refine pull_dr (by first | exact le1 hn rfl | exact le2 hn rfl | (first | lia | omega)) D3 (by first | exact le1 hn rfl | exact le2 hn rfl | (first | lia | omega)) (by first | exact le1 hn rfl | exact le2 hn rfl | (first | lia | omega)) fun r H4 hr D4 u4 => ?_
    repeat (first | refine guI True.intro ?_ | refine guI (X.v_ok _) ?_ | refine guI (T.v_ok _) ?_ | refine gnI ?_ | refine gtI ?_ | refine gsI rfl ?_)
    rw [ed]
    refine okT b rm H4 _ D4 fun c H5 hc D5 u5 => ?_
    refine q (.rep e _ c) H5 ⟨⟨he, hc.1⟩, ?_, ?_, hc.2.2.2⟩ D5 ((u1.trans (u3.mono (by simp))).trans ((u4.mono (by simp)).trans u5))
    · exact mk1 hc.2.1
    · have := hc.2.2.1
      simp only [T.len, Lb]; (first | lia | omega)
  · repeat (first | refine guI True.intro ?_ | refine gnI ?_ | refine gtI ?_ | refine gsI rfl ?_)
    rw [ed]
    refine okT b rm H1 _ D1 fun a H3 ha D3 u3 => ?_
    repeat (first | refine guI True.intro ?_ | refine guI (X.v_ok _) ?_ | refine guI (T.v_ok _) ?_ | refine gcI (rfl : Cls.maker = .maker) ?_ | refine gcI (rfl : Mt.cls _ = .maker) ?_ | refine gnI ?_ | refine gtI ?_ | refine gsI rfl ?_)
    rw [ed]
    refine okT b rm H3 _ D3 fun c H4 hc D4 u4 => ?_
    refine q (.block (.cons a (.cons c .nil))) H4 ⟨⟨⟨ha.1, hc.1, True.intro⟩, ?_⟩, ?_, ?_, ⟨by simp [Ts.vs], ha.2.2.2, hc.2.2.2, True.intro⟩⟩ D4 ((u1.trans u3).trans u4)
    · have := ha.2.2.1; have := hc.2.2.1; simp only [Ts.len]; (first | lia | omega)
    · exact mk1 (Nat.max_le.mpr ⟨ha.2.1, Nat.max_le.mpr ⟨hc.2.1, Nat.zero_le _⟩⟩)
    · have := ha.2.2.1; have := hc.2.2.1; simp only [T.len, Ts.len, Lb]; (first | lia | omega)
  · repeat (first | refine guI True.intro ?_ | refine gnI ?_ | refine gtI ?_ | refine gsI rfl ?_)
    rw [ed]
    refine okT b rm H1 _ D1 fun c H3 hc D3 u3 => ?_
    refine q (.forever c) H3 ⟨hc.1, ?_, ?_, hc.2.2.2⟩ D3 (u1.trans u3)
    · exact mk1 hc.2.1
    · have := hc.2.2.1
      simp only [T.len, Lb]; (first | lia | omega)
theorem tree_two {n : Nat} (hn : 8 ≤ n) : TrOk scr n 2 :=
  tree_succ (d := 1) (by first | exact le1 hn rfl | exact le2 hn rfl | (first | lia | omega)) (by decide) (tree_succ (d := 0) (by first | exact le1 hn rfl | exact le2 hn rfl | (first | lia | omega)) (by decide) (tree_zero (by first | exact le1 hn rfl | exact le2 hn rfl | (first | lia | omega))) (case_ok (by first | exact le1 hn rfl | exact le2 hn rfl | (first | lia | omega)) (by decide) (tree_zero (by first | exact le1 hn rfl | exact le2 hn rfl | (first | lia | omega)))))
    (case_ok (by first | exact le1 hn rfl | exact le2 hn rfl | (first | lia | omega)) (by decide) (tree_succ (d := 0) (by first | exact le1 hn rfl | exact le2 hn rfl | (first | lia | omega)) (by decide) (tree_zero (by first | exact le1 hn rfl | exact le2 hn rfl | (first | lia | omega))) (case_ok (by first | exact le1 hn rfl | exact le2 hn rfl | (first | lia | omega)) (by decide) (tree_zero (by first | exact le1 hn rfl | exact le2 hn rfl | (first | lia | omega))))))
end Mine
namespace Mine
open PySem
variable {scr : List Int}
noncomputable def fixMore : T := .set 0 (.var 0 1)
noncomputable def fixT : T := .block (.cons (.set 0 (.const 3 0 0)) (.cons (.for_ (.set 1 (.const 3 6 0)) (.below 1 7) (.set 1 (.var 1 1)) fixMore) (.cons (.rep (.const 3 4 0) true fixMore) (.cons (.rep (.const 3 4 0) false fixMore) (.cons (.if_ (.const 1 1 1) .nil (.set 2 (.const 3 2 0)))
  (.cons (.case .kCasez (.var 2 0) .nil true (.set 1 (.const 3 7 0)) (.cons [.const 3 4 3, .var 0 1] .nil (.cons [.const 3 2 5] fixMore .nil))) .nil))))))
theorem fixed_ok {n : Nat} (hn : 1 ≤ n) {H : Hp} {Q : V → Hp → Prop} (q : Q fixT.v H) : Cn scr n (.fn .fixed) [] H Q := by
  obtain ⟨m, rfl⟩ : ∃ m, n = m + 1 := ⟨n - 1, by (first | lia | omega)⟩
  refine ⟨rfl, ?_⟩
  repeat (first | refine guI True.intro ?_ | refine gnI ?_ | refine gtI ?_ | refine gsI rfl ?_)
  exact q
theorem wf_t {p : Prop} : (true = false → p) = True := propext ⟨fun _ => trivial, fun _ h => Bool.noConfusion h⟩
theorem fixed_wf : fixT.wf ∧ fixT.ht ≤ 4 ∧ fixT.len ≤ 3000 ∧ fixT.kids := by
  refine ⟨?_, by decide, by decide, ?_⟩
  · simp [↓wf_t, fixT, fixMore, T.wf, Ts.wf, As.wf, X.word, X.test, As.nlab, T.slots, Ts.len, T.len, As.len, isKind, X.own, T.isNil]
  · simp [fixT, fixMore, T.kids, Ts.kids, As.kids, Ts.vs]
noncomputable def b_bag : Ss := match t_bag with | .cons _ (.cons (.for_ _ _ b) _) => b | _ => .nil
theorem bag_turn {C : CallP} {b : Nat} {y c : Int} {l : List Int} {H : Hp} {K : Fl → List V → Hp → Prop} {u : V} {tl : List V} (h : H[b]? = some (.list (.int 0 :: .int y :: l.map V.int))) (hl : l.length ≤ 50)
    (q : ∀ y', 0 ≤ y' → y' < 4294967296 → K .next (u :: .obj b :: .int c :: tl) (H.set b (.list (.int 0 :: .int y' :: (l ++ [c]).map V.int)))) : wpSs C scr b_bag (u :: .obj b :: .int c :: tl) H K := by
  repeat (first | refine guI True.intro ?_ | refine insI h ?_ | refine lisI h ?_ | refine cloI h ?_ | refine optI h ?_ | refine gnI ?_ | refine gtI ?_ | refine gsI rfl ?_ | ((conv => whnf); first | rw [h] ))
  refine ⟨by simp; (first | lia | omega), ?_⟩
  have h2 := at_set_self (o' := CO.list (V.int 0 :: V.int y :: l.map V.int ++ [V.int c])) h
  repeat (first | refine guI True.intro ?_ | refine insI h2 ?_ | refine lisI h2 ?_ | refine cloI h2 ?_ | refine optI h2 ?_ | refine gnI ?_ | refine gtI ?_ | refine gsI rfl ?_ | ((conv => whnf); first | rw [h2] ))
  conv => whnf
  rw [binI_mul (by simp [small])]
  repeat (first | refine guI True.intro ?_ | refine insI h2 ?_ | refine lisI h2 ?_ | refine cloI h2 ?_ | refine optI h2 ?_ | refine gnI ?_ | refine gtI ?_ | refine gsI rfl ?_ | ((conv => whnf); first | rw [h2] ))
  refine ⟨by simp, rfl, ?_⟩
  have f0 : 0 ≤ ((y * 31 + c.fmod 9973 + 1).fmod 1000003) := Int.fmod_nonneg_of_pos _ (by first | exact le1 hn rfl | exact le2 hn rfl | (first | lia | omega))
  have f1 : (y * 31 + c.fmod 9973 + 1).fmod 1000003 < 1000003 := Int.fmod_lt_of_pos _ (by first | exact le1 hn rfl | exact le2 hn rfl | (first | lia | omega))
  have := q _ f0 (by first | exact le1 hn rfl | exact le2 hn rfl | (first | lia | omega))
  rw [List.map_append] at this
  conv => whnf
  rw [List.set_set]
  exact this
theorem bag_fill {C : CallP} {b j : Nat} {K : Fl → List V → Hp → Prop} {u : V} {items : List V} (ne : b ≠ j) : ∀ (cs l : List Int) (y : Int) (H : Hp) (tl : List V), H[b]? = some (.list (.int 0 :: .int y :: l.map V.int)) → 0 ≤ y → y < 4294967296 → l.length + cs.length ≤ 20 → H[j]? = some (.list items) → one' tl →
    (∀ H' tl', BagAt H' b → K .next (u :: .obj b :: tl') H') →
    forW (stillW (.obj j) items) (fun v loc H k => wpSs C scr b_bag (setL loc 2 v) H k) (cs.map V.int) (u :: .obj b :: tl) H K := by
  intro cs
  induction cs with
  | nil =>
    intro l y H tl h y0 y1 hl hj ht q
    exact ⟨hj, q H tl ⟨0, y, l, h, y0, y1, by simpa using hl⟩⟩
  | cons c cs ih0 =>
    intro l y H tl h y0 y1 hl hj ht q
    have key : ∀ t2, wpSs C scr b_bag (u :: .obj b :: .int c :: t2) H (fun f loc H => match f with
        | .next => forW (stillW (.obj j) items) (fun v loc H k => wpSs C scr b_bag (setL loc 2 v) H k) (cs.map V.int) loc H K
        | .cont => forW (stillW (.obj j) items) (fun v loc H k => wpSs C scr b_bag (setL loc 2 v) H k) (cs.map V.int) loc H K
        | .ret v => K (.ret v) loc H) → True := fun _ _ => True.intro
    refine ⟨hj, ?_⟩
    have go : wpSs C scr b_bag [u, .obj b, .int c] H (fun f loc H => match f with
        | .next => forW (stillW (.obj j) items) (fun v loc H k => wpSs C scr b_bag (setL loc 2 v) H k) (cs.map V.int) loc H K
        | .cont => forW (stillW (.obj j) items) (fun v loc H k => wpSs C scr b_bag (setL loc 2 v) H k) (cs.map V.int) loc H K
        | .ret v => K (.ret v) loc H) := by
      refine bag_turn h (by simp at hl; (first | lia | omega)) fun y' g0 g1 => ?_
      exact ih0 (l ++ [c]) y' _ [.int c] (at_set_self h) g0 g1 (by simp at hl ⊢; (first | lia | omega)) (at_set_ne hj ne) (.inr ⟨_, rfl⟩) q
    rcases ht with rfl | ⟨z, rfl⟩
    · exact go
    · exact go
theorem bag_ok {n : Nat} (hn : 1 ≤ n) (hs : scr.length ≤ 100000) {H : Hp} {Q : V → Hp → Prop} (q : ∀ H' b, BagAt H' b → Q (.obj b) H') : Cn scr n (.fn .bag) [.scr] H Q := by
  obtain ⟨m, rfl⟩ : ∃ m, n = m + 1 := ⟨n - 1, by (first | lia | omega)⟩
  refine ⟨rfl, ?_⟩
  refine asgH_ok ?_
  show wpSs (Cn scr m) scr (match t_bag with | .cons _ r => r | _ => .nil) [.scr, .obj H.length] (H ++ [.list [.int 0, .int 1]]) _
  refine ⟨ne_of_ok True.intro, ?_⟩
  first | refine insI (at_new) ?_ | refine lisI (at_new) ?_ | ((conv => whnf); rw [at_new])
  conv => whnf
  refine ⟨by (first | lia | omega), rfl, by simpa using hs, ?_⟩
  first | refine insI (at_new) ?_ | refine lisI (at_new) ?_ | ((conv => whnf); rw [at_new])
  have et : (scr.map V.int).take ((20 : Int)).toNat = (scr.take 20).map V.int := by rw [List.map_take]; rfl
  show forW (stillW (.obj (H ++ [CO.list [.int 0, .int 1]] ++ [CO.list (scr.map V.int)]).length) ((scr.map V.int).take ((20 : Int)).toNat)) (fun v loc H k => wpSs (Cn scr m) scr b_bag (setL loc 2 v) H k) ((scr.map V.int).take ((20 : Int)).toNat) [.scr, .obj H.length] (H ++ [CO.list [.int 0, .int 1]] ++ [CO.list (scr.map V.int)] ++ [CO.list ((scr.map V.int).take ((20 : Int)).toNat)]) _
  rw [et]
  refine bag_fill (by simp <;> (first | lia | omega)) (scr.take 20) [] 1 _ [] (at_add (at_add at_new)) (by first | exact le1 hn rfl | exact le2 hn rfl | (first | lia | omega)) (by first | exact le1 hn rfl | exact le2 hn rfl | (first | lia | omega)) (by simp; (first | lia | omega)) at_new (.inl rfl) fun H' tl' B => ?_
  exact ⟨ne_of_ok True.intro, q H' _ B⟩
end Mine
namespace Mine
open PySem
variable {scr : List Int}
theorem pull_b {n : Nat} (hn : 1 ≤ n) {b : Nat} {many : Int} {H : Hp} {Q : V → Hp → Prop} (B : BagAt H b) (hm : 1 ≤ many) (hm2 : many < 1000) (h : ∀ (r : Nat) H', (r : Int) < many → BagAt H' b → Up [b] H H' → Q (.int r) H') : Cn scr n (.fn .pull) [.obj b, .int many] H Q := by
  obtain ⟨k, rfl⟩ : ∃ k, n = k + 1 := ⟨n - 1, by (first | lia | omega)⟩
  exact pull_nat k B hm hm2 fun r H' hr B u => h r H' hr B u.up
noncomputable def b_turn : Ss := match t_law with | .cons _ (.cons _ (.cons _ (.cons (.forR _ _ b) _))) => b | _ => .nil
noncomputable def b_item : Ss := match b_turn with | .cons _ (.cons _ (.cons (.forR _ _ b) _)) => b | _ => .nil
theorem item_ok {n : Nat} (hn : 1 ≤ n) {b j : Nat} {w : Bool} {b0 b2 b3 b4 b7 : V} {L : List V} {H : Hp} {K : Fl → List V → Hp → Prop} (B : BagAt H b) (hj : H[j]? = some (.list L)) (ne : b ≠ j) (hL : L.length ≤ 50)
    (q : ∀ (r : Nat) H', r < 4 → BagAt H' b → H'[j]? = some (.list (L ++ [.int r])) → Up [b, j] H H' → K .next [b0, .obj b, b2, b3, b4, .obj j, .bool w, b7] H') : wpSs (Cn scr n) scr b_item [b0, .obj b, b2, b3, b4, .obj j, .bool w, b7] H K := by
  have go : ∀ many : Int, 1 ≤ many → many ≤ 4 → Cn scr n (.fn .pull) [.obj b, .int many] H (fun v H' => match H'[j]? with
      | some (.list vs) => vs.length ≤ 100000 ∧ K .next [b0, .obj b, b2, b3, b4, .obj j, .bool w, b7] (H'.set j (.list (vs ++ [v])))
      | _ => False) := fun many h1 h2 => pull_b hn B h1 (by first | exact le1 hn rfl | exact le2 hn rfl | (first | lia | omega)) fun r H' hr B' u => by
    have hj' := u.2 _ _ hj (by simpa using Ne.symm ne)
    rw [hj']
    have u2 : Up [j] H' (H'.set j (.list (L ++ [.int r]))) := Up.set (by simp)
    exact ⟨by (first | lia | omega), q r _ (by first | exact le1 hn rfl | exact le2 hn rfl | (first | lia | omega)) (B'.up u2 (by simpa using ne)) (at_set_self hj') ((u.mono (by simp)).trans (u2.mono (by simp)))⟩
  cases w with
  | true =>
    repeat (first | refine guI True.intro ?_ | refine insI hj ?_ | refine lisI hj ?_ | refine cloI hj ?_ | refine optI hj ?_ | refine gnI ?_ | refine gtI ?_ | refine gsI rfl ?_ | ((conv => whnf); first | rw [hj] ))
    exact go 4 (by first | exact le1 hn rfl | exact le2 hn rfl | (first | lia | omega)) (by first | exact le1 hn rfl | exact le2 hn rfl | (first | lia | omega))
  | false =>
    repeat (first | refine guI True.intro ?_ | refine insI hj ?_ | refine lisI hj ?_ | refine cloI hj ?_ | refine optI hj ?_ | refine gnI ?_ | refine gtI ?_ | refine gsI rfl ?_ | ((conv => whnf); first | rw [hj] ))
    exact go 2 (by first | exact le1 hn rfl | exact le2 hn rfl | (first | lia | omega)) (by first | exact le1 hn rfl | exact le2 hn rfl | (first | lia | omega))
noncomputable def HP (H : Hp) (h b : Nat) (js : List (Nat × List Nat)) : Prop := H[h]? = some (.list (js.map fun p => V.obj p.1)) ∧ ∀ p ∈ js, Row3 p.2 ∧ H[p.1]? = some (.list (rowV p.2)) ∧ p.1 ∉ [b, h]
theorem turn_ok {n : Nat} (hn : 1 ≤ n) {b h : Nat} {js : List (Nat × List Nat)} {b0 b2 b4 : V} {tl : List V} {H : Hp} {K : Fl → List V → Hp → Prop} (B : BagAt H b) (P : HP H h b js) (ne : b ≠ h) (hl : js.length ≤ 50) (ht : tl = [] ∨ ∃ x y z, tl = [x, y, z])
    (q : ∀ H' js' x y z, js'.length = js.length + 1 → BagAt H' b → HP H' h b js' → K .next [b0, .obj b, b2, .obj h, b4, x, y, z] H') : wpSs (Cn scr n) scr b_turn (b0 :: .obj b :: b2 :: .obj h :: b4 :: tl) H K := by
  have key : ∀ y1 y2, wpSs (Cn scr n) scr (match b_turn with | .cons _ r => r | _ => .nil) (b0 :: .obj b :: b2 :: .obj h :: b4 :: .obj H.length :: (match tl with | [] => [] | _ => [y1, y2])) (H ++ [.list []]) K := by
    intro y1 y2
    obtain ⟨P1, P2⟩ := P
    have lb : b < H.length := by obtain ⟨x, y, l, e, _⟩ := B; exact lt_at e
    have lh := lt_at P1
    have nb : b ≠ H.length := by (first | lia | omega)
    have fin : ∀ (H2 : Hp) (w : Bool) (z : V) (r0 r1 r2 : Nat), r0 < 4 → r1 < 4 → r2 < 4 → BagAt H2 b → H2[H.length]? = some (.list [.int r0, .int r1, .int r2]) → Up [b, H.length] (H ++ [.list []]) H2 →
        wpSs (Cn scr n) scr (.cons (.ex (.append (.loc 3) (.loc 5))) .nil) [b0, .obj b, b2, .obj h, b4, .obj H.length, .bool w, z] H2 K := by
      intro H2 w z r0 r1 r2 h0 h1 h2 B2 hj u
      have hh : H2[h]? = some (.list (js.map fun p => V.obj p.1)) := u.2 _ _ (at_add P1) (by simp; (first | lia | omega))
      repeat (first | refine guI True.intro ?_ | refine insI hh ?_ | refine lisI hh ?_ | refine cloI hh ?_ | refine optI hh ?_ | refine gnI ?_ | refine gtI ?_ | refine gsI rfl ?_ | ((conv => whnf); first | rw [hh] ))
      refine ⟨by simp; (first | lia | omega), ?_⟩
      have u2 : Up [h] H2 (H2.set h (.list ((js.map fun p => V.obj p.1) ++ [.obj H.length]))) := Up.set (by simp)
      refine q _ (js ++ [(H.length, [r0, r1, r2])]) _ _ _ (by simp) (B2.up u2 (by simpa using ne)) ⟨?_, fun p hp => ?_⟩
      · rw [List.map_append]
        exact at_set_self hh
      · rcases List.mem_append.mp hp with hp | hp
        · obtain ⟨g1, g2, g3⟩ := P2 p hp
          have lp := lt_at g2
          simp only [List.mem_cons, List.not_mem_nil, or_false, not_or] at g3
          exact ⟨g1, u2.2 _ _ (u.2 _ _ (at_add g2) (by simp; (first | lia | omega))) (by simp; (first | lia | omega)), by simp; (first | lia | omega)⟩
        · simp at hp
          subst hp
          exact ⟨⟨r0, r1, r2, rfl, h0, h1, h2⟩, u2.2 _ _ hj (by simp; (first | lia | omega)), by simp; (first | lia | omega)⟩
    have run : ∀ (H1 : Hp) (w : Bool) (t2 : List V), (t2 = [] ∨ ∃ z, t2 = [z]) → BagAt H1 b → H1[H.length]? = some (.list []) → Up [b, H.length] (H ++ [.list []]) H1 →
        wpSs (Cn scr n) scr (match b_turn with | .cons _ (.cons _ r) => r | _ => .nil) (b0 :: .obj b :: b2 :: .obj h :: b4 :: .obj H.length :: .bool w :: t2) H1 K := by
      intro H1 w t2 ht2 B1 hj1 u1
      have go : wpSs (Cn scr n) scr b_item [b0, .obj b, b2, .obj h, b4, .obj H.length, .bool w, .int (0 : Nat)] H1 (fun f loc H => match f with
          | .next => forW (fun _ => True) (fun v loc H k => wpSs (Cn scr n) scr b_item (setL loc 7 v) H k) [.int (1 : Nat), .int (2 : Nat)] loc H (fun f loc H => match f with
            | .next => wpSs (Cn scr n) scr (.cons (.ex (.append (.loc 3) (.loc 5))) .nil) loc H K | .cont => K .cont loc H | .ret v => K (.ret v) loc H)
          | .cont => forW (fun _ => True) (fun v loc H k => wpSs (Cn scr n) scr b_item (setL loc 7 v) H k) [.int (1 : Nat), .int (2 : Nat)] loc H (fun f loc H => match f with
            | .next => wpSs (Cn scr n) scr (.cons (.ex (.append (.loc 3) (.loc 5))) .nil) loc H K | .cont => K .cont loc H | .ret v => K (.ret v) loc H)
          | .ret v => K (.ret v) loc H) := by
        refine item_ok hn B1 hj1 nb (by simp) fun r0 H2 h0 B2 hj2 u2 => ⟨True.intro, ?_⟩
        refine item_ok hn B2 hj2 nb (by simp) fun r1 H3 h1 B3 hj3 u3 => ⟨True.intro, ?_⟩
        refine item_ok hn B3 hj3 nb (by simp) fun r2 H4 h2 B4 hj4 u4 => ⟨True.intro, ?_⟩
        exact fin H4 w _ r0 r1 r2 h0 h1 h2 B4 hj4 (u1.trans (u2.trans (u3.trans u4)))
      refine ⟨by decide, by decide, True.intro, ?_⟩
      rcases ht2 with rfl | ⟨z, rfl⟩
      · exact go
      · exact go
    have start : ∀ (t2 : List V), (t2 = [] ∨ ∃ x z, t2 = [x, z]) → wpSs (Cn scr n) scr (match b_turn with | .cons _ r => r | _ => .nil) (b0 :: .obj b :: b2 :: .obj h :: b4 :: .obj H.length :: t2) (H ++ [.list []]) K := by
      intro t2 ht2
      refine asgH_ok ?_
      refine ⟨ne_of_ok True.intro, ?_⟩
      refine pull_b hn (B.up (W := []) Up.app (by simp)) (by first | exact le1 hn rfl | exact le2 hn rfl | (first | lia | omega)) (by first | exact le1 hn rfl | exact le2 hn rfl | (first | lia | omega)) fun r H1 hr B1 u1 => ?_
      have hj1 := u1.2 _ _ (at_new (H := H) (o := .list [])) (by simpa using Ne.symm nb)
      rcases ht2 with rfl | ⟨x, z, rfl⟩
      · exact run H1 _ [] (.inl rfl) B1 hj1 (u1.mono (by simp))
      · exact run H1 _ [z] (.inr ⟨_, rfl⟩) B1 hj1 (u1.mono (by simp))
    refine start _ ?_
    cases tl with
    | nil => exact .inl rfl
    | cons a l => exact .inr ⟨_, _, rfl⟩
  rcases ht with rfl | ⟨x, y, z, rfl⟩
  · exact key .none .none
  · exact key y z
theorem HP.held {H : Hp} {h b : Nat} {js : List (Nat × List Nat)} (P : HP H h b js) (hl : js.length = 3) : ∃ hd, HeldAt H h hd := by
  match js, hl with
  | [p0, p1, p2], _ =>
    obtain ⟨P1, P2⟩ := P
    refine ⟨fun s => if s = 0 then p0.2 else if s = 1 then p1.2 else p2.2, _, P1, rfl, fun s hs => ?_⟩
    rcases (by (first | lia | omega) : s = 0 ∨ s = 1 ∨ s = 2) with rfl | rfl | rfl
    · have := P2 p0 (by simp); exact ⟨this.1, p0.1, rfl, this.2.1⟩
    · have := P2 p1 (by simp); exact ⟨this.1, p1.1, rfl, this.2.1⟩
    · have := P2 p2 (by simp); exact ⟨this.1, p2.1, rfl, this.2.1⟩
theorem HP.app {H l : Hp} {h b : Nat} {js : List (Nat × List Nat)} (P : HP H h b js) : HP (H ++ l) h b js := ⟨at_add P.1, fun p hp => ⟨(P.2 p hp).1, at_add (P.2 p hp).2.1, (P.2 p hp).2.2⟩⟩
theorem HP.up {H H' : Hp} {h b rm : Nat} {js : List (Nat × List Nat)} (P : HP H h b js) (u : Up [b, rm] H H') (h1 : h ≠ b) (h2 : H.length ≤ rm ∨ (h ≠ rm ∧ ∀ p ∈ js, p.1 ≠ rm)) : HP H' h b js := by
  have lh := lt_at P.1
  refine ⟨u.2 _ _ P.1 (by simp; (first | lia | omega)), fun p hp => ?_⟩
  obtain ⟨g1, g2, g3⟩ := P.2 p hp
  have lp := lt_at g2
  simp only [List.mem_cons, List.not_mem_nil, or_false, not_or] at g3
  refine ⟨g1, u.2 _ _ g2 ?_, by simp; (first | lia | omega)⟩
  simp only [List.mem_cons, List.not_mem_nil, or_false, not_or]
  refine ⟨g3.1, ?_⟩
  rcases h2 with h2 | h2
  · (first | lia | omega)
  · exact h2.2 p hp
noncomputable def t_law4 : Ss := match t_law with | .cons _ (.cons _ (.cons _ (.cons _ r))) => r | _ => .nil
theorem law_tail {n : Nat} (hn : 21 ≤ n) {b h base : Nat} (hb : base ≤ 50) {js : List (Nat × List Nat)} {b0 b4 x y z : V} {H : Hp} {K : Fl → List V → Hp → Prop} (B : BagAt H b) (P : HP H h b js) (ne : b ≠ h) (hl : js.length = 3)
    (q : ∀ loc' H', K (.ret (.bool true)) loc' H') : wpSs (Cn scr n) scr t_law4 [b0, .obj b, .int base, .obj h, b4, x, y, z] H K := by
  have lb : b < H.length := by obtain ⟨x, y, l, e, _⟩ := B; exact lt_at e
  have lh := lt_at P.1
  refine asgH_ok (r := match t_law4 with | .cons _ r => r | _ => .nil) ?_
  show wpSs (Cn scr n) scr (match t_law4 with | .cons _ r => r | _ => .nil) [b0, .obj b, .int base, .obj h, b4, x, y, z, .obj H.length] (H ++ [.list [.int 6]]) _
  have D : DR (H ++ [.list [.int 6]]) b H.length := ⟨B.up (W := []) Up.app (by simp), ⟨6, at_new⟩, by (first | lia | omega)⟩
  refine asgH_ok (r := match t_law4 with | .cons _ (.cons _ r) => r | _ => .nil) ?_
  refine ⟨ne_of_ok True.intro, ne_of_ok True.intro, ?_⟩
  refine tree_two (by first | exact le1 hn rfl | exact le2 hn rfl | (first | lia | omega)) b H.length _ _ D fun t1 H1 ht1 D1 u1 => ?_
  have far : h ≠ H.length ∧ ∀ p ∈ js, p.1 ≠ H.length := ⟨by (first | lia | omega), fun p hp => by have := lt_at (P.2 p hp).2.1; (first | lia | omega)⟩
  have P1 := (P.app (l := [.list [.int 6]])).up u1 (Ne.symm ne) (.inr far)
  show wpSs (Cn scr n) scr (match t_law4 with | .cons _ (.cons _ r) => r | _ => .nil) [b0, .obj b, .int base, .obj h, b4, x, y, z, .obj H.length, t1.v] H1 _
  refine asgH_ok (r := match t_law4 with | .cons _ (.cons _ (.cons _ r)) => r | _ => .nil) ?_
  refine ⟨ne_of_ok (T.v_ok t1), ne_of_ok True.intro, ne_of_ok True.intro, ?_⟩
  refine tree_two (by first | exact le1 hn rfl | exact le2 hn rfl | (first | lia | omega)) b H.length _ _ D1 fun t2 H2 ht2 D2 u2 => ?_
  have P2 := P1.up u2 (Ne.symm ne) (.inr far)
  obtain ⟨hd, hh⟩ := P2.held hl
  show wpSs (Cn scr n) scr (.cons (.ret (.and2 (.call .same (.cons (.call .fixed .nil) (.cons (.loc 2) (.cons (.loc 3) (.cons (.cI 30) .nil))))) (.call .same (.cons (.loc 10) (.cons (.loc 2) (.cons (.loc 3) (.cons (.cI 11) .nil))))))) .nil) [b0, .obj b, .int base, .obj h, b4, x, y, z, .obj H.length, t1.v, (T.block (two t1 t2)).v] H2 _
  show wpE (Cn scr n) scr (.and2 (.call .same (.cons (.call .fixed .nil) (.cons (.loc 2) (.cons (.loc 3) (.cons (.cI 30) .nil))))) (.call .same (.cons (.loc 10) (.cons (.loc 2) (.cons (.loc 3) (.cons (.cI 11) .nil)))))) _ H2 _
  refine fixed_ok (by first | exact le1 hn rfl | exact le2 hn rfl | (first | lia | omega)) ⟨ne_of_ok True.intro, ne_of_ok True.intro, ?_⟩
  obtain ⟨f1, f2, f3, f4⟩ := fixed_wf
  refine same_ok (most := 30) (by first | exact le1 hn rfl | exact le2 hn rfl | (first | lia | omega)) f1 f2 f3 f4 hb (by first | exact le1 hn rfl | exact le2 hn rfl | (first | lia | omega)) hh fun H3 u3 => ?_
  refine ⟨ne_of_ok (T.v_ok _), ne_of_ok True.intro, ne_of_ok True.intro, ?_⟩
  have l1 := ht1.2.2.1
  have l2 := ht2.2.2.1
  have g1 := ht1.2.1
  have g2 := ht2.2.1
  simp only [Lb] at l1 l2
  refine same_ok (most := 11) (t := .block (two t1 t2)) (by first | exact le1 hn rfl | exact le2 hn rfl | (first | lia | omega)) ⟨⟨ht1.1, ht2.1, True.intro⟩, by simp only [two, Ts.len]; (first | lia | omega)⟩ (mk1 (Nat.max_le.mpr ⟨g1, Nat.max_le.mpr ⟨g2, Nat.zero_le _⟩⟩)) (by simp only [T.len, two, Ts.len]; (first | lia | omega)) ⟨by simp [two, Ts.vs], ht1.2.2.2, ht2.2.2.2, True.intro⟩ hb (by first | exact le1 hn rfl | exact le2 hn rfl | (first | lia | omega)) (hh.up u3) fun H4 u4 => ?_
  exact q _ H4
theorem asgV_ok {C : CallP} {i : Nat} {e : E} {v : V} {r : Ss} {loc loc' : List V} {H H' : Hp} {K : Fl → List V → Hp → Prop} (he : ∀ Q : V → Hp → Prop, Q v H' → wpE C scr e loc H Q) (hl : setL loc i v = loc') (h : wpSs C scr r loc' H' K) : wpSs C scr (.cons (.asg i e) r) loc H K := by
  subst hl
  exact he _ h
theorem lst0 {C : CallP} {loc : List V} {H : Hp} {Q : V → Hp → Prop} (q : Q (.obj H.length) (H ++ [.list []])) : wpE C scr (.lst .nil) loc H Q := q
noncomputable def t_law1 : Ss := match t_law with | .cons _ r => r | _ => .nil
noncomputable def t_law2 : Ss := match t_law with | .cons _ (.cons _ r) => r | _ => .nil
noncomputable def t_law3 : Ss := match t_law with | .cons _ (.cons _ (.cons _ r)) => r | _ => .nil
theorem law_ok {n : Nat} (hn : 21 ≤ n) (hs : scr.length ≤ 100000) {K : Fl → List V → Hp → Prop} (q : ∀ loc' H', K (.ret (.bool true)) loc' H') : wpSs (Cn scr n) scr t_law [.scr] [] K := by
  refine asgH_ok (r := t_law1) ?_
  refine ⟨ne_of_ok True.intro, ?_⟩
  refine bag_ok (by first | exact le1 hn rfl | exact le2 hn rfl | (first | lia | omega)) hs fun H1 b B1 => ?_
  show wpSs (Cn scr n) scr t_law1 [.scr, .obj b] H1 _
  refine asgH_ok (r := t_law2) ?_
  refine ⟨ne_of_ok True.intro, ?_⟩
  refine pull_b (by first | exact le1 hn rfl | exact le2 hn rfl | (first | lia | omega)) B1 (by first | exact le1 hn rfl | exact le2 hn rfl | (first | lia | omega)) (by first | exact le1 hn rfl | exact le2 hn rfl | (first | lia | omega)) fun base H2 hb B2 u2 => ?_
  show wpSs (Cn scr n) scr t_law2 [.scr, .obj b, .int base] H2 _
  refine asgV_ok (r := t_law3) (v := .obj H2.length) (H' := H2 ++ [CO.list []]) (loc' := [.scr, .obj b, .int base, .obj H2.length]) (fun Q q => q) rfl ?_
  have lb : b < H2.length := by obtain ⟨x, y, l, e, _⟩ := B2; exact lt_at e
  refine ⟨by decide, by decide, True.intro, ?_⟩
  refine turn_ok (js := []) (tl := []) (b0 := .scr) (b2 := .int base) (b4 := .int (0 : Nat)) (by first | exact le1 hn rfl | exact le2 hn rfl | (first | lia | omega)) (B2.up (W := []) Up.app (by simp)) ⟨at_new, fun p hp => by cases hp⟩ (by first | exact le1 hn rfl | exact le2 hn rfl | (first | lia | omega)) (by simp) (.inl rfl) fun H3 j3 x y z l3 B3 P3 => ⟨True.intro, ?_⟩
  refine turn_ok (js := j3) (tl := [x, y, z]) (b0 := .scr) (b2 := .int base) (b4 := .int (1 : Nat)) (by first | exact le1 hn rfl | exact le2 hn rfl | (first | lia | omega)) B3 P3 (by first | exact le1 hn rfl | exact le2 hn rfl | (first | lia | omega)) (by simp at l3; (first | lia | omega)) (.inr ⟨_, _, _, rfl⟩) fun H4 j4 x y z l4 B4 P4 => ⟨True.intro, ?_⟩
  refine turn_ok (js := j4) (tl := [x, y, z]) (b0 := .scr) (b2 := .int base) (b4 := .int (2 : Nat)) (by first | exact le1 hn rfl | exact le2 hn rfl | (first | lia | omega)) B4 P4 (by first | exact le1 hn rfl | exact le2 hn rfl | (first | lia | omega)) (by simp at l3 l4; (first | lia | omega)) (.inr ⟨_, _, _, rfl⟩) fun H5 j5 x y z l5 B5 P5 => ⟨True.intro, ?_⟩
  exact law_tail (by first | exact le1 hn rfl | exact le2 hn rfl | (first | lia | omega)) (by first | exact le1 hn rfl | exact le2 hn rfl | (first | lia | omega)) B5 P5 (by first | exact le1 hn rfl | exact le2 hn rfl | (first | lia | omega)) (by simp at l3 l4 l5; (first | lia | omega)) q
end Mine
namespace Mine
open PySem PySem.W PySem.Calls PyProof.Rows
noncomputable def fnAt : Fn → Addr
  | .mask => 21 | .toInt => 28 | .truth => 35 | .matches => 42 | .performFlow => 49 | .bag => 245 | .pull => 252 | .word => 259 | .test => 266 | .store => 273 | .case => 280 | .tree => 287
  | .fixed => 294 | .codes => 299 | .seen => 306 | .alike => 313 | .count => 320 | .chosen => 327 | .round => 334 | .reading => 341 | .slots => 346 | .follow => 353 | .same => 358 | .law => 365
noncomputable def mtAt : Mt → Addr
  | .makerInit => 84 | .emit => 91 | .here => 98 | .newSlot => 105 | .aim => 112 | .assignment => 126 | .branch => 140 | .selection => 147 | .loop => 154 | .repetition => 161 | .scoped => 168
  | .close => 175 | .block => 182 | .looping => 203 | .make => 210 | .threadInit => 231
noncomputable def clsAt : Cls → Addr
  | .maker => 213 | .thread => 234
inductive FdOk (K : Frag) (a : Addr) (s : Stmt) : Prop
  | mk (o : Obj) (fd : FuncData) (c : Addr) (oc : Obj) (vs : Array Value) (t : Tok) : K.lookup a = some o → o.data = .func fd → fd.params = dArgs s → fd.body = .stmts (dBody s) → fd.scope = dScope s → fd.globals = mainGlobals → fd.builtins = builtinsNs → fd.defaults = .none → fd.kwdefaults = .none →
      fd.closure = [] → fd.code = .ref c → K.lookup c = some oc → oc.data = .fields vs → vs[1]? = some (Value.str fd.qualname t) → FdOk K a s
theorem vl0 {P : List Value → Prop} {vs : List Value} (h : vs.length = 0) (f : P []) : P vs := by
  cases vs with
  | nil => exact f 
  | cons z vs => exact absurd h (by simp)
theorem vl1 {P : List Value → Prop} {vs : List Value} (h : vs.length = 1) (f : ∀ a, P [a]) : P vs := by
  cases vs with
  | nil => exact absurd h (by simp)
  | cons a vs =>
    cases vs with
    | nil => exact f a
    | cons z vs => exact absurd h (by simp)
theorem vl2 {P : List Value → Prop} {vs : List Value} (h : vs.length = 2) (f : ∀ a b, P [a, b]) : P vs := by
  cases vs with
  | nil => exact absurd h (by simp)
  | cons a vs =>
    cases vs with
    | nil => exact absurd h (by simp)
    | cons b vs =>
      cases vs with
      | nil => exact f a b
      | cons z vs => exact absurd h (by simp)
theorem vl3 {P : List Value → Prop} {vs : List Value} (h : vs.length = 3) (f : ∀ a b c, P [a, b, c]) : P vs := by
  cases vs with
  | nil => exact absurd h (by simp)
  | cons a vs =>
    cases vs with
    | nil => exact absurd h (by simp)
    | cons b vs =>
      cases vs with
      | nil => exact absurd h (by simp)
      | cons c vs =>
        cases vs with
        | nil => exact f a b c
        | cons z vs => exact absurd h (by simp)
theorem vl4 {P : List Value → Prop} {vs : List Value} (h : vs.length = 4) (f : ∀ a b c d, P [a, b, c, d]) : P vs := by
  cases vs with
  | nil => exact absurd h (by simp)
  | cons a vs =>
    cases vs with
    | nil => exact absurd h (by simp)
    | cons b vs =>
      cases vs with
      | nil => exact absurd h (by simp)
      | cons c vs =>
        cases vs with
        | nil => exact absurd h (by simp)
        | cons d vs =>
          cases vs with
          | nil => exact f a b c d
          | cons z vs => exact absurd h (by simp)
theorem vl5 {P : List Value → Prop} {vs : List Value} (h : vs.length = 5) (f : ∀ a b c d e, P [a, b, c, d, e]) : P vs := by
  cases vs with
  | nil => exact absurd h (by simp)
  | cons a vs =>
    cases vs with
    | nil => exact absurd h (by simp)
    | cons b vs =>
      cases vs with
      | nil => exact absurd h (by simp)
      | cons c vs =>
        cases vs with
        | nil => exact absurd h (by simp)
        | cons d vs =>
          cases vs with
          | nil => exact absurd h (by simp)
          | cons e vs =>
            cases vs with
            | nil => exact f a b c d e
            | cons z vs => exact absurd h (by simp)
theorem vl6 {P : List Value → Prop} {vs : List Value} (h : vs.length = 6) (f : ∀ a b c d e g, P [a, b, c, d, e, g]) : P vs := by
  cases vs with
  | nil => exact absurd h (by simp)
  | cons a vs =>
    cases vs with
    | nil => exact absurd h (by simp)
    | cons b vs =>
      cases vs with
      | nil => exact absurd h (by simp)
      | cons c vs =>
        cases vs with
        | nil => exact absurd h (by simp)
        | cons d vs =>
          cases vs with
          | nil => exact absurd h (by simp)
          | cons e vs =>
            cases vs with
            | nil => exact absurd h (by simp)
            | cons g vs =>
              cases vs with
              | nil => exact f a b c d e g
              | cons z vs => exact absurd h (by simp)
theorem fn_binds : ∀ (m : Fn) (fd : FuncData), fd.params = dArgs m.st → fd.defaults = .none → fd.kwdefaults = .none → ∀ vs : List Value, vs.length = (dPars m.st).length → bindArgs fd ⟨vs, []⟩ = pure ((dPars m.st).zip vs) := by
  intro f fd h1 h2 h3 vs hv
  obtain ⟨n1, n2, p, n4, n5, n6, n7, n8, n9, n10, n11, n12, n13, n14, n15⟩ := fd
  simp only at h1 h2 h3
  subst h1 h2 h3
  rw [fn_np] at hv
  cases f <;> first | (apply vl0 hv; rfl) | (apply vl1 hv; intro a; rfl) | (apply vl2 hv; intro a b; rfl) | (apply vl3 hv; intro a b c; rfl) | (apply vl4 hv; intro a b c d; rfl) | (apply vl5 hv; intro a b c d e; rfl) | (apply vl6 hv; intro a b c d e g; rfl)
theorem mt_binds : ∀ (m : Mt) (fd : FuncData), fd.params = dArgs m.st → fd.defaults = .none → fd.kwdefaults = .none → ∀ vs : List Value, vs.length = (dPars m.st).length → bindArgs fd ⟨vs, []⟩ = pure ((dPars m.st).zip vs) := by
  intro f fd h1 h2 h3 vs hv
  obtain ⟨n1, n2, p, n4, n5, n6, n7, n8, n9, n10, n11, n12, n13, n14, n15⟩ := fd
  simp only at h1 h2 h3
  subst h1 h2 h3
  rw [mt_np] at hv
  cases f <;> first | (apply vl0 hv; rfl) | (apply vl1 hv; intro a; rfl) | (apply vl2 hv; intro a b; rfl) | (apply vl3 hv; intro a b c; rfl) | (apply vl4 hv; intro a b c d; rfl) | (apply vl5 hv; intro a b c d e; rfl) | (apply vl6 hv; intro a b c d e g; rfl)
theorem fd_ok {K : Frag} {h : Heap} (X : K.In h) {a : Addr} {s : Stmt} (p : ∀ (fd : FuncData), fd.params = dArgs s → fd.defaults = .none → fd.kwdefaults = .none → ∀ vs : List Value, vs.length = (dPars s).length → bindArgs fd ⟨vs, []⟩ = pure ((dPars s).zip vs)) (F : FdOk K a s) :
    ∃ o fd, h.get? a = some o ∧ o.data = .func fd ∧ DefOk s fd ∧ fd.closure = [] ∧ h.CodeRec fd.code fd.qualname := by
  obtain ⟨o, fd, c, oc, vs, t, e1, e2, e3, e4, e5, e6, e7, e8, e9, e10, e11, e12, e13, e14⟩ := F
  exact ⟨o, fd, X _ _ e1, e2, ⟨e4, e5, e6, e7, p fd e3 e8 e9⟩, e10, c, oc, vs, t, e11, X _ _ e12, e13, e14⟩
structure KOk (K : Frag) : Prop where
  fn : ∀ f : Fn, FdOk K (fnAt f) f.st
  mt : ∀ m : Mt, FdOk K (mtAt m) m.st
  gf : ∀ f : Fn, nsIn K mainGlobals f.str = some (some (.ref (fnAt f)))
  gc : ∀ k : Cls, nsIn K mainGlobals k.str = some (some (.ref (clsAt k)))
  gb : ∀ b : Bn, nsIn K mainGlobals b.str = some none
  fol : ∃ o fd, K.lookup (fnAt .follow) = some o ∧ o.data = .func fd ∧ fd.code = .ref 352 ∧ fd.qualname = Fn.follow.str
  get : ∀ k : Cls, findIn K (.ref (clsAt k)) (Str.ofString "__getattribute__") = some (some (.builtin "object.__getattribute__")) ∧ findIn K (.ref (clsAt k)) (Str.ofString "__getattr__") = some none
  hasDict : ∀ k : Cls, hasDictIn K (clsAt k) = true
  attr : ∀ (k : Cls) (a : At), findIn K (.ref (clsAt k)) a.str = some none
  meth : ∀ m : Mt, findIn K (.ref (clsAt m.cls)) m.str = some (some (.ref (mtAt m))) ∧ isFn K (.ref (mtAt m)) = true
  sets : ∀ k : Cls, findIn K (.ref (clsAt k)) (Str.ofString "__setattr__") = some (some (.builtin "object.__setattr__")) ∧ plainOver K (clsAt k) = true
  makes : ∀ k : Cls, makesIn K (clsAt k) = true
  keepC : ∀ k : Cls, keepIn K (.ref (clsAt k)) = true
noncomputable def theCfg (prog : Program) (w : World) (h0 : Heap) (K : Frag) (scrA : Addr) (scr : List Int) : Cfg := ⟨prog, w, h0, K, fnAt, mtAt, clsAt, scrA, scr, 352, 348⟩
theorem bn_boot : ∀ b : Bn, bootBuiltins b.str = some b.val ∧ b.str ≠ "__name__" := by intro b; cases b <;> exact ⟨by rfl, by decide +kernel⟩
theorem stat_of {prog : Program} {w : World} {h0 : Heap} {K : Frag} {scrA : Addr} {scr : List Int} {vs : List Value} {p : Program} {loose : List Str} {mean : ExcName → Option Value} {mg mb : Str → Option Value}
    (O : KOk K) (X : K.In h0) (T : Top p loose mean mg mb h0) (C : CodeHd h0 352 348) (ht : h0.get? 348 = none) (L : h0.IsList scrA vs.toArray) (I : IntsAre vs scr) (hl : scr.length ≤ 63) : Stat (theCfg prog w h0 K scrA scr) where
  X := X
  nolimit := T.nolimit
  glob := by
    refine ⟨mg, mb, T.g, T.b, fun f => mg_of X T.g (O.gf f), fun k => mg_of X T.g (O.gc k), fun b => ⟨mg_none_of X T.g (O.gb b), (T.builtins _ (bn_boot b).2).trans (bn_boot b).1⟩, ?_⟩
    obtain ⟨bm, ob, b1, b2, b3, b4, b5, b6⟩ := T.bmain
    refine ⟨bm, ob, b1, b2, fun q => ?_, fun q => ?_, b3, b4, b5, b6⟩
    · obtain ⟨o, es, ep, e, hd, _⟩ := T.g
      rw [q, e] at b3; cases b3; rw [hd] at b6; cases b6
    · rw [q] at b3
      have : h0.get? 348 = some ob := b3
      rw [ht] at this; cases this
  fn := fun f => fd_ok X (fn_binds f) (O.fn f)
  mt := fun m => fd_ok X (mt_binds m) (O.mt m)
  folCode := fun o fd ho hd => by
    obtain ⟨o', fd', h1, h2, h3, h4⟩ := O.fol
    have h1 : h0.get? (fnAt .follow) = some o' := X _ _ h1
    have ho : h0.get? (fnAt .follow) = some o := ho
    rw [ho] at h1; cases h1
    rw [hd] at h2; cases h2
    exact ⟨h3, h4⟩
  codeHd := C
  get := O.get
  hasDict := O.hasDict
  attr := O.attr
  meth := O.meth
  sets := O.sets
  makes := O.makes
  keepC := O.keepC
  scrAt := ⟨vs, L, I, hl⟩
end Mine
namespace Mine
open PySem PySem.W PySem.Calls PyProof.Rows
noncomputable def lawEnv (nm : Str) (L fa : Addr) (cd : Value) : Env := envOf nm (dScope Fn.law.st) L fa cd
theorem law_names : (dScope Fn.law.st).kind = .function ∧ (∀ z ∈ (dScope Fn.law.st).names, z.2 ≠ .cell ∧ z.2 ≠ .free) ∧ (dScope Fn.law.st).names.lookup (Str.ofString "script") = some .local ∧ Fn.law.tab[0]? = some (Str.ofString "script") ∧ nodupB Fn.law.tab = true ∧
    matchSs (dScope Fn.law.st) Fn.law.tab t_law (dBody Fn.law.st) = true := by decide +kernel
theorem law_env {nm : Str} {L fa : Addr} {cd : Value} : EnvOk (lawEnv nm L fa cd) (dScope Fn.law.st) := by
  obtain ⟨h1, h2, _⟩ := law_names
  refine ⟨rfl, h1, rfl, rfl, fun n hn => ?_⟩
  rcases hn with hn | hn
  · exact absurd rfl (h2 _ (PySem.mem_of_lookup hn)).1
  · exact absurd rfl (h2 _ (PySem.mem_of_lookup hn)).2
theorem final {prog : Program} {w : World} {h0 h1 : Heap} {K : Frag} {scrA L fa : Addr} {cd : Value} {nm : Str} {scr : List Int} {vs : List Value} {p : Program} {loose : List Str} {mean mean2 : ExcName → Option Value} {mg mb : Str → Option Value} {cl : Str → Option Addr} {claim : ClaimW} {args : List WData}
    {s1 : Shared} {tk tk2 : Tok} {E : Value → Shared → Prop} (O : KOk K) (X : K.In h0) (T : Top p loose mean mg mb h0) (F : Fr h0 L h1 fun x => List.lookup x [(Str.ofString "script", Value.ref scrA)].reverse) (lifted : h0.IsList scrA vs.toArray) (C : CodeHd h0 352 348)
    (N : News h0 L h1 [(348, tabObj #[])]) (I : IntsAre vs scr) (hl : ¬ (63 : Int) < scr.length) (hg : s1.gens = #[]) (hr : ∀ cls, claim.raises args cls = false) (hp : claim.post args (.bool true) args = true) :
    wpAny (model prog w) (callerA.deeper (lawEnv nm L fa cd)) (execs (dBody Fn.law.st) (lawEnv nm L fa cd))
      (fun f s' => GoodW claim cl mean2 args { heap := h0, gens := s1.gens, drawn := s1.drawn, toks := tk, os := s1.os } (.ok (.ret (match f with | .ret v => v | _ => .none))) s' ∧ GrownAll [(352, 348)] s'.heap) E
      { heap := h1, gens := s1.gens, drawn := s1.drawn, toks := tk2, os := s1.os } := by
  obtain ⟨n1, n2, n3⟩ := N (348, tabObj #[]) (List.mem_singleton.mpr rfl)
  have S : Stat (theCfg prog w h0 K scrA scr) := stat_of O X T C n3 lifted I (by (first | lia | omega))
  obtain ⟨k1, k2, k3, k4, k5, k6⟩ := law_names
  have R : RH (theCfg prog w h0 K scrA scr) [] [] { heap := h1, gens := s1.gens, drawn := s1.drawn, toks := tk2, os := s1.os } :=
    ⟨fun b o e => F.keep b o e, rfl, (fun i o p e _ => by cases e), (fun p hp => nomatch hp), (fun i j p q e => by cases e), ⟨#[], n1, n3, .inl rfl⟩⟩
  have FR : FrameRel (theCfg prog w h0 K scrA scr) (lawEnv nm L fa cd) Fn.law.tab [.scr] [] h1 (fun x => List.lookup x [(Str.ofString "script", Value.ref scrA)].reverse) := by
    refine ⟨F.ns, fun i x hi hne => ?_, ⟨(fun p hp => nomatch hp), n2.symm, Heap.get?_none_of_le F.above⟩, by decide⟩
    cases i with
    | succ j => exact absurd rfl hne
    | zero =>
      rw [k4] at hi
      cases hi
      refine ⟨.ref scrA, by show VRel _ _ _ .scr _; simp only [VRel]; rfl, .inl ⟨k3, ?_⟩⟩
      simp
  have A0 : Room (callerA.deeper (lawEnv nm L fa cd)) (2 * 21 + 1) := ⟨rfl, by show callerA.depth + 1 + 43 < 900; decide, by show callerA.units + 3 + 12 * 43 < 9000; decide⟩
  refine wpAny_mono (matchSs_ok S A0 (callOk_n S 21) t_law (lawEnv nm L fa cd) (dScope Fn.law.st) Fn.law.tab (dBody Fn.law.st) law_env (nodup_of k5) k6 [.scr] _ [] [] _ (fun fl _ _ => fl = .ret (.bool true)) FR R (law_ok (by (first | lia | omega)) (by show scr.length ≤ _; (first | lia | omega)) fun _ _ => rfl)) (fun f s' P => ?_) fun e s' x => x.elim
  obtain ⟨ρ', loc', H', m', fl, R', X', F', fr, rfl⟩ := P
  obtain ⟨x, rfl, vx⟩ := fr
  simp only [VRel] at vx
  subst vx
  obtain ⟨ps, t1, t2, _⟩ := R'.tabs
  refine ⟨⟨.inl ⟨.bool true, .bool true, [], rfl, hr, .bool true, hp, fun _ => ⟨List.nodup_nil, (fun a h => nomatch h)⟩⟩, R'.base, X'.os, X'.gens.trans hg⟩, ⟨ps, t1⟩, True.intro⟩
theorem post_true (args : List WData) : PySem.Challenge.rw_sj0047_01.row.claim.post args (.bool true) args = true := by wrow_post
end Mine
open PySem PySem.W PyProof.Rows
set_option Elab.async true
noncomputable def Mine.head.tw6474009502463322548 : Unit := ()
noncomputable def Mine.head.tw15148963937461231693 : Unit := ()
noncomputable def Mine.head.tw18393134070746608696 : Unit := ()
noncomputable def Mine.head.tw7986725268353890298 : Unit := ()
noncomputable def Mine.head.tw11510851538340594569 : Unit := ()
noncomputable def Mine.head.tw4648074632519319735 : Unit := ()
noncomputable def Mine.head.tw2083131375344130036 : Unit := ()
noncomputable def Mine.head.tw3914408259199498807 : Unit := ()
noncomputable def Mine.head.tw1457377512435260902 : Unit := ()
noncomputable def Mine.head.tw13958067486993825360 : Unit := ()
noncomputable def Mine.head.tw13335025841360890868 : Unit := ()
noncomputable def Mine.head.tw3746228215898030841 : Unit := ()
noncomputable def Mine.head.tw2326617092838664518 : Unit := ()
noncomputable def Mine.head.tw466721876749952763 : Unit := ()
noncomputable def Mine.head.tw8912104118211102971 : Unit := ()
noncomputable def Mine.head.tw18433677622606106133 : Unit := ()
noncomputable def Mine.head.tw4839655697589452165 : Unit := ()
noncomputable def Mine.head.tw13508044439285423174 : Unit := ()
noncomputable def Mine.head.tw6388477656530123435 : Unit := ()
noncomputable def Mine.head.tw14882813523228863612 : Unit := ()
noncomputable def Mine.head.tw12604462930493870256 : Unit := ()
noncomputable def Mine.head.tw6211381574409162282 : Unit := ()
noncomputable def Mine.head.tw9062998866958442273 : Unit := ()
noncomputable def Mine.head.tw16572314662081343053 : Unit := ()
noncomputable def Mine.head.tw11821203517306503961 : Unit := ()
noncomputable def Mine.head.tw13246386896891170512 : Unit := ()
noncomputable def Mine.head.tw6085824867444503733 : Unit := ()
noncomputable def Mine.head.tw14744981736328886265 : Unit := ()
noncomputable def Mine.head.tw5019597260055213698 : Unit := ()
noncomputable def Mine.head.tw45052839361067614 : Unit := ()
noncomputable def Mine.head.tw8476099583838051002 : Unit := ()
noncomputable def Mine.head.tw2728595385866086531 : Unit := ()
noncomputable def Mine.head.tw11290360913936777911 : Unit := ()
noncomputable def Mine.head.tw15895551434495452948 : Unit := ()
noncomputable def Mine.head.tw13337238644230332656 : Unit := ()
noncomputable def Mine.head.tw9388430590476628193 : Unit := ()
noncomputable def Mine.head.tw17297054508065495485 : Unit := ()
noncomputable def Mine.head.tw10258521583956687137 : Unit := ()
noncomputable def Mine.head.tw16800043278716471037 : Unit := ()
noncomputable def Mine.head.tw10079960370226730655 : Unit := ()
noncomputable def Mine.head.tw12478146576626367362 : Unit := ()
noncomputable def Mine.head.tw820421773197932041 : Unit := ()
noncomputable def Mine.head.tw13585267454733459922 : Unit := ()
noncomputable def Mine.head.tw2355103038987944067 : Unit := ()
noncomputable def Mine.head.tw3980653432952411973 : Unit := ()
noncomputable def Mine.head.tw17173245716831642929 : Unit := ()
noncomputable def Mine.head.tw4964814941381164201 : Unit := ()
noncomputable def Mine.head.tw10431609616501453582 : Unit := ()
noncomputable def Mine.head.tw3944913497352057107 : Unit := ()
noncomputable def Mine.head.tw4196546014268931301 : Unit := ()
noncomputable def Mine.head.tw8812732774380208333 : Unit := ()
noncomputable def Mine.head.tw4528443807372415038 : Unit := ()
noncomputable def Mine.head.tw14843749296085226474 : Unit := ()
noncomputable def Mine.head.tw6161856959107265637 : Unit := ()
noncomputable def Mine.head.tw11427066125472700054 : Unit := ()
noncomputable def Mine.head.tw1495726902847802894 : Unit := ()
noncomputable def Mine.head.tw8874674299285249911 : Unit := ()
noncomputable def Mine.head.tw16817119741492734445 : Unit := ()
noncomputable def Mine.head.tw3304075619188804072 : Unit := ()
noncomputable def Mine.head.tw69809265629811306 : Unit := ()
noncomputable def Mine.head.tw8101760021730824546 : Unit := ()
noncomputable def Mine.head.tw12773685731770592110 : Unit := ()
noncomputable def Mine.head.tw6088685845774392931 : Unit := ()
noncomputable def Mine.head.tw11105056867450500199 : Unit := ()
noncomputable def Mine.head.tw11434997419882176723 : Unit := ()
noncomputable def Mine.head.tw4709128311485490483 : Unit := ()
noncomputable def Mine.head.tw13743032657059413451 : Unit := ()
noncomputable def Mine.head.tw4857777746444614323 : Unit := ()
noncomputable def Mine.head.tw9592777112578238593 : Unit := ()
noncomputable def Mine.head.tw15798066900824788120 : Unit := ()
noncomputable def Mine.head.tw649443455394278489 : Unit := ()
noncomputable def Mine.head.tw15510365090734361527 : Unit := ()
noncomputable def Mine.head.tw15895748673760503845 : Unit := ()
noncomputable def Mine.head.tw12310735299239354703 : Unit := ()
noncomputable def Mine.head.tw16966009324859112401 : Unit := ()
noncomputable def Mine.head.tw1319983325249436295 : Unit := ()
noncomputable def Mine.head.tw1992862871153497056 : Unit := ()
noncomputable def Mine.head.tw8534208459206503383 : Unit := ()
noncomputable def Mine.head.tw18007968972792079559 : Unit := ()
noncomputable def Mine.head.tw6880043348581005364 : Unit := ()
noncomputable def Mine.head.tw5737951250597237232 : Unit := ()
noncomputable def Mine.head.tw4277651752456152607 : Unit := ()
noncomputable def Mine.head.tw4972248218790579157 : Unit := ()
noncomputable def Mine.head.tw17646911460466567920 : Unit := ()
noncomputable def Mine.head.tw10668533816033670360 : Unit := ()
noncomputable def Mine.head.tw6871339299614917876 : Unit := ()
noncomputable def Mine.head.tw3690969761935527329 : Unit := ()
noncomputable def Mine.head.tw12207028300977255130 : Unit := ()
noncomputable def Mine.head.tw3986194592780655508 : Unit := ()
noncomputable def Mine.head.tw1315816938146588887 : Unit := ()
noncomputable def Mine.head.tw7253898381062576733 : Unit := ()
noncomputable def Mine.head.tw3160712208675142370 : Unit := ()
noncomputable def Mine.head.tw16128420640991077102 : Unit := ()
noncomputable def Mine.head.tw5944575059761466720 : Unit := ()
noncomputable def Mine.head.tw8451290768687142514 : Unit := ()
noncomputable def Mine.head.tw15091486752826498866 : Unit := ()
noncomputable def Mine.head.tw9407594320385231609 : Unit := ()
noncomputable def Mine.head.tw5986637957666399235 : Unit := ()
noncomputable def Mine.head.tw14628233357713752721 : Unit := ()
noncomputable def Mine.head.tw9658139154387788515 : Unit := ()
noncomputable def Mine.head.tw8603420104599213669 : Unit := ()
noncomputable def Mine.head.tw5617373736292572815 : Unit := ()
noncomputable def Mine.head.tw9162278640276766204 : Unit := ()
noncomputable def Mine.head.tw9978949632667528635 : Unit := ()
noncomputable def Mine.head.tw11308087075614649832 : Unit := ()
noncomputable def Mine.head.tw7494366503370351645 : Unit := ()
noncomputable def Mine.head.tw6846597200999610202 : Unit := ()
noncomputable def Mine.head.tw14139502460874162764 : Unit := ()
noncomputable def Mine.head.tw6857060684267632606 : Unit := ()
noncomputable def Mine.head.tw17674571679781333832 : Unit := ()
noncomputable def Mine.head.tw12858780395421280599 : Unit := ()
noncomputable def Mine.head.tw12704426703380559182 : Unit := ()
noncomputable def Mine.head.tw5599997604879368025 : Unit := ()
noncomputable def Mine.head.tw5788964047882338313 : Unit := ()
noncomputable def Mine.head.tw7994106446794305319 : Unit := ()
noncomputable def Mine.head.tw2506711637615833298 : Unit := ()
noncomputable def Mine.head.tw8035625575855466936 : Unit := ()
noncomputable def Mine.head.tw12359489953124434286 : Unit := ()
noncomputable def Mine.head.tw17002534310236347988 : Unit := ()
noncomputable def Mine.head.tw12475708393154427166 : Unit := ()
noncomputable def Mine.head.tw10510622979536455646 : Unit := ()
noncomputable def Mine.head.tw6202090305015876224 : Unit := ()
noncomputable def Mine.head.tw13295774097974887486 : Unit := ()
noncomputable def Mine.head.tw17093656651364094606 : Unit := ()
noncomputable def Mine.head.tw7680146299302783591 : Unit := ()
noncomputable def Mine.head.tw9984397402777080727 : Unit := ()
noncomputable def Mine.head.tw4160124254940468481 : Unit := ()
noncomputable def Mine.head.tw4975070653579243887 : Unit := ()
noncomputable def Mine.head.tw17113217626458354986 : Unit := ()
noncomputable def Mine.head.tw14788773977795034992 : Unit := ()
noncomputable def Mine.head.tw17782148633632673465 : Unit := ()
noncomputable def Mine.head.tw18384547517478447814 : Unit := ()
noncomputable def Mine.head.tw497287684792784471 : Unit := ()
noncomputable def Mine.head.tw10812213935944405949 : Unit := ()
noncomputable def Mine.head.tw14969872817325187116 : Unit := ()
noncomputable def Mine.head.tw6588589085864783938 : Unit := ()
noncomputable def Mine.head.tw1618804561499322139 : Unit := ()
noncomputable def Mine.head.tw8997269238129315039 : Unit := ()
noncomputable def Mine.head.tw532055438628499158 : Unit := ()
noncomputable def Mine.head.tw9082462177598256812 : Unit := ()
noncomputable def Mine.head.tw3453547403478019728 : Unit := ()
noncomputable def Mine.head.tw1211024037004892549 : Unit := ()
noncomputable def Mine.head.tw4365531650435653512 : Unit := ()
noncomputable def Mine.head.tw10519217271611395807 : Unit := ()
noncomputable def Mine.head.tw7450023128482652576 : Unit := ()
noncomputable def Mine.head.tw3368030927266983236 : Unit := ()
noncomputable def Mine.head.tw262713603470380999 : Unit := ()
noncomputable def Mine.head.tw6507506987150044280 : Unit := ()
noncomputable def Mine.head.tw12903917746401883607 : Unit := ()
noncomputable def Mine.head.tw976808484645153763 : Unit := ()
noncomputable def Mine.head.tw9820158181544301314 : Unit := ()
noncomputable def Mine.head.tw12330954535739239725 : Unit := ()
noncomputable def Mine.head.tw17411354535832351560 : Unit := ()
noncomputable def Mine.head.tw10205530081349824492 : Unit := ()
noncomputable def Mine.head.tw533756555076263647 : Unit := ()
noncomputable def Mine.head.tw17577399041416155939 : Unit := ()
noncomputable def Mine.head.tw3688799982635324794 : Unit := ()
noncomputable def Mine.head.tw7712916153251135833 : Unit := ()
noncomputable def Mine.head.tw17188972718952451159 : Unit := ()
noncomputable def Mine.head.tw12987040726578829979 : Unit := ()
noncomputable def Mine.head.tw5508695066786827253 : Unit := ()
noncomputable def Mine.head.tw13896987355042952010 : Unit := ()
noncomputable def Mine.head.tw14205479233844494046 : Unit := ()
noncomputable def Mine.head.tw17486745465964746516 : Unit := ()
noncomputable def Mine.head.tw6100774026682323163 : Unit := ()
noncomputable def Mine.head.tw15520248196984853422 : Unit := ()
noncomputable def Mine.head.tw851385035628625539 : Unit := ()
noncomputable def Mine.head.tw9114333099845857663 : Unit := ()
noncomputable def Mine.head.tw742351954350328859 : Unit := ()
noncomputable def Mine.head.tw17725469503822016867 : Unit := ()
noncomputable def Mine.head.tw10706776884845955466 : Unit := ()
noncomputable def Mine.head.tw10840385229135970747 : Unit := ()
noncomputable def Mine.head.tw10366927770000222440 : Unit := ()
noncomputable def Mine.head.tw1748456618969930982 : Unit := ()
noncomputable def Mine.head.tw7658410731251134818 : Unit := ()
noncomputable def Mine.head.tw5506250874072839755 : Unit := ()
noncomputable def Mine.head.tw10730805705081004914 : Unit := ()
noncomputable def Mine.head.tw1852205218256702202 : Unit := ()
noncomputable def Mine.head.tw18332285231265401824 : Unit := ()
noncomputable def Mine.head.tw10533634037010066435 : Unit := ()
noncomputable def Mine.head.tw930087139818521243 : Unit := ()
noncomputable def Mine.head.tw7833285031277912329 : Unit := ()
noncomputable def Mine.head.tw16640130746408290383 : Unit := ()
noncomputable def Mine.head.tw3615648651819825313 : Unit := ()
noncomputable def Mine.head.tw1620002657737552111 : Unit := ()
noncomputable def Mine.head.tw4433315090154635215 : Unit := ()
noncomputable def Mine.head.tw4965378191221513410 : Unit := ()
noncomputable def Mine.head.tw15296082917334920728 : Unit := ()
noncomputable def Mine.head.tw10898857373019930491 : Unit := ()
noncomputable def Mine.head.tw733406405333840765 : Unit := ()
noncomputable def Mine.head.tw12352672977532951062 : Unit := ()
noncomputable def Mine.head.tw17332727794074296334 : Unit := ()
noncomputable def Mine.head.tw1832916270232011604 : Unit := ()
noncomputable def Mine.head.tw16847831306532103052 : Unit := ()
noncomputable def Mine.head.tw11426403942048686318 : Unit := ()
noncomputable def Mine.head.tw11296743742662292762 : Unit := ()
noncomputable def Mine.head.tw17552560543380974038 : Unit := ()
noncomputable def Mine.head.tw16984083398119652359 : Unit := ()
noncomputable def Mine.head.tw14667470093908496907 : Unit := ()
noncomputable def Mine.head.tw2154566216772986472 : Unit := ()
noncomputable def Mine.head.tw14699756766385990792 : Unit := ()
noncomputable def Mine.head.tw3556061257289618393 : Unit := ()
noncomputable def Mine.head.tw12870424476946447624 : Unit := ()
noncomputable def Mine.head.tw5906749814970224870 : Unit := ()
noncomputable def Mine.head.tw7013799640231393816 : Unit := ()
noncomputable def Mine.head.tw12147184966966947637 : Unit := ()
noncomputable def Mine.head.tw9495540839478616804 : Unit := ()
noncomputable def Mine.head.tw2393098407364606883 : Unit := ()
noncomputable def Mine.head.tw12043669396524033845 : Unit := ()
noncomputable def Mine.head.tw4691952243595246448 : Unit := ()
noncomputable def Mine.head.tw17348764703882912863 : Unit := ()
noncomputable def Mine.head.tw9515422150858430662 : Unit := ()
noncomputable def Mine.head.tw44622916816846810 : Unit := ()
noncomputable def Mine.head.tw2825341998796452840 : Unit := ()
noncomputable def Mine.head.tw5346772772824661884 : Unit := ()
noncomputable def Mine.head.tw2340069552987342377 : Unit := ()
noncomputable def Mine.head.tw13198292447841614426 : Unit := ()
noncomputable def Mine.head.tw11544532188706048022 : Unit := ()
noncomputable def Mine.head.tw15841401105113185080 : Unit := ()
noncomputable def Mine.head.tw10018764681926925449 : Unit := ()
noncomputable def Mine.head.tw18123143868385100064 : Unit := ()
noncomputable def Mine.head.tw16894197260953374720 : Unit := ()
noncomputable def Mine.head.tw9464831228461672588 : Unit := ()
noncomputable def Mine.head.tw6110071263904590700 : Unit := ()
noncomputable def Mine.head.tw7287109101882759415 : Unit := ()
noncomputable def Mine.head.tw9083612298779875492 : Unit := ()
noncomputable def Mine.head.tw5187041380464763778 : Unit := ()
noncomputable def Mine.head.tw3991279037241028524 : Unit := ()
noncomputable def Mine.head.tw8866670633112419022 : Unit := ()
noncomputable def Mine.head.tw9702098958229961203 : Unit := ()
noncomputable def Mine.head.tw8715499118904818895 : Unit := ()
noncomputable def Mine.head.tw13294958713779813728 : Unit := ()
noncomputable def Mine.head.tw12822298378996975857 : Unit := ()
noncomputable def Mine.head.tw2581250870941146908 : Unit := ()
noncomputable def Mine.head.tw16714887947964762639 : Unit := ()
noncomputable def Mine.head.tw4063747431996464497 : Unit := ()
noncomputable def Mine.head.tw14417885227837004991 : Unit := ()
noncomputable def Mine.head.tw11692735721529064706 : Unit := ()
noncomputable def Mine.head.tw2554682012703037696 : Unit := ()
noncomputable def Mine.head.tw9186546921256032858 : Unit := ()
noncomputable def Mine.head.tw10021064610941686981 : Unit := ()
noncomputable def Mine.head.tw7313386461004707312 : Unit := ()
noncomputable def Mine.head.tw17464823870196871000 : Unit := ()
noncomputable def Mine.head.tw17014734716931888790 : Unit := ()
noncomputable def Mine.head.tw15501141472565082077 : Unit := ()
noncomputable def Mine.head.tw10261356005730403935 : Unit := ()
noncomputable def Mine.head.tw3088210815446039105 : Unit := ()
noncomputable def Mine.head.tw17789423225533864492 : Unit := ()
noncomputable def Mine.head.tw13906610036690215845 : Unit := ()
noncomputable def Mine.head.tw16997897962222511 : Unit := ()
noncomputable def Mine.head.tw15035418422258542911 : Unit := ()
noncomputable def Mine.head.tw6846866878297920324 : Unit := ()
noncomputable def Mine.head.tw12763952150808568291 : Unit := ()
noncomputable def Mine.head.tw9353324838224930552 : Unit := ()
noncomputable def Mine.head.tw5141578139466067413 : Unit := ()
noncomputable def Mine.head.tw5764021196749891206 : Unit := ()
noncomputable def Mine.head.tw1985537357303476512 : Unit := ()
noncomputable def Mine.head.tw12740806245664736207 : Unit := ()
noncomputable def Mine.head.tw2525317073905713282 : Unit := ()
noncomputable def Mine.head.tw13605870324054321959 : Unit := ()
noncomputable def Mine.head.tw17525636777796739105 : Unit := ()
noncomputable def Mine.head.tw12364624919760631829 : Unit := ()
noncomputable def Mine.head.tw5651425540991249520 : Unit := ()
noncomputable def Mine.head.tw10356212845559719233 : Unit := ()
noncomputable def Mine.head.tw11770459041652445329 : Unit := ()
noncomputable def Mine.head.tw467416434755642258 : Unit := ()
noncomputable def Mine.head.tw3581614266968435656 : Unit := ()
noncomputable def Mine.head.tw1134157569726261602 : Unit := ()
noncomputable def Mine.head.tw2591067827882107080 : Unit := ()
noncomputable def Mine.head.tw5331137831679937033 : Unit := ()
noncomputable def Mine.head.tw5438144065070405397 : Unit := ()
noncomputable def Mine.head.tw2096541523181747872 : Unit := ()
noncomputable def Mine.head.tw3089916443595474862 : Unit := ()
noncomputable def Mine.head.tw2864405669816312776 : Unit := ()
noncomputable def Mine.head.tw6298033893332097587 : Unit := ()
noncomputable def Mine.head.tw3973953319845086491 : Unit := ()
noncomputable def Mine.head.tw6836605351468522007 : Unit := ()
noncomputable def Mine.head.tw8402214883040486957 : Unit := ()
noncomputable def Mine.head.tw12775505166333009402 : Unit := ()
noncomputable def Mine.head.tw17698105195316432488 : Unit := ()
noncomputable def Mine.head.tw2994366008111725845 : Unit := ()
noncomputable def Mine.head.tw7599496313472250701 : Unit := ()
noncomputable def Mine.head.tw5015311536963163689 : Unit := ()
noncomputable def Mine.head.tw14699528089545365996 : Unit := ()
noncomputable def Mine.head.tw11484358847640170188 : Unit := ()
noncomputable def Mine.head.tw5140934472235413692 : Unit := ()
noncomputable def Mine.head.tw7523532297153676066 : Unit := ()
noncomputable def Mine.head.tw16111715859725283846 : Unit := ()
noncomputable def Mine.head.tw17854896373637125580 : Unit := ()
noncomputable def Mine.head.tw9746458257258439470 : Unit := ()
noncomputable def Mine.head.tw2694075680205673411 : Unit := ()
noncomputable def Mine.head.tw6889739017440866108 : Unit := ()
noncomputable def Mine.head.tw4381510469713062047 : Unit := ()
noncomputable def Mine.head.tw14512941343882779238 : Unit := ()
noncomputable def Mine.head.tw8185714761375850791 : Unit := ()
noncomputable def Mine.head.tw8159583801465064534 : Unit := ()
noncomputable def Mine.head.tw1499353310998574721 : Unit := ()
noncomputable def Mine.head.tw7928285938522686346 : Unit := ()
noncomputable def Mine.head.tw4976181008148175253 : Unit := ()
noncomputable def Mine.head.tw12506184313787218782 : Unit := ()
noncomputable def Mine.head.tw10010264046613662565 : Unit := ()
noncomputable def Mine.head.tw12998212659555988865 : Unit := ()
noncomputable def Mine.head.tw3496171461512900480 : Unit := ()
noncomputable def Mine.head.tw2879759524354350568 : Unit := ()
noncomputable def Mine.head.tw5092371620264689978 : Unit := ()
noncomputable def Mine.head.tw15468718075485040107 : Unit := ()
noncomputable def Mine.head.tw5629256929840616583 : Unit := ()
noncomputable def Mine.head.tw10987702880554017565 : Unit := ()
noncomputable def Mine.head.tw10504981510240967646 : Unit := ()
noncomputable def Mine.head.tw7512725033676591148 : Unit := ()
noncomputable def Mine.head.tw3083302935323014018 : Unit := ()
noncomputable def Mine.head.tw12201952087667049370 : Unit := ()
noncomputable def Mine.head.tw15638870477510070732 : Unit := ()
noncomputable def Mine.head.tw3749026756887285471 : Unit := ()
noncomputable def Mine.head.tw7789450098604059249 : Unit := ()
noncomputable def Mine.head.tw3794523003379204399 : Unit := ()
noncomputable def Mine.head.tw12841863872788715202 : Unit := ()
noncomputable def Mine.head.tw3715584954343283195 : Unit := ()
noncomputable def Mine.head.tw6587087628758450585 : Unit := ()
noncomputable def Mine.head.tw11862927689305589065 : Unit := ()
noncomputable def Mine.head.tw11194998557105285118 : Unit := ()
noncomputable def Mine.head.tw12472887615940459650 : Unit := ()
noncomputable def Mine.head.tw16874305072444578374 : Unit := ()
noncomputable def Mine.head.tw5479459121986351116 : Unit := ()
noncomputable def Mine.head.tw13954853420313727417 : Unit := ()
noncomputable def Mine.head.tw12949380547846470161 : Unit := ()
noncomputable def Mine.head.tw3665506230870052707 : Unit := ()
noncomputable def Mine.head.tw8895791426145780158 : Unit := ()
noncomputable def Mine.head.tw3512634313551410195 : Unit := ()
noncomputable def Mine.head.tw13086575352542018947 : Unit := ()
noncomputable def Mine.head.tw7876399200375917224 : Unit := ()
noncomputable def Mine.head.tw14982685227137828758 : Unit := ()
noncomputable def Mine.head.tw15037083628117588352 : Unit := ()
noncomputable def Mine.head.tw16172356507618199906 : Unit := ()
noncomputable def Mine.head.tw2529948359932261575 : Unit := ()
noncomputable def Mine.head.tw4415685298772064003 : Unit := ()
noncomputable def Mine.head.tw15506723302920939300 : Unit := ()
noncomputable def Mine.head.tw17905491414393134947 : Unit := ()
noncomputable def Mine.head.tw8187629637223713605 : Unit := ()
noncomputable def Mine.head.tw7090939061502383884 : Unit := ()
noncomputable def Mine.head.tw17265401458761052179 : Unit := ()
noncomputable def Mine.head.tw1506576300011279404 : Unit := ()
noncomputable def Mine.head.tw15204471325056678010 : Unit := ()
noncomputable def Mine.head.tw6121141971511671821 : Unit := ()
noncomputable def Mine.head.tw12032222614953749359 : Unit := ()
noncomputable def Mine.head.tw1463646239528298992 : Unit := ()
noncomputable def Mine.head.tw4607607821588926596 : Unit := ()
noncomputable def Mine.head.tw8627200689577751383 : Unit := ()
noncomputable def Mine.head.tw3547030090768783262 : Unit := ()
noncomputable def Mine.head.tw5797013207949663412 : Unit := ()
noncomputable def Mine.head.tw17312431094565309094 : Unit := ()
noncomputable def Mine.head.tw11714945338242495837 : Unit := ()
noncomputable def Mine.head.tw12851702773856589430 : Unit := ()
noncomputable def Mine.head.tw9325057278558614444 : Unit := ()
noncomputable def Mine.head.tw17988201657351507238 : Unit := ()
noncomputable def Mine.head.tw15410735652082386980 : Unit := ()
noncomputable def Mine.head.tw8382746154173761051 : Unit := ()
noncomputable def Mine.head.tw2203363585012173787 : Unit := ()
noncomputable def Mine.head.tw17700853532424174462 : Unit := ()
noncomputable def Mine.head.tw16072502192527678464 : Unit := ()
noncomputable def Mine.head.tw14999265807660949796 : Unit := ()
noncomputable def Mine.head.tw7688317290187622652 : Unit := ()
noncomputable def Mine.head.tw14842460003800876886 : Unit := ()
noncomputable def Mine.head.tw16782820856776367440 : Unit := ()
noncomputable def Mine.head.tw7661765248129044261 : Unit := ()
noncomputable def Mine.head.tw9716329373054682134 : Unit := ()
noncomputable def Mine.head.tw13353151263460963528 : Unit := ()
noncomputable def Mine.head.tw13988103294471073821 : Unit := ()
noncomputable def Mine.head.tw8408249889716310983 : Unit := ()
noncomputable def Mine.head.tw15782939476341012554 : Unit := ()
noncomputable def Mine.head.tw6247268493268985975 : Unit := ()
noncomputable def Mine.head.tw1909714482019496454 : Unit := ()
noncomputable def Mine.head.tw7758381527925395934 : Unit := ()
noncomputable def Mine.head.tw13510609219080548989 : Unit := ()
noncomputable def Mine.head.tw5319049981483164881 : Unit := ()
noncomputable def Mine.head.tw13955511503576765797 : Unit := ()
noncomputable def Mine.head.tw11124748197601291601 : Unit := ()
noncomputable def Mine.head.tw10875119458065257276 : Unit := ()
noncomputable def Mine.head.tw14492117785962260688 : Unit := ()
noncomputable def Mine.head.tw3103639331685909893 : Unit := ()
noncomputable def Mine.head.tw7119846925741900413 : Unit := ()
noncomputable def Mine.head.tw134757484588840074 : Unit := ()
noncomputable def Mine.head.tw8414573866900348196 : Unit := ()
noncomputable def Mine.head.tw9625377726130185387 : Unit := ()
noncomputable def Mine.head.tw2400818531096893172 : Unit := ()
noncomputable def Mine.head.tw2260579728952749127 : Unit := ()
noncomputable def Mine.head.tw5973763720392745831 : Unit := ()
noncomputable def Mine.head.tw5638995163158488052 : Unit := ()
noncomputable def Mine.head.tw10059252607514160932 : Unit := ()
noncomputable def Mine.head.tw4023466491090337370 : Unit := ()
noncomputable def Mine.head.tw6640010369347007910 : Unit := ()
noncomputable def Mine.head.tw18416563613846182222 : Unit := ()
noncomputable def Mine.head.tw13199516396595161752 : Unit := ()
noncomputable def Mine.head.tw5104563664521345299 : Unit := ()
noncomputable def Mine.head.tw13180129090757240718 : Unit := ()
noncomputable def Mine.head.tw17243387458012846398 : Unit := ()
noncomputable def Mine.head.tw1212124681294104184 : Unit := ()
set_option maxRecDepth 100000 in
set_option maxHeartbeats 8000000 in
theorem Mine.head : PySem.Challenge.rw_sj0047_01.Holds := by
  (w_on; o_law; k_head; (case hw => w_witness2); w_strict k_go0)
  refine Mine.final (K := Mine.head.heap_1_39 _) ?hk (by assumption) (by assumption) (by assumption) (by assumption) (by assumption) (by assumption) (by assumption) (by assumption) (by assumption) ?hr ?hp
  case hk =>
    exact {
      fn := by intro f; cases f <;> exact ⟨_, _, _, _, _, _, rfl, rfl, rfl, rfl, rfl, rfl, rfl, rfl, rfl, rfl, rfl, rfl, rfl, rfl⟩
      mt := by intro f; cases f <;> exact ⟨_, _, _, _, _, _, rfl, rfl, rfl, rfl, rfl, rfl, rfl, rfl, rfl, rfl, rfl, rfl, rfl, rfl⟩
      gf := by intro f; cases f <;> rfl
      gc := by intro f; cases f <;> rfl
      gb := by intro f; cases f <;> rfl
      fol := ⟨_, _, rfl, rfl, rfl, rfl⟩
      get := by intro k; cases k <;> exact ⟨by rfl, by rfl⟩
      hasDict := by intro k; cases k <;> rfl
      attr := by intro k a; cases k <;> cases a <;> rfl
      meth := by intro m; cases m <;> exact ⟨by rfl, by rfl⟩
      sets := by intro k; cases k <;> exact ⟨by rfl, by rfl⟩
      makes := by intro k; cases k <;> rfl
      keepC := by intro k; cases k <;> rfl }
  case hr => intro cls; rfl
  case hp => exact Mine.post_true _
theorem PySem.Challenge.cw_sj0047_01_holds : PySem.Challenge.rw_sj0047_01.Holds :=
  Mine.head
